import PyProof.Rows.All
import Wide.All
import OpenK.AllK
import Wide.FinOn
import HandS.ForMost
import HandS.ForExc
import HandS.Walk
import HandS.Flow
import HandS.CallSlots
import HandS.TryMany
import HandS.SortInts
import HandS.TupAny
import HandS.TupMul
import HandS.Zip
import HandS.DictComp
import HandS.IsInst
import HandS.More
import HandS.ExcField
import HandS.ExcSuper
import PyProof.ReprRoads
import KE.GoesEnum
import HandS.Ends
import HandS.EndBits
import HandS.Defaults
import KE.KExcSuper
import HandS.Exc
import HandS.HeadWalk
import HandS.HeadHook2
import HandS.Conv
import KE.KStateDown
import HandS.Head0
import HandS.Head1
import HandS.Head2
import HandS.HeadEnd
import PySem.Challenge.RW_timewrought_k74_whole_pulses
/-! part InA -/
set_option Elab.async false
set_option linter.all false
set_option maxRecDepth 100000
/-! The small language: plain data, a store of live lists and dicts, expressions, statements, and what they do. -/
namespace In
open PySem

/-! ### equality of data -/
mutual
def deqB : PyData → PyData → Bool
  | .none, .none => true
  | .bool a, .bool b => a == b
  | .int i, .int j => decide (i = j)
  | .str x, .str y => decide (x = y)
  | .list xs, .list ys => deqL xs ys
  | .tuple xs, .tuple ys => deqL xs ys
  | .dict ks, .dict ls => deqK ks ls
  | _, _ => false
def deqL : List PyData → List PyData → Bool
  | [], [] => true
  | x :: xs, y :: ys => deqB x y && deqL xs ys
  | _, _ => false
def deqK : List (PyData × PyData) → List (PyData × PyData) → Bool
  | [], [] => true
  | (k, v) :: r, (k', v') :: r' => deqB k k' && deqB v v' && deqK r r'
  | _, _ => false
end
mutual
theorem deqB_iff : ∀ x y : PyData, deqB x y = true ↔ x = y
  | .none, y => by cases y <;> simp [deqB]
  | .bool a, y => by cases y <;> simp [deqB]
  | .int a, y => by cases y <;> simp [deqB]
  | .str a, y => by cases y <;> simp [deqB]
  | .list xs, y => by
    cases y with
    | list ys => simp only [deqB, PyData.list.injEq]; exact deqL_iff xs ys
    | _ => simp [deqB]
  | .tuple xs, y => by
    cases y with
    | tuple ys => simp only [deqB, PyData.tuple.injEq]; exact deqL_iff xs ys
    | _ => simp [deqB]
  | .dict xs, y => by
    cases y with
    | dict ys => simp only [deqB, PyData.dict.injEq]; exact deqK_iff xs ys
    | _ => simp [deqB]
theorem deqL_iff : ∀ xs ys : List PyData, deqL xs ys = true ↔ xs = ys
  | [], [] => by simp [deqL]
  | [], _ :: _ => by simp [deqL]
  | _ :: _, [] => by simp [deqL]
  | x :: xs, y :: ys => by
    have h1 := deqB_iff x y
    have h2 := deqL_iff xs ys
    simp only [deqL, Bool.and_eq_true, List.cons.injEq, h1, h2]
theorem deqK_iff : ∀ xs ys : List (PyData × PyData), deqK xs ys = true ↔ xs = ys
  | [], [] => by simp [deqK]
  | [], _ :: _ => by simp [deqK]
  | _ :: _, [] => by simp [deqK]
  | (k, v) :: xs, (k', v') :: ys => by
    have h1 := deqB_iff k k'
    have h2 := deqB_iff v v'
    have h3 := deqK_iff xs ys
    simp only [deqK, Bool.and_eq_true, List.cons.injEq, Prod.mk.injEq, h1, h2, h3]
end
instance : DecidableEq PyData := fun x y => decidable_of_iff _ (deqB_iff x y)

/-- a value: plain data, or a live container -/
inductive Vl where
  | d (x : PyData)
  | loc (n : Nat)
inductive MO where
  | lst (xs : List PyData)
  | dct (kvs : List (PyData × PyData))
  deriving DecidableEq
def MO.data : MO → PyData
  | .lst xs => .list xs
  | .dct kvs => .dict kvs
structure Cell where
  live : Bool
  obj : MO
  deriving DecidableEq
abbrev Sto := List Cell
inductive R (α : Type) where
  | no
  | ok (a : α) (S : Sto)
  | ex (c : Str) (x : PyData) (S : Sto)
def R.bind {α β : Type} : R α → (α → Sto → R β) → R β
  | .no, _ => .no
  | .ok a S, k => k a S
  | .ex c x S, _ => .ex c x S
/-- where nothing may be raised -/
def R.calm {α : Type} : R α → R α
  | .ex _ _ _ => .no
  | r => r
def R.opt {α : Type} (o : Option α) (S : Sto) : R α := match o with
  | some a => .ok a S
  | none => .no
@[simp] theorem R.bind_ok {α β : Type} (a : α) (S : Sto) (k : α → Sto → R β) : (R.ok a S).bind k = k a S := rfl
@[simp] theorem R.bind_no {α β : Type} (k : α → Sto → R β) : (R.no : R α).bind k = .no := rfl
@[simp] theorem R.bind_ex {α β : Type} (c : Str) (x : PyData) (S : Sto) (k : α → Sto → R β) : (R.ex c x S : R α).bind k = .ex c x S := rfl
@[simp] theorem R.calm_ok {α : Type} (a : α) (S : Sto) : (R.ok a S).calm = .ok a S := rfl
@[simp] theorem R.opt_some {α : Type} (a : α) (S : Sto) : R.opt (some a) S = .ok a S := rfl
@[simp] theorem R.opt_none {α : Type} (S : Sto) : R.opt (none : Option α) S = .no := rfl

def view (S : Sto) : Vl → Option PyData
  | .d x => some x
  | .loc n => (S[n]?).map fun c => c.obj.data
@[simp] theorem view_d (S : Sto) (x : PyData) : view S (.d x) = some x := rfl
/-- the value as plain data: a container is closed -/
def shut (S : Sto) : Vl → R PyData
  | .d x => .ok x S
  | .loc n => match S[n]? with
    | some c => .ok c.obj.data (S.set n ⟨false, c.obj⟩)
    | none => .no
@[simp] theorem shut_d (S : Sto) (x : PyData) : shut S (.d x) = .ok x S := rfl
abbrev Env := List (Option Vl)
abbrev Fns := Nat → List Vl → Sto → R PyData

/-! ### what operators and built-ins do with data -/
inductive B2 where
  | add | sub | mul | fdiv | mod | pow | shl | shr | band
inductive C2 where
  | eq | ne | lt | le | gt | ge | isin | notin | is_ | isnot
inductive U1 where
  | neg | abs | len | int | tuple | list | sorted | dict | repr | sum | max | min | all | any
inductive U2 where
  | max | min | get | index | count | range
def ints? : List PyData → Option (List Int)
  | [] => some []
  | .int i :: r => (ints? r).map (i :: ·)
  | _ :: _ => none
def bools? : List PyData → Option (List Bool)
  | [] => some []
  | .bool i :: r => (bools? r).map (i :: ·)
  | _ :: _ => none
def small (i : Int) : Bool := decide (-(2 ^ 64) < i) && decide (i < 2 ^ 64)
def fits (n : Nat) : Bool := decide (n ≤ 16777216)
def binop : B2 → PyData → PyData → Option PyData
  | .add, .int i, .int j => some (.int (i + j))
  | .add, .list xs, .list ys => if fits (xs.length + ys.length) then some (.list (xs ++ ys)) else none
  | .add, .tuple xs, .tuple ys => if fits (xs.length + ys.length) then some (.tuple (xs ++ ys)) else none
  | .sub, .int i, .int j => some (.int (i - j))
  | .mul, .int i, .int j => if small i || small j then some (.int (i * j)) else none
  | .mul, .list xs, .int k => if decide (-(2 ^ 62) ≤ k) && decide (k < 2 ^ 62) && fits (xs.length * k.toNat) then some (.list (List.replicate k.toNat xs).flatten) else none
  | .mul, .tuple xs, .int k => if decide (2 ≤ k) && decide (k ≤ 1000) && decide (xs ≠ []) && decide (xs.length ≤ 1000) then some (.tuple (List.replicate k.toNat xs).flatten) else none
  | .fdiv, .int i, .int j => if decide (j ≠ 0) && decide (j.natAbs < 1073741824) then some (.int (i.fdiv j)) else none
  | .mod, .int i, .int j => if decide (j ≠ 0) then some (.int (i.fmod j)) else none
  | .pow, .int i, .int j => if decide (0 ≤ j) && decide (j ≤ 1000000) && decide (i.natAbs < 2 ^ 64) then some (.int (i ^ j.toNat)) else none
  | .shl, .int i, .int j => if decide (0 ≤ j) && decide (j ≤ 1000000) && decide (i.natAbs < 2 ^ 64) then some (.int (i * 2 ^ j.toNat)) else none
  | .shr, .int i, .int j => if decide (0 ≤ j) then some (.int (i / 2 ^ j.toNat)) else none
  | .band, .int i, .int j => some (.int (Builtin.bitAnd i j))
  | _, _, _ => none
def eqOk (x : PyData) : Bool := SeqAt.shaped x
def isNone : PyData → Bool
  | .none => true
  | _ => false
def cmpop : C2 → PyData → PyData → Option Bool
  | .eq, x, y => if eqOk x && eqOk y then some (PyData.eqv x y) else none
  | .ne, x, y => if eqOk x && eqOk y then some (!PyData.eqv x y) else none
  | .lt, .int i, .int j => some (decide (i < j))
  | .le, .int i, .int j => some (decide (i ≤ j))
  | .gt, .int i, .int j => some (decide (j < i))
  | .ge, .int i, .int j => some (decide (j ≤ i))
  | .isin, x, .list ys => if eqOk x && eqOk (.list ys) then some (ys.any fun y => PyData.eqv y x) else none
  | .notin, x, .list ys => if eqOk x && eqOk (.list ys) then some (!ys.any fun y => PyData.eqv y x) else none
  | .isin, x, .tuple ys => if eqOk x && eqOk (.tuple ys) then some (ys.any fun y => PyData.eqv y x) else none
  | .notin, x, .tuple ys => if eqOk x && eqOk (.tuple ys) then some (!ys.any fun y => PyData.eqv y x) else none
  | .is_, x, .none => some (isNone x)
  | .isnot, x, .none => some (!isNone x)
  | _, _, _ => none
def truthy : PyData → Option Bool
  | .none => some false
  | .bool b => some b
  | .int i => some (i != 0)
  | .str _ => none
  | .list xs => some (!xs.isEmpty)
  | .tuple xs => some (!xs.isEmpty)
  | .dict _ => none
def kStore (kvs : List (PyData × PyData)) (k v : PyData) : List (PyData × PyData) :=
  if kvs.any fun p => PyData.eqv p.1 k then kvs.map fun p => if PyData.eqv p.1 k then (p.1, v) else p else kvs ++ [(k, v)]
def scalarKey : PyData → Bool
  | .int _ => true
  | .str _ => true
  | _ => false
/-- dict(pairs), keys ints and texts -/
def dictOf? : List PyData → List (PyData × PyData) → Option (List (PyData × PyData))
  | [], acc => some acc
  | .tuple [k, v] :: r, acc => if scalarKey k then dictOf? r (kStore acc k v) else none
  | _ :: _, _ => none
def insertI (i : Int) : List Int → List Int
  | [] => [i]
  | j :: r => if i ≤ j then i :: j :: r else j :: insertI i r
def sortI : List Int → List Int
  | [] => []
  | i :: r => insertI i (sortI r)
def maxI : List Int → Int
  | [] => 0
  | i :: r => r.foldl (fun m j => if j > m then j else m) i
def minI : List Int → Int
  | [] => 0
  | i :: r => r.foldl (fun m j => if j < m then j else m) i
def u1 : U1 → PyData → Option PyData
  | .neg, .int i => some (.int (-i))
  | .abs, .int i => some (.int (if i < 0 then -i else i))
  | .len, .list xs => some (.int xs.length)
  | .len, .tuple xs => some (.int xs.length)
  | .len, .dict kvs => some (.int kvs.length)
  | .int, .int i => some (.int i)
  | .int, .bool b => some (.int (if b then 1 else 0))
  | .tuple, .list xs => some (.tuple xs)
  | .tuple, .tuple xs => some (.tuple xs)
  | .list, .list xs => some (.list xs)
  | .list, .tuple xs => some (.list xs)
  | .sorted, .list xs => (ints? xs).map fun ns => .list ((sortI ns).map .int)
  | .sorted, .dict kvs => (ints? (kvs.map (·.1))).map fun ns => .list ((sortI ns).map .int)
  | .dict, .list ps => (dictOf? ps []).map .dict
  | .repr, x => if x.showable && !x.hasDict && fits x.shown.length && decide (x.depth ≤ 64) then some (.str x.shown) else none
  | .sum, .list xs => (ints? xs).map fun ns => .int ns.sum
  | .max, .list xs => (ints? xs).bind fun ns => if ns.isEmpty then none else some (.int (maxI ns))
  | .min, .list xs => (ints? xs).bind fun ns => if ns.isEmpty then none else some (.int (minI ns))
  | .all, .list xs => (bools? xs).map fun bs => .bool (bs.all id)
  | .any, .list xs => (bools? xs).map fun bs => .bool (bs.any id)
  | _, _ => none
def u2 : U2 → PyData → PyData → Option PyData
  | .max, .int i, .int j => some (.int (if j > i then j else i))
  | .min, .int i, .int j => some (.int (if j < i then j else i))
  | _, _, _ => none
def index : PyData → PyData → Option PyData
  | .list xs, .int i => L2.atI xs i
  | .tuple xs, .int i => L2.atI xs i
  | _, _ => none
def cut (xs : List PyData) (lo hi : Option Int) : List PyData := (xs.drop (HT.sIx xs.length 0 lo)).take (HT.sIx xs.length xs.length hi - HT.sIx xs.length 0 lo)
def slice (x : PyData) (lo hi : Option Int) : Option PyData := match x with
  | .list xs => some (.list (cut xs lo hi))
  | .tuple xs => some (.tuple (cut xs lo hi))
  | _ => none
/-- isinstance(x, T), T a built-in class -/
def isType : PyData → String → Option Bool
  | x, "int" => some (match x with | .int _ => true | .bool _ => true | _ => false)
  | x, "bool" => some (match x with | .bool _ => true | _ => false)
  | x, "str" => some (match x with | .str _ => true | _ => false)
  | x, "tuple" => some (match x with | .tuple _ => true | _ => false)
  | _, _ => none
def rangeOk (i : Int) : Bool := decide (-(2 ^ 62) ≤ i) && decide (i < 2 ^ 62)
def upFrom (i : Int) : Nat → List Int
  | 0 => []
  | n + 1 => i :: upFrom (i + 1) n
def range2 (i j : Int) : Option (List PyData) := if rangeOk i && rangeOk j then some ((upFrom i (j - i).toNat).map .int) else none

/-! ### targets -/
mutual
inductive T where
  | nm (i : Nat)
  | tp (ts : Ts)
inductive Ts where
  | nil
  | cons (t : T) (ts : Ts)
end
def Ts.len : Ts → Nat
  | .nil => 0
  | .cons _ r => r.len + 1
mutual
def put : T → PyData → Env → Option Env
  | .nm i, x, ρ => some (ρ.set i (some (.d x)))
  | .tp ts, .tuple xs, ρ => if xs.length = ts.len then puts ts xs ρ else none
  | .tp _, _, _ => none
def puts : Ts → List PyData → Env → Option Env
  | .nil, [], ρ => some ρ
  | .cons t ts, x :: xs, ρ => (put t x ρ).bind (puts ts xs)
  | _, _, _ => none
end
def wipe (ρ : Env) : List Nat → Env
  | [] => ρ
  | v :: vs => (wipe ρ vs).set v none

/-! ### expressions -/
mutual
inductive E where
  | var (i : Nat)
  | cst (x : PyData)
  | tup (es : Es)
  | lst (es : Es)
  | bin (op : B2) (a b : E)
  | cmp (op : C2) (a b : E)
  | ch (op op' : C2) (a b c : E)
  | u1 (op : U1) (a : E)
  | u2 (op : U2) (a b : E)
  | not (a : E)
  | and (a b : E)
  | or (a b : E)
  | ite (c a b : E)
  | ix (a i : E)
  | sl (a : E) (lo hi : Es)
  | isi (a : E) (t : String)
  | call (f : Nat) (es : Es) (dfl : List PyData)
  | lc (ws : List Nat) (t : T) (it : It) (cs : Es) (e : E)
  | dc (ws : List Nat) (t : T) (it : It) (k v : E)
  | seq (it : It)
inductive Es where
  | nil
  | cons (e : E) (es : Es)
inductive It where
  | e (a : E)
  | rng1 (a : E)
  | rng2 (a b : E)
  | enum (a : E)
  | zip (a b : E)
end
/-- what is walked stands as it stood -/
def chk (gs : List Nat) (S0 S : Sto) : Bool := gs.all fun n => decide (S[n]? = S0[n]?)
@[simp] theorem chk_nil (S0 S : Sto) : chk [] S0 S = true := rfl
@[simp] theorem chk_same (gs : List Nat) (S : Sto) : chk gs S S = true := by simp [chk]
/-- the loop of a comprehension -/
def lcL (ck : Sto → Bool) (asg : PyData → Option Env) (cond : Env → Sto → R Bool) (elt : Env → Sto → R PyData) : List PyData → List PyData → Sto → R (List PyData)
  | [], acc, S => .ok acc S
  | x :: xs, acc, S => match asg x with
    | none => .no
    | some ρ => (cond ρ S).bind fun b S1 => if b then (elt ρ S1).bind fun y S2 => if decide (acc.length < 16777216) && ck S2 then lcL ck asg cond elt xs (acc ++ [y]) S2 else .no else if ck S1 then lcL ck asg cond elt xs acc S1 else .no
def dcL (ck : Sto → Bool) (asg : PyData → Option Env) (kv : Env → Sto → R (PyData × PyData)) : List PyData → List (PyData × PyData) → Sto → R (List (PyData × PyData))
  | [], acc, S => .ok acc S
  | x :: xs, acc, S => match asg x with
    | none => .no
    | some ρ => (kv ρ S).bind fun p S2 => if decide (acc.length < 16777216) && scalarKey p.1 && ck S2 then dcL ck asg kv xs (kStore acc p.1 p.2) S2 else .no
def enumL (n : Nat) : List PyData → List PyData
  | [] => []
  | x :: xs => .tuple [.int n, x] :: enumL (n + 1) xs
def zipL : List PyData → List PyData → List PyData
  | x :: xs, y :: ys => .tuple [x, y] :: zipL xs ys
  | _, _ => []
def seq? : PyData → Option (List PyData)
  | .list xs => some xs
  | .tuple xs => some xs
  | _ => none
def zip? : PyData → PyData → Option (List PyData)
  | .list xs, .list ys => some (zipL xs ys)
  | .tuple xs, .tuple ys => some (zipL xs ys)
  | _, _ => none
def guard : Vl → List Nat
  | .d _ => []
  | .loc n => [n]
@[simp] theorem guard_d (x : PyData) : guard (.d x) = [] := rfl
def test (S : Sto) (v : Vl) : R Bool := R.opt ((view S v).bind truthy) S
mutual
def ev (F : Fns) : E → Env → Sto → R Vl
  | .var i, ρ, S => match ρ[i]? with
    | some (some v) => .ok v S
    | _ => .no
  | .cst x, _, S => .ok (.d x) S
  | .tup es, ρ, S => (evps F es ρ S).bind fun xs S1 => .ok (.d (.tuple xs)) S1
  | .lst es, ρ, S => (evps F es ρ S).bind fun xs S1 => .ok (.d (.list xs)) S1
  | .bin op a b, ρ, S => (ev F a ρ S).bind fun v S1 => (ev F b ρ S1).bind fun w S2 => R.opt ((view S2 v).bind fun x => (view S2 w).bind fun y => (binop op x y).map .d) S2
  | .cmp op a b, ρ, S => (ev F a ρ S).bind fun v S1 => (ev F b ρ S1).bind fun w S2 => R.opt ((view S2 v).bind fun x => (view S2 w).bind fun y => (cmpop op x y).map fun c => .d (.bool c)) S2
  | .ch op op' a b c, ρ, S => (ev F a ρ S).bind fun v S1 => (ev F b ρ S1).bind fun w S2 => match (view S2 v).bind fun x => (view S2 w).bind fun y => cmpop op x y with
    | none => .no
    | some false => .ok (.d (.bool false)) S2
    | some true => (ev F c ρ S2).bind fun u S3 => R.opt ((view S3 w).bind fun y => (view S3 u).bind fun z => (cmpop op' y z).map fun k => .d (.bool k)) S3
  | .u1 op a, ρ, S => (ev F a ρ S).bind fun v S1 => R.opt ((view S1 v).bind fun x => (u1 op x).map .d) S1
  | .u2 op a b, ρ, S => (ev F a ρ S).bind fun v S1 => (ev F b ρ S1).bind fun w S2 => R.opt ((view S2 v).bind fun x => (view S2 w).bind fun y => (u2 op x y).map .d) S2
  | .not a, ρ, S => (ev F a ρ S).bind fun v S1 => (test S1 v).bind fun b S2 => .ok (.d (.bool (!b))) S2
  | .and a b, ρ, S => (ev F a ρ S).bind fun v S1 => (test S1 v).bind fun c S2 => if c then ev F b ρ S2 else .ok v S2
  | .or a b, ρ, S => (ev F a ρ S).bind fun v S1 => (test S1 v).bind fun c S2 => if c then .ok v S2 else ev F b ρ S2
  | .ite c a b, ρ, S => (ev F c ρ S).bind fun v S1 => (test S1 v).bind fun t S2 => if t then ev F a ρ S2 else ev F b ρ S2
  | .ix a i, ρ, S => (ev F a ρ S).bind fun v S1 => (ev F i ρ S1).bind fun w S2 => R.opt ((view S2 v).bind fun x => (view S2 w).bind fun y => (index x y).map .d) S2
  | .sl a lo hi, ρ, S => (ev F a ρ S).bind fun v S1 => (evo F lo ρ S1).bind fun l S2 => (evo F hi ρ S2).bind fun h S3 => R.opt ((view S3 v).bind fun x => (slice x l h).map .d) S3
  | .isi a t, ρ, S => (ev F a ρ S).bind fun v S1 => R.opt ((view S1 v).bind fun x => (isType x t).map fun b => .d (.bool b)) S1
  | .call f es dfl, ρ, S => (evs F es ρ S).bind fun vs S1 => (F f (vs ++ dfl.map .d) S1).bind fun x S2 => .ok (.d x) S2
  | .lc ws t it cs e, ρ, S => (evI F it ρ S).bind fun p S1 => ((lcL (chk p.2 S1) (fun x => put t x (wipe ρ ws)) (fun ρ' S' => (evt F cs ρ' S').calm) (fun ρ' S' => ((ev F e ρ' S').bind fun v S2 => shut S2 v).calm) p.1 [] S1).calm).bind fun ys S2 => .ok (.d (.list ys)) S2
  | .dc ws t it k v, ρ, S => (evI F it ρ S).bind fun p S1 => ((dcL (chk p.2 S1) (fun x => put t x (wipe ρ ws)) (fun ρ' S' => (((ev F k ρ' S').bind fun v S2 => shut S2 v).bind fun kx S2 => ((ev F v ρ' S2).bind fun v S3 => shut S3 v).bind fun vx S3 => .ok (kx, vx) S3).calm) p.1 [] S1).calm).bind fun ys S2 => .ok (.d (.dict ys)) S2
  | .seq it, ρ, S => (evI F it ρ S).bind fun p S1 => if fits p.1.length then .ok (.d (.tuple p.1)) S1 else .no
/-- values, as they are -/
def evs (F : Fns) : Es → Env → Sto → R (List Vl)
  | .nil, _, S => .ok [] S
  | .cons e es, ρ, S => (ev F e ρ S).bind fun v S1 => (evs F es ρ S1).bind fun vs S2 => .ok (v :: vs) S2
/-- values as plain data -/
def evps (F : Fns) : Es → Env → Sto → R (List PyData)
  | .nil, _, S => .ok [] S
  | .cons e es, ρ, S => ((ev F e ρ S).bind fun v S1 => shut S1 v).bind fun x S1 => (evps F es ρ S1).bind fun xs S2 => .ok (x :: xs) S2
/-- no part, or an int -/
def evo (F : Fns) : Es → Env → Sto → R (Option Int)
  | .nil, _, S => .ok none S
  | .cons e _, ρ, S => (ev F e ρ S).bind fun v S1 => match v with
    | .d (.int i) => .ok (some i) S1
    | _ => .no
/-- all tests hold -/
def evt (F : Fns) : Es → Env → Sto → R Bool
  | .nil, _, S => .ok true S
  | .cons e _, ρ, S => (ev F e ρ S).bind fun v S1 => test S1 v
/-- what is walked, and the live containers among it -/
def evI (F : Fns) : It → Env → Sto → R (List PyData × List Nat)
  | .e a, ρ, S => (ev F a ρ S).bind fun v S1 => R.opt (((view S1 v).bind seq?).map fun xs => (xs, guard v)) S1
  | .rng1 a, ρ, S => (ev F a ρ S).bind fun v S1 => match v with
    | .d (.int i) => R.opt ((range2 0 i).map fun xs => (xs, [])) S1
    | _ => .no
  | .rng2 a b, ρ, S => (ev F a ρ S).bind fun v S1 => (ev F b ρ S1).bind fun w S2 => match v, w with
    | .d (.int i), .d (.int j) => R.opt ((range2 i j).map fun xs => (xs, [])) S2
    | _, _ => .no
  | .enum a, ρ, S => (ev F a ρ S).bind fun v S1 => R.opt (((view S1 v).bind seq?).map fun xs => (enumL 0 xs, guard v)) S1
  | .zip a b, ρ, S => (ev F a ρ S).bind fun v S1 => (ev F b ρ S1).bind fun w S2 => R.opt ((view S2 v).bind fun x => (view S2 w).bind fun y => (zip? x y).map fun zs => (zs, guard v ++ guard w)) S2
end

/-! ### statements -/
inductive Fl where
  | nx (ρ : Env) | rt (x : PyData) | bk (ρ : Env) | ct (ρ : Env)
mutual
inductive C where
  | asg (t : T) (e : E)
  | set (i : Nat) (e : E)
  | new (i : Nat) (e : E)
  | par (i j : Nat) (n1 n2 : Bool) (a b : E)
  | six (o i e : E)
  | aug (i : Nat) (op : B2) (e : E)
  | augL (i : Nat) (e : E)
  | app (o e : E)
  | drop (e : E)
  | ite (c : E) (a b : Cs)
  | loop (t : T) (it : It) (b : Cs)
  | whl (c : E) (b : Cs)
  | ret (e : E)
  | retN
  | raise (c : Str) (e : E)
  | tryS (b : Cs) (hs : List (Str × Str))
  | pass
  | brk
  | cont
inductive Cs where
  | nil
  | cons (c : C) (cs : Cs)
end
def forL (ck : Sto → Bool) (asg : PyData → Env → Option Env) (b : Env → Sto → R Fl) : List PyData → Env → Sto → R Fl
  | [], ρ, S => .ok (.nx ρ) S
  | x :: xs, ρ, S => match asg x ρ with
    | none => .no
    | some ρ1 => (b ρ1 S).bind fun fl S1 => match fl with
      | .nx ρ2 => if ck S1 then forL ck asg b xs ρ2 S1 else .no
      | .ct ρ2 => if ck S1 then forL ck asg b xs ρ2 S1 else .no
      | .bk ρ2 => .ok (.nx ρ2) S1
      | .rt x => .ok (.rt x) S1
def whlL (c : Env → Sto → R Bool) (b : Env → Sto → R Fl) : Nat → Env → Sto → R Fl
  | 0, _, _ => .no
  | n + 1, ρ, S => (c ρ S).bind fun t S1 => if t then (b ρ S1).bind fun fl S2 => match fl with
      | .nx ρ2 => whlL c b n ρ2 S2
      | .ct ρ2 => whlL c b n ρ2 S2
      | .bk ρ2 => .ok (.nx ρ2) S2
      | .rt x => .ok (.rt x) S2
    else .ok (.nx ρ) S1
/-- a fresh container: it goes live -/
def live (S : Sto) : Vl → R Vl
  | .d (.list xs) => .ok (.loc S.length) (S ++ [⟨true, .lst xs⟩])
  | .d (.dict kvs) => .ok (.loc S.length) (S ++ [⟨true, .dct kvs⟩])
  | _ => .no
def liveIf (n : Bool) (S : Sto) (v : Vl) : R Vl := if n then live S v else .ok v S
def caught (hs : List (Str × Str)) (c : Str) (x : PyData) (S : Sto) : R Fl := match hs.lookup c with
  | some t => .ok (.rt (.tuple [.str t, x])) S
  | none => .ex c x S
/-- a live list at n -/
def lstAt (S : Sto) : Vl → Option (Nat × List PyData)
  | .loc n => match S[n]? with
    | some ⟨true, .lst xs⟩ => some (n, xs)
    | _ => none
  | _ => none
def dctAt (S : Sto) : Vl → Option (Nat × List (PyData × PyData))
  | .loc n => match S[n]? with
    | some ⟨true, .dct kvs⟩ => some (n, kvs)
    | _ => none
  | _ => none
/-- o[i] = x -/
def setAt (S : Sto) (o : Vl) (i x : PyData) : R Unit := match lstAt S o with
  | some (n, xs) => (match i with
    | .int k => (match L2.ixN xs.length k with
      | some j => .ok () (S.set n ⟨true, .lst (xs.set j x)⟩)
      | none => .no)
    | _ => .no)
  | none => .no
def augment (op : B2) (S : Sto) (v w : Vl) : R Vl := match v with
  | .loc _ => .no
  | .d x => (match x, view S w with
    | .int i, some (.int j) => R.opt ((binop op (.int i) (.int j)).map .d) S
    | _, _ => .no)
/-- v += w, v a live list -/
def augL (S : Sto) (v w : Vl) : R Unit := match lstAt S v, (view S w).bind seq? with
  | some (n, xs), some ys => if fits (xs.length + ys.length) then .ok () (S.set n ⟨true, .lst (xs ++ ys)⟩) else .no
  | _, _ => .no
mutual
def x1 (F : Fns) (W : Nat) : C → Env → Sto → R Fl
  | .asg t e, ρ, S => ((ev F e ρ S).bind fun v S1 => shut S1 v).bind fun x S1 => R.opt ((put t x ρ).map .nx) S1
  | .set i e, ρ, S => (ev F e ρ S).bind fun v S1 => .ok (.nx (ρ.set i (some v))) S1
  | .new i e, ρ, S => (ev F e ρ S).bind fun v S1 => (live S1 v).bind fun v S2 => .ok (.nx (ρ.set i (some v))) S2
  | .par i j n1 n2 a b, ρ, S => (ev F a ρ S).bind fun v S1 => (liveIf n1 S1 v).bind fun v S2 => (ev F b ρ S2).bind fun w S3 => (liveIf n2 S3 w).bind fun w S4 => .ok (.nx ((ρ.set i (some v)).set j (some w))) S4
  | .six o i e, ρ, S => ((ev F e ρ S).bind fun v S1 => shut S1 v).bind fun x S1 => (ev F o ρ S1).bind fun ov S2 => ((ev F i ρ S2).bind fun v S3 => shut S3 v).bind fun k S3 => (setAt S3 ov k x).bind fun _ S4 => .ok (.nx ρ) S4
  | .aug i op e, ρ, S => match ρ[i]? with
    | some (some v) => (ev F e ρ S).bind fun w S1 => (augment op S1 v w).bind fun u S2 => .ok (.nx (ρ.set i (some u))) S2
    | _ => .no
  | .augL i e, ρ, S => match ρ[i]? with
    | some (some v) => (ev F e ρ S).bind fun w S1 => (augL S1 v w).bind fun _ S2 => .ok (.nx ρ) S2
    | _ => .no
  | .app o e, ρ, S => (ev F o ρ S).bind fun ov S1 => (R.opt (lstAt S1 ov) S1).bind fun _ S1 => ((ev F e ρ S1).bind fun v S2 => shut S2 v).bind fun x S2 => match lstAt S2 ov with
    | some (n, xs) => if xs.length < 16777216 then .ok (.nx ρ) (S2.set n ⟨true, .lst (xs ++ [x])⟩) else .no
    | none => .no
  | .drop e, ρ, S => (ev F e ρ S).bind fun _ S1 => .ok (.nx ρ) S1
  | .ite c a b, ρ, S => (ev F c ρ S).bind fun v S1 => (test S1 v).bind fun t S2 => if t then xs F W a ρ S2 else xs F W b ρ S2
  | .loop t it b, ρ, S => (evI F it ρ S).bind fun p S1 => forL (chk p.2 S1) (fun x ρ => put t x ρ) (fun ρ S => xs F W b ρ S) p.1 ρ S1
  | .whl c b, ρ, S => whlL (fun ρ S => (ev F c ρ S).bind fun v S1 => test S1 v) (fun ρ S => xs F W b ρ S) W ρ S
  | .ret e, ρ, S => ((ev F e ρ S).bind fun v S1 => shut S1 v).bind fun x S1 => .ok (.rt x) S1
  | .retN, _, S => .ok (.rt .none) S
  | .raise c e, ρ, S => ((ev F e ρ S).bind fun v S1 => shut S1 v).bind fun x S1 => .ex c x S1
  | .tryS b hs, ρ, S => match xs F W b ρ S with
    | .ex c x S1 => caught hs c x S1
    | r => r
  | .pass, ρ, S => .ok (.nx ρ) S
  | .brk, ρ, S => .ok (.bk ρ) S
  | .cont, ρ, S => .ok (.ct ρ) S
def xs (F : Fns) (W : Nat) : Cs → Env → Sto → R Fl
  | .nil, ρ, S => .ok (.nx ρ) S
  | .cons c cs, ρ, S => (x1 F W c ρ S).bind fun fl S1 => match fl with
    | .nx ρ1 => xs F W cs ρ1 S1
    | .rt x => .ok (.rt x) S1
    | .bk ρ1 => .ok (.bk ρ1) S1
    | .ct ρ1 => .ok (.ct ρ1) S1
end
/-! ### defs -/
structure Fn where
  ar : Nat
  sz : Nat
  body : Cs
def fin (n : Nat) : R Fl → R PyData
  | .no => .no
  | .ex c x S => .ex c x (S.take n)
  | .ok (.rt x) S => .ok x (S.take n)
  | .ok (.nx _) S => .ok .none (S.take n)
  | .ok (.bk _) _ => .no
  | .ok (.ct _) _ => .no
def callAt (fns : List Fn) (W : Nat) : Nat → Fns
  | 0, _, _, _ => .no
  | k + 1, f, vs, S => match fns[f]? with
    | none => .no
    | some fn => if vs.length = fn.ar then fin S.length (xs (callAt fns W k) W fn.body (vs.map some ++ List.replicate (fn.sz - fn.ar) none) S) else .no
end In
/-! part InB -/
set_option Elab.async false
set_option linter.all false
set_option maxRecDepth 100000
set_option maxHeartbeats 1000000
/-! How the small language's states lie in the hand layer's abstract heap; what an expression's run means there. -/
namespace In
open PySem PySem.Spec PyProof.Rows L2
abbrev Frag := PySem.W.Frag
/-! ### plain data in the heap: tuples, and lists and dicts that nobody changes any more -/
/-- a closed list -/
def FzL (H : Hp) (a : Addr) (xs : List V) : Prop := ∃ o, H a = some (.frz o (.lst xs))
theorem FzL.sql {K : Frag} {H : Hp} {a : Addr} {xs : List V} (h : FzL H a xs) : SqL K H a xs := .inl (.inr h)
def keyOf : PyData → Option Key
  | .int i => some (.inl i)
  | .str x => some (.inr x)
  | _ => none
mutual
inductive RP (K : Frag) (H : Hp) : PyData → V → Prop
  | non : RP K H .none .non
  | bl (b : Bool) : RP K H (.bool b) (.bl b)
  | int (i : Int) : RP K H (.int i) (.int i)
  | str (x : Str) : RP K H (.str x) (.str x)
  | lst {a : Addr} {vs : List V} {xs : List PyData} : FzL H a vs → RPs K H xs vs → RP K H (.list xs) (.ref a)
  | tup {a : Addr} {vs : List V} {xs : List PyData} : SqT K H a vs → RPs K H xs vs → RP K H (.tuple xs) (.ref a)
  | dct {a : Addr} {o : Obj} {es : List (Key × V)} {kvs : List (PyData × PyData)} : H a = some (.frz o (.dK es)) → RPd K H kvs es → RP K H (.dict kvs) (.ref a)
inductive RPs (K : Frag) (H : Hp) : List PyData → List V → Prop
  | nil : RPs K H [] []
  | cons {x : PyData} {v : V} {xs : List PyData} {vs : List V} : RP K H x v → RPs K H xs vs → RPs K H (x :: xs) (v :: vs)
inductive RPd (K : Frag) (H : Hp) : List (PyData × PyData) → List (Key × V) → Prop
  | nil : RPd K H [] []
  | cons {k x : PyData} {q : Key} {v : V} {kvs : List (PyData × PyData)} {es : List (Key × V)} : keyOf k = some q → RP K H x v → RPd K H kvs es → RPd K H ((k, x) :: kvs) ((q, v) :: es)
end
/-- what stays: tuples, and what is closed -/
structure Keeps (H H' : Hp) : Prop where
  t : ∀ b xs, H b = some (.tup xs) → H' b = some (.tup xs)
  f : ∀ b o u, H b = some (.frz o u) → H' b = some (.frz o u)
theorem Keeps.refl {H : Hp} : Keeps H H := ⟨fun _ _ h => h, fun _ _ _ h => h⟩
theorem Keeps.trans {H H' H'' : Hp} (a : Keeps H H') (b : Keeps H' H'') : Keeps H H'' := ⟨fun x xs h => b.t x xs (a.t x xs h), fun x o u h => b.f x o u (a.f x o u h)⟩
theorem FzL.keep {H H' : Hp} (k : Keeps H H') {a : Addr} {xs : List V} (h : FzL H a xs) : FzL H' a xs := let ⟨o, h⟩ := h; ⟨o, k.f a o _ h⟩
theorem sqT_keep {K : Frag} {H H' : Hp} (k : Keeps H H') {a : Addr} {xs : List V} (h : SqT K H a xs) : SqT K H' a xs := by
  rcases h with h | h
  · rcases h with h | ⟨o, h⟩
    · exact .inl (.inl (k.t _ _ h))
    · exact .inl (.inr ⟨o, k.f _ _ _ h⟩)
  · exact .inr h
mutual
theorem RP.keep {K : Frag} {H H' : Hp} (k : Keeps H H') : ∀ (x : PyData) (v : V), RP K H x v → RP K H' x v
  | _, _, .non => .non
  | _, _, .bl b => .bl b
  | _, _, .int i => .int i
  | _, _, .str x => .str x
  | _, _, .lst (xs := xs) h r => .lst (h.keep k) (RPs.keep k xs _ r)
  | _, _, .tup (xs := xs) h r => .tup (sqT_keep k h) (RPs.keep k xs _ r)
  | _, _, .dct (kvs := kvs) h r => .dct (k.f _ _ _ h) (RPd.keep k kvs _ r)
theorem RPs.keep {K : Frag} {H H' : Hp} (k : Keeps H H') : ∀ (xs : List PyData) (vs : List V), RPs K H xs vs → RPs K H' xs vs
  | _, _, .nil => .nil
  | _, _, .cons (x := x) (xs := xs) h r => .cons (RP.keep k x _ h) (RPs.keep k xs _ r)
theorem RPd.keep {K : Frag} {H H' : Hp} (k : Keeps H H') : ∀ (xs : List (PyData × PyData)) (vs : List (Key × V)), RPd K H xs vs → RPd K H' xs vs
  | _, _, .nil => .nil
  | _, _, .cons (x := x) (kvs := kvs) e h r => .cons e (RP.keep k x _ h) (RPd.keep k kvs _ r)
end
section
variable {K : Frag} {H : Hp}
theorem RPs.len : ∀ {xs : List PyData} {vs : List V}, RPs K H xs vs → xs.length = vs.length
  | _, _, .nil => rfl
  | _, _, .cons _ r => congrArg (· + 1) (RPs.len r)
theorem RPd.len : ∀ {xs : List (PyData × PyData)} {vs : List (Key × V)}, RPd K H xs vs → xs.length = vs.length
  | _, _, .nil => rfl
  | _, _, .cons _ _ r => congrArg (· + 1) (RPd.len r)
theorem RPs.app : ∀ {xs ys : List PyData} {vs ws : List V}, RPs K H xs vs → RPs K H ys ws → RPs K H (xs ++ ys) (vs ++ ws)
  | _, _, _, _, .nil, s => s
  | _, _, _, _, .cons r t, s => .cons r (RPs.app t s)
theorem RPs.one {x : PyData} {v : V} (h : RP K H x v) : RPs K H [x] [v] := .cons h .nil
theorem RPs.at : ∀ {xs : List PyData} {vs : List V} {i : Nat} {x : PyData}, RPs K H xs vs → xs[i]? = some x → ∃ v, vs[i]? = some v ∧ RP K H x v
  | _, _, _, _, .nil, e => by simp at e
  | _, _, 0, _, .cons r _, e => by simp at e; subst e; exact ⟨_, rfl, r⟩
  | _, _, i + 1, _, .cons _ t, e => by
    obtain ⟨u, h1, h2⟩ := RPs.at (i := i) t (by simpa using e)
    exact ⟨u, by simpa using h1, h2⟩
theorem RPs.at' : ∀ {xs : List PyData} {vs : List V} {i : Nat} {v : V}, RPs K H xs vs → vs[i]? = some v → ∃ x, xs[i]? = some x ∧ RP K H x v
  | _, _, _, _, .nil, e => by simp at e
  | _, _, 0, _, .cons r _, e => by simp at e; subst e; exact ⟨_, rfl, r⟩
  | _, _, i + 1, _, .cons _ t, e => by
    obtain ⟨u, h1, h2⟩ := RPs.at' (i := i) t (by simpa using e)
    exact ⟨u, by simpa using h1, h2⟩
theorem RPs.take : ∀ {xs : List PyData} {vs : List V} (n : Nat), RPs K H xs vs → RPs K H (xs.take n) (vs.take n)
  | _, _, 0, _ => .nil
  | _, _, _ + 1, .nil => .nil
  | _, _, n + 1, .cons r t => .cons r (RPs.take n t)
theorem RPs.drop : ∀ {xs : List PyData} {vs : List V} (n : Nat), RPs K H xs vs → RPs K H (xs.drop n) (vs.drop n)
  | _, _, 0, r => r
  | _, _, _ + 1, .nil => .nil
  | _, _, n + 1, .cons _ t => RPs.drop n t
theorem RPs.set : ∀ {xs : List PyData} {vs : List V} {x : PyData} {v : V} (i : Nat), RP K H x v → RPs K H xs vs → RPs K H (xs.set i x) (vs.set i v)
  | _, _, _, _, _, _, .nil => .nil
  | _, _, _, _, 0, h, .cons _ t => .cons h t
  | _, _, _, _, i + 1, h, .cons r t => .cons r (RPs.set i h t)
theorem RPs.ints : ∀ {xs : List PyData} {vs : List V} {ns : List Int}, RPs K H xs vs → ints? xs = some ns → vs = ns.map V.int ∧ xs = ns.map PyData.int
  | _, _, _, .nil, e => by simp [ints?] at e; subst e; exact ⟨rfl, rfl⟩
  | _, _, _, .cons (x := x) (xs := xs) r t, e => by
    cases r with
    | int i =>
      simp only [ints?, Option.map_eq_some_iff] at e
      obtain ⟨ms, h1, rfl⟩ := e
      obtain ⟨h2, h3⟩ := RPs.ints t h1
      rw [h2, h3]
      exact ⟨rfl, rfl⟩
    | _ => simp [ints?] at e
theorem RPs.bools : ∀ {xs : List PyData} {vs : List V} {ns : List Bool}, RPs K H xs vs → bools? xs = some ns → vs = ns.map V.bl
  | _, _, _, .nil, e => by simp [bools?] at e; subst e; rfl
  | _, _, _, .cons (x := x) (xs := xs) r t, e => by
    cases r with
    | bl i =>
      simp only [bools?, Option.map_eq_some_iff] at e
      obtain ⟨ms, h1, rfl⟩ := e
      rw [RPs.bools t h1]
      rfl
    | _ => simp [bools?] at e
theorem RPs.ofInts : ∀ ns : List Int, RPs K H (ns.map PyData.int) (ns.map V.int)
  | [] => .nil
  | i :: r => .cons (.int i) (RPs.ofInts r)
end
/-! ### the library's reading of data -/
mutual
theorem RP.dp {K : Frag} {H : Hp} : ∀ (x : PyData) (v : V), x.hasDict = false → RP K H x v → Dp K H v x
  | .none, _, _, h => by cases h; exact .non
  | .bool _, _, _, h => by cases h; exact .bl _
  | .int _, _, _, h => by cases h; exact .int _
  | .str _, _, _, h => by cases h; exact .str _
  | .list xs, _, e, h => by
    cases h with
    | lst h r => exact .lst h.sql (RPs.dp xs _ (by simpa [PyData.hasDict] using e) r)
  | .tuple xs, _, e, h => by
    cases h with
    | tup h r => exact .tup h (RPs.dp xs _ (by simpa [PyData.hasDict] using e) r)
  | .dict _, _, e, _ => by simp [PyData.hasDict] at e
theorem RPs.dp {K : Frag} {H : Hp} : ∀ (xs : List PyData) (vs : List V), PyData.hasDictAll xs = false → RPs K H xs vs → DpAll K H vs xs
  | [], _, _, h => by cases h; exact .nil
  | x :: xs, _, e, h => by
    cases h with
    | cons h r =>
      simp only [PyData.hasDictAll, Bool.or_eq_false_iff] at e
      exact .cons (RP.dp x _ e.1 h) (RPs.dp xs _ e.2 r)
end
/-! ### the store -/
abbrev Mp := Nat → Addr
def ObOk (K : Frag) (H : Hp) (u : HO) : MO → Prop
  | .lst xs => ∃ vs, u = .lst vs ∧ RPs K H xs vs
  | .dct kvs => ∃ es, u = .dK es ∧ RPd K H kvs es
def CellOk (K : Frag) (H : Hp) (a : Addr) (c : Cell) : Prop := ∃ u, ObOk K H u c.obj ∧ if c.live = true then H a = some u else ∃ o, H a = some (.frz o u)
structure Sok (K : Frag) (m : Mp) (S : Sto) (H : Hp) : Prop where
  at_ : ∀ (n : Nat) (c : Cell), S[n]? = some c → CellOk K H (m n) c
  inj : ∀ i j, i < S.length → j < S.length → m i = m j → i = j
def RV (K : Frag) (m : Mp) (S : Sto) (H : Hp) : Vl → V → Prop
  | .d x, v => RP K H x v
  | .loc n, v => v = .ref (m n) ∧ n < S.length
structure Renv (K : Frag) (m : Mp) (S : Sto) (H : Hp) (ρ : Env) (σ : L2.St) : Prop where
  len : ρ.length = σ.length
  at_ : ∀ (i : Nat) (v : Vl), ρ[i]? = some (some v) → ∃ x, σ[i]? = some (some x) ∧ RV K m S H v x
/-- from one state to a later one -/
structure Post (m : Mp) (S : Sto) (H : Hp) (m' : Mp) (S' : Sto) (H' : Hp) : Prop where
  k : Keeps H H'
  len : S.length ≤ S'.length
  map : ∀ n, n < S.length → m' n = m n
  new : ∀ n, S.length ≤ n → n < S'.length → H (m' n) = none
  obj : ∀ b u, H b = some u → (∀ n, n < S.length → m n ≠ b) → H' b = some u
section
variable {K : Frag} {m m' m'' : Mp} {S S' S'' : Sto} {H H' H'' : Hp}
theorem Post.refl : Post m S H m S H := ⟨.refl, Nat.le_refl _, fun _ _ => rfl, fun _ h1 h2 => absurd h2 (Nat.not_lt.mpr h1), fun _ _ h _ => h⟩
theorem Sok.there (k : Sok K m S H) {n : Nat} (h : n < S.length) : ∃ u, H (m n) = some u := by
  obtain ⟨u, _, h2⟩ := k.at_ n S[n] (List.getElem?_eq_getElem h)
  by_cases hl : S[n].live = true
  · rw [if_pos hl] at h2; exact ⟨_, h2⟩
  · rw [if_neg hl] at h2; obtain ⟨o, h2⟩ := h2; exact ⟨_, h2⟩
theorem Post.trans (a : Post m S H m' S' H') (sk : Sok K m' S' H') (b : Post m' S' H' m'' S'' H'') : Post m S H m'' S'' H'' where
  k := a.k.trans b.k
  len := Nat.le_trans a.len b.len
  map := fun n h => (b.map n (Nat.lt_of_lt_of_le h a.len)).trans (a.map n h)
  new := fun n h1 h2 => by
    by_cases hn : n < S'.length
    · rw [b.map n hn]; exact a.new n h1 hn
    · have q := b.new n (Nat.le_of_not_lt hn) h2
      cases e : H (m'' n) with
      | none => rfl
      | some u =>
        by_cases hc : ∃ i, i < S.length ∧ m i = m'' n
        · obtain ⟨i, hl, hi⟩ := hc
          obtain ⟨v, hv⟩ := sk.there (Nat.lt_of_lt_of_le hl a.len)
          rw [a.map i hl, hi, q] at hv; cases hv
        · have z := a.obj _ u e fun i hl hi => hc ⟨i, hl, hi⟩
          rw [q] at z; cases z
  obj := fun c u h hn => by
    refine b.obj c u (a.obj c u h hn) fun n hl e => ?_
    by_cases hs : n < S.length
    · rw [a.map n hs] at e; exact hn n hs e
    · have q := a.new n (Nat.le_of_not_lt hs) hl
      rw [e, h] at q; cases q
theorem RV.post (p : Post m S H m' S' H') {v : Vl} {x : V} (h : RV K m S H v x) : RV K m' S' H' v x := by
  cases v with
  | d y => exact RP.keep p.k y x h
  | loc n => exact ⟨by rw [p.map n h.2]; exact h.1, Nat.lt_of_lt_of_le h.2 p.len⟩
theorem Renv.post {ρ : Env} {σ : L2.St} (p : Post m S H m' S' H') (h : Renv K m S H ρ σ) : Renv K m' S' H' ρ σ :=
  ⟨h.len, fun i v e => let ⟨x, h1, h2⟩ := h.at_ i v e; ⟨x, h1, h2.post p⟩⟩
theorem Renv.set {ρ : Env} {σ : L2.St} {i : Nat} {v : Vl} {x : V} (h : Renv K m S H ρ σ) (r : RV K m S H v x) : Renv K m S H (ρ.set i (some v)) (σ.set i (some x)) := by
  refine ⟨by simpa using h.len, fun j w e => ?_⟩
  by_cases hj : i = j
  · subst hj
    have hl : i < ρ.length := by
      have := (List.getElem?_eq_some_iff.mp e).1
      simpa using this
    rw [List.getElem?_set_self hl] at e
    cases e
    exact ⟨x, List.getElem?_set_self (by rw [← h.len]; exact hl), r⟩
  · rw [List.getElem?_set_ne hj] at e
    obtain ⟨y, h1, h2⟩ := h.at_ j w e
    exact ⟨y, by rw [List.getElem?_set_ne hj]; exact h1, h2⟩
theorem Renv.clear {ρ : Env} {σ : L2.St} {i : Nat} (h : Renv K m S H ρ σ) : Renv K m S H (ρ.set i none) (σ.set i none) := by
  refine ⟨by simpa using h.len, fun j w e => ?_⟩
  by_cases hj : i = j
  · subst hj
    by_cases hl : i < ρ.length
    · rw [List.getElem?_set_self hl] at e; cases e
    · rw [List.getElem?_eq_none (by simpa using hl)] at e; cases e
  · rw [List.getElem?_set_ne hj] at e
    obtain ⟨y, h1, h2⟩ := h.at_ j w e
    exact ⟨y, by rw [List.getElem?_set_ne hj]; exact h1, h2⟩
theorem Renv.wipe {ρ : Env} {σ : L2.St} (h : Renv K m S H ρ σ) : ∀ ws, Renv K m S H (In.wipe ρ ws) (L2.wipe σ ws)
  | [] => h
  | w :: ws => by
    show Renv K m S H ((In.wipe ρ ws).set w Option.none) ((L2.wipe σ ws).set w Option.none)
    exact (h.wipe ws).clear
/-! ### the steps of the abstract heap -/
theorem keeps_new {p : Addr} {o : HO} (h : H p = none) : Keeps H (upd H p o) :=
  ⟨fun b xs e => by rw [upd_ne (ne_of_none e h)]; exact e, fun b ob u e => by rw [upd_ne (ne_of_none e h)]; exact e⟩
theorem post_new {p : Addr} {o : HO} (h : H p = none) : Post m S H m S (upd H p o) :=
  ⟨keeps_new h, Nat.le_refl _, fun _ _ => rfl, fun _ h1 h2 => absurd h2 (Nat.not_lt.mpr h1), fun b u e _ => by rw [upd_ne (ne_of_none e h)]; exact e⟩
mutual
theorem ObOk.keep' (k : Keeps H H') {u : HO} {o : MO} (h : ObOk K H u o) : ObOk K H' u o := by
  cases o with
  | lst xs => obtain ⟨vs, e, r⟩ := h; exact ⟨vs, e, RPs.keep k _ _ r⟩
  | dct kvs => obtain ⟨es, e, r⟩ := h; exact ⟨es, e, RPd.keep k _ _ r⟩
end
theorem CellOk.keep (k : Keeps H H') {a : Addr} {c : Cell} (h : CellOk K H a c) (hl : ∀ u, H a = some u → H' a = some u) : CellOk K H' a c := by
  obtain ⟨u, h1, h2⟩ := h
  refine ⟨u, h1.keep' k, ?_⟩
  by_cases e : c.live = true
  · rw [if_pos e] at h2 ⊢; exact hl _ h2
  · rw [if_neg e] at h2 ⊢; obtain ⟨o, h2⟩ := h2; exact ⟨o, hl _ h2⟩
theorem Sok.new {p : Addr} {o : HO} (k : Sok K m S H) (h : H p = none) : Sok K m S (upd H p o) :=
  ⟨fun n c e => (k.at_ n c e).keep (keeps_new h) fun u hu => by rw [upd_ne (ne_of_none hu h)]; exact hu, k.inj⟩
theorem RV.new {p : Addr} {o : HO} {v : Vl} {x : V} (h : H p = none) (r : RV K m S H v x) : RV K m S (upd H p o) v x := r.post (post_new h)
/-- a live cell's obj written -/
theorem Sok.write {n : Nat} {c : Cell} {u : HO} {ob : MO} (k : Sok K m S H) (hc : S[n]? = some c) (hl : c.live = true) (h : ObOk K H u ob) : Sok K m (S.set n ⟨true, ob⟩) (upd H (m n) u) ∧ Post m S H m (S.set n ⟨true, ob⟩) (upd H (m n) u) := by
  have hn : n < S.length := (List.getElem?_eq_some_iff.mp hc).1
  obtain ⟨u0, h1, h2⟩ := k.at_ n c hc
  rw [if_pos hl] at h2
  have mu : ∀ xs, u0 ≠ .tup xs := by
    intro xs e
    cases hh : c.obj with
    | lst ys => rw [hh] at h1; obtain ⟨vs, e', _⟩ := h1; rw [e'] at e; cases e
    | dct ys => rw [hh] at h1; obtain ⟨vs, e', _⟩ := h1; rw [e'] at e; cases e
  have mu2 : ∀ o xs, u0 ≠ .frz o xs := by
    intro o xs e
    cases hh : c.obj with
    | lst ys => rw [hh] at h1; obtain ⟨vs, e', _⟩ := h1; rw [e'] at e; cases e
    | dct ys => rw [hh] at h1; obtain ⟨vs, e', _⟩ := h1; rw [e'] at e; cases e
  have kp : Keeps H (upd H (m n) u) := ⟨fun b xs e => by
      by_cases hb : b = m n
      · rw [hb, h2] at e; cases e; exact absurd rfl (mu _)
      · rw [upd_ne hb]; exact e, fun b o xs e => by
      by_cases hb : b = m n
      · rw [hb, h2] at e; cases e; exact absurd rfl (mu2 _ _)
      · rw [upd_ne hb]; exact e⟩
  refine ⟨⟨fun i c' e => ?_, fun i j hi hj e => k.inj i j (by simpa using hi) (by simpa using hj) e⟩, kp, by simp, fun _ _ => rfl, fun i h1 h2 => absurd h2 (by simpa using h1), fun b v e hb => by rw [upd_ne (Ne.symm (hb n hn))]; exact e⟩
  by_cases hi : n = i
  · subst hi
    rw [List.getElem?_set_self hn] at e
    cases e
    exact ⟨u, h.keep' kp, by rw [if_pos rfl]; exact upd_same⟩
  · rw [List.getElem?_set_ne hi] at e
    have hil : i < S.length := (List.getElem?_eq_some_iff.mp e).1
    exact (k.at_ i c' e).keep kp fun v hv => by rw [upd_ne (fun z => hi (k.inj n i hn hil z.symm))]; exact hv
/-- a live cell closed -/
theorem Sok.close {n : Nat} {c : Cell} {u : HO} {o : Obj} (k : Sok K m S H) (hc : S[n]? = some c) (hl : c.live = true) (hu : H (m n) = some u) (h : ObOk K H u c.obj) :
    Sok K m (S.set n ⟨false, c.obj⟩) (upd H (m n) (.frz o u)) ∧ Post m S H m (S.set n ⟨false, c.obj⟩) (upd H (m n) (.frz o u)) := by
  have hn : n < S.length := (List.getElem?_eq_some_iff.mp hc).1
  have mu : ∀ xs, u ≠ .tup xs := by
    intro xs e
    cases hh : c.obj with
    | lst ys => rw [hh] at h; obtain ⟨vs, e', _⟩ := h; rw [e'] at e; cases e
    | dct ys => rw [hh] at h; obtain ⟨vs, e', _⟩ := h; rw [e'] at e; cases e
  have mu2 : ∀ o xs, u ≠ .frz o xs := by
    intro o xs e
    cases hh : c.obj with
    | lst ys => rw [hh] at h; obtain ⟨vs, e', _⟩ := h; rw [e'] at e; cases e
    | dct ys => rw [hh] at h; obtain ⟨vs, e', _⟩ := h; rw [e'] at e; cases e
  have kp : Keeps H (upd H (m n) (.frz o u)) := ⟨fun b xs e => by
      by_cases hb : b = m n
      · rw [hb, hu] at e; cases e; exact absurd rfl (mu _)
      · rw [upd_ne hb]; exact e, fun b o xs e => by
      by_cases hb : b = m n
      · rw [hb, hu] at e; cases e; exact absurd rfl (mu2 _ _)
      · rw [upd_ne hb]; exact e⟩
  refine ⟨⟨fun i c' e => ?_, fun i j hi hj e => k.inj i j (by simpa using hi) (by simpa using hj) e⟩, kp, by simp, fun _ _ => rfl, fun i h1 h2 => absurd h2 (by simpa using h1), fun b v e hb => by rw [upd_ne (Ne.symm (hb n hn))]; exact e⟩
  by_cases hi : n = i
  · subst hi
    rw [List.getElem?_set_self hn] at e
    cases e
    exact ⟨u, h.keep' kp, by rw [if_neg (by simp)]; exact ⟨o, upd_same⟩⟩
  · rw [List.getElem?_set_ne hi] at e
    have hil : i < S.length := (List.getElem?_eq_some_iff.mp e).1
    exact (k.at_ i c' e).keep kp fun v hv => by rw [upd_ne (fun z => hi (k.inj n i hn hil z.symm))]; exact hv
/-- a fresh object goes live -/
theorem Sok.born {p : Addr} {u : HO} {ob : MO} (k : Sok K m S H) (hp : H p = some u) (hn : ∀ n, n < S.length → m n ≠ p) (h : ObOk K H u ob) :
    Sok K (fun n => if n = S.length then p else m n) (S ++ [⟨true, ob⟩]) H := by
  refine ⟨fun i c e => ?_, fun i j hi hj e => ?_⟩
  · by_cases hi : i = S.length
    · subst hi
      rw [List.getElem?_append_right (Nat.le_refl _)] at e
      simp at e
      subst e
      rw [if_pos rfl]
      exact ⟨u, h, by rw [if_pos rfl]; exact hp⟩
    · have hl : i < S.length := by
        have := (List.getElem?_eq_some_iff.mp e).1
        simp at this
        omega
      rw [List.getElem?_append_left hl] at e
      rw [if_neg hi]
      exact k.at_ i c e
  · simp at hi hj
    by_cases h1 : i = S.length
    · by_cases h2 : j = S.length
      · omega
      · simp only [if_pos h1, if_neg h2] at e
        exact absurd e.symm (hn j (by omega))
    · by_cases h2 : j = S.length
      · simp only [if_pos h2, if_neg h1] at e
        exact absurd e (hn i (by omega))
      · simp only [if_neg h1, if_neg h2] at e
        exact k.inj i j (by omega) (by omega) e
/-- behind a call: the callee's own cells are gone -/
theorem Sok.cut {n : Nat} (k : Sok K m S H) : Sok K m (S.take n) H :=
  ⟨fun i c e => by
    have hl := (List.getElem?_eq_some_iff.mp e).1
    have hin : i < n := by rw [List.length_take] at hl; omega
    rw [List.getElem?_take_of_lt hin] at e
    exact k.at_ i c e, fun i j hi hj e => k.inj i j (by rw [List.length_take] at hi; omega) (by rw [List.length_take] at hj; omega) e⟩
theorem Post.cut (p : Post m S H m' S' H') : Post m S H m' (S'.take S.length) H' :=
  ⟨p.k, by rw [List.length_take]; have := p.len; omega, p.map, fun n h1 h2 => absurd h2 (by rw [List.length_take]; omega), p.obj⟩
end
end In
/-! part InC -/
set_option Elab.async false
set_option linter.all false
set_option maxRecDepth 100000
set_option maxHeartbeats 1000000
/-! What a run means; the rules of expressions. -/
namespace In
open PySem PySem.Spec PyProof.Rows L2
/-- an error of the program's own class c, made with x -/
def Exc (K : Frag) (mg : Str → Option Value) (ex : List Str) (H : Hp) (c : Str) (x : PyData) (cls : Value) (d : Option Addr) : Prop :=
  ∃ (C dd : Addr) (v : V), c ∈ ex ∧ cls = .ref C ∧ mg c = some (.ref C) ∧ d = some dd ∧ H dd = some (.xd [(("reason" : Str), v)]) ∧ RP K H x v
/-- what a reading leans on -/
structure Gx where
  K : Frag
  mg : Str → Option Value
  W : WX
  F : Fns
  ex : List Str
def Den (g : Gx) (n : Nat) {α : Type} (r : R α) (m : Mp) (S : Sto) (H : Hp) (Q : α → Mp → Sto → Hp → Prop) : Prop := match r with
  | .no => False
  | .ok a S' => ∀ m' H', Post m S H m' S' H' → Sok g.K m' S' H' → Q a m' S' H'
  | .ex c x S' => ∀ (m' : Mp) (H' : Hp) (cls : Value) (d : Option Addr) (σ' : L2.St), σ'.length = n → Post m S H m' S' H' → Sok g.K m' S' H' → Exc g.K g.mg g.ex H' c x cls d → g.W cls d σ' H'
section
variable {g : Gx} {n : Nat} {α β : Type} {r : R α} {k : α → Sto → R β} {m m1 : Mp} {S S1 : Sto} {H H1 : Hp}
theorem Den.from {Q : α → Mp → Sto → Hp → Prop} (p : Post m S H m1 S1 H1) (s1 : Sok g.K m1 S1 H1) (h : Den g n r m S H Q) : Den g n r m1 S1 H1 Q := by
  cases r with
  | no => exact h
  | ok a S' => exact fun m' H' p' s' => h m' H' (p.trans s1 p') s'
  | ex c x S' => exact fun m' H' cls d σ' hl p' s' e => h m' H' cls d σ' hl (p.trans s1 p') s' e
theorem Den.mono {Q Q' : α → Mp → Sto → Hp → Prop} (h : Den g n r m S H Q) (hq : ∀ a m' S' H', Post m S H m' S' H' → Sok g.K m' S' H' → Q a m' S' H' → Q' a m' S' H') : Den g n r m S H Q' := by
  cases r with
  | no => exact h
  | ok a S' => exact fun m' H' p' s' => hq _ _ _ _ p' s' (h m' H' p' s')
  | ex c x S' => exact h
theorem Den.bind {Q : β → Mp → Sto → Hp → Prop} (h : Den g n (r.bind k) m S H Q) : Den g n r m S H fun a m1 S1 H1 => Den g n (k a S1) m1 S1 H1 Q := by
  cases r with
  | no => exact h
  | ex c x S' => exact h
  | ok a S' => exact fun m' H' p' s' => Den.from p' s' (show Den g n (k a S') m S H Q from h)
theorem Den.opt {Q : α → Mp → Sto → Hp → Prop} {o : Option α} (h : Den g n (R.opt o S) m S H Q) (s : Sok g.K m S H) : ∃ a, o = some a ∧ Q a m S H := by
  cases o with
  | none => exact h.elim
  | some a => exact ⟨a, rfl, h m H .refl s⟩
/-- after a step that only adds to the heap -/
theorem Den.ok {Q : α → Mp → Sto → Hp → Prop} {a : α} (h : Den g n (.ok a S) m S H Q) (p : Post m S H m S H1) (s : Sok g.K m S H1) : Q a m S H1 := h m H1 p s
theorem Den.calm {Q : α → Mp → Sto → Hp → Prop} (h : Den g n r.calm m S H Q) (g' : Gx) (hg : g'.K = g.K) (n' : Nat) : Den g' n' r m S H Q := by
  cases r with
  | no => exact h
  | ok a S' => exact fun m' H' p' s' => h m' H' p' (by rw [← hg]; exact s')
  | ex c x S' => exact False.elim (show False from h)
end

/-! ### reading data, live or closed -/
def RT (K : Frag) (H : Hp) (d : PyData) (x : V) : Prop := match d with
  | .list xs => ∃ a vs, x = .ref a ∧ Rd H a (.lst vs) ∧ RPs K H xs vs
  | .dict kvs => ∃ a es, x = .ref a ∧ Rd H a (.dK es) ∧ RPd K H kvs es
  | d => RP K H d x
section
variable {K : Frag} {m : Mp} {S : Sto} {H : Hp} {x : V} {d : PyData}
theorem RP.rt (h : RP K H d x) : RT K H d x := by
  cases h with
  | lst h r => exact ⟨_, _, rfl, .inr h, r⟩
  | dct h r => exact ⟨_, _, rfl, .inr ⟨_, h⟩, r⟩
  | non => exact .non
  | bl b => exact .bl b
  | int b => exact .int b
  | str b => exact .str b
  | tup h r => exact RP.tup h r
theorem RV.rt {v : Vl} (h : RV K m S H v x) (s : Sok K m S H) (e : view S v = some d) : RT K H d x := by
  cases v with
  | d y => cases e; exact RP.rt h
  | loc n =>
    obtain ⟨rfl, hl⟩ := h
    have e' : (S[n]?).map (fun c => c.obj.data) = some d := e
    rw [List.getElem?_eq_getElem hl] at e'
    simp only [Option.map_some, Option.some.injEq] at e'
    subst e'
    obtain ⟨u, h1, h2⟩ := s.at_ n S[n] (List.getElem?_eq_getElem hl)
    have h3 : Rd H (m n) u := by
      by_cases q : S[n].live = true
      · rw [if_pos q] at h2; exact .inl h2
      · rw [if_neg q] at h2; exact .inr h2
    cases ho : S[n].obj with
    | lst xs =>
      rw [ho] at h1
      obtain ⟨vs, rfl, r⟩ := h1
      exact ⟨_, vs, rfl, h3, r⟩
    | dct kvs =>
      rw [ho] at h1
      obtain ⟨vs, rfl, r⟩ := h1
      exact ⟨_, vs, rfl, h3, r⟩
theorem RT.dp (h : RT K H d x) (hd : d.hasDict = false) : Dp K H x d := by
  cases d with
  | list xs =>
    obtain ⟨a, vs, rfl, h, r⟩ := h
    exact .lst (.inl h) (RPs.dp xs vs (by simpa [PyData.hasDict] using hd) r)
  | dict kvs => simp [PyData.hasDict] at hd
  | _ => exact RP.dp _ _ hd h
theorem RT.int {i : Int} (h : RT K H (.int i) x) : x = .int i := by
  have h' : RP K H (.int i) x := h
  cases h'; rfl
theorem RT.bl {i : Bool} (h : RT K H (.bool i) x) : x = .bl i := by
  have h' : RP K H (.bool i) x := h
  cases h'; rfl
theorem RT.str {i : Str} (h : RT K H (.str i) x) : x = .str i := by
  have h' : RP K H (.str i) x := h
  cases h'; rfl
theorem RT.non (h : RT K H .none x) : x = .non := by
  have h' : RP K H .none x := h
  cases h'; rfl
theorem RT.tup {xs : List PyData} (h : RT K H (.tuple xs) x) : ∃ a vs, x = .ref a ∧ SqT K H a vs ∧ RPs K H xs vs := by
  have h' : RP K H (.tuple xs) x := h
  clear h
  cases h' with
  | tup q r => exact ⟨_, _, rfl, q, r⟩
end
/-- the heap only grew -/
structure Ext (H H' : Hp) : Prop where
  o : ∀ b u, H b = some u → H' b = some u
theorem Ext.refl {H : Hp} : Ext H H := ⟨fun _ _ h => h⟩
theorem Ext.new {H : Hp} {p : Addr} {o : HO} (h : H p = none) : Ext H (upd H p o) := ⟨fun b u e => by rw [upd_ne (ne_of_none e h)]; exact e⟩
theorem Ext.trans {H H' H'' : Hp} (a : Ext H H') (b : Ext H' H'') : Ext H H'' := ⟨fun x u h => b.o x u (a.o x u h)⟩
section
variable {K : Frag} {m : Mp} {S : Sto} {H H' : Hp}
theorem Ext.keeps (e : Ext H H') : Keeps H H' := ⟨fun b xs h => e.o b _ h, fun b o u h => e.o b _ h⟩
theorem Ext.post (e : Ext H H') : Post m S H m S H' := ⟨e.keeps, Nat.le_refl _, fun _ _ => rfl, fun _ h1 h2 => absurd h2 (Nat.not_lt.mpr h1), fun b u h _ => e.o b u h⟩
theorem Ext.sok (e : Ext H H') (s : Sok K m S H) : Sok K m S H' := ⟨fun n c h => (s.at_ n c h).keep e.keeps fun u hu => e.o _ u hu, s.inj⟩
end
/-- a result: data that stands closed -/
def Rs (K : Frag) (H : Hp) (d : PyData) (Q : VK) : Prop := ∀ z H', Ext H H' → RP K H' d z → Q z H'
/-- a result: a new container -/
def RsU (K : Frag) (H : Hp) (d : PyData) (Q : VK) : Prop := ∀ p u ob, d = ob.data → H p = none → ObOk K H u ob → Q (.ref p) (upd H p u)
theorem Rs.int {K : Frag} {H : Hp} {i : Int} {Q : VK} (h : Rs K H (.int i) Q) : Q (.int i) H := h _ _ .refl (.int i)
theorem Rs.bl {K : Frag} {H : Hp} {i : Bool} {Q : VK} (h : Rs K H (.bool i) Q) : Q (.bl i) H := h _ _ .refl (.bl i)
theorem Rs.tup {K : Frag} {H : Hp} {xs : List PyData} {vs : List V} {Q : VK} (h : Rs K H (.tuple xs) Q) (r : RPs K H xs vs) : ∀ p, H p = none → Q (.ref p) (upd H p (.tup vs)) :=
  fun p hp => h _ _ (Ext.new hp) (.tup (SqT.of upd_same) (RPs.keep (keeps_new hp) _ _ r))
/-- a new container, closed at once -/
theorem rsU_of {K : Frag} {H : Hp} {d : PyData} {Q : VK} (h : Rs K H d Q) : RsU K H d fun z H1 => ∃ a u, z = .ref a ∧ H1 a = some u ∧ Mut (some u) ∧ ∀ o, Q z (upd H1 a (.frz o u)) := by
  intro p u ob e hp hu
  refine ⟨p, u, rfl, upd_same, ?_, fun o => ?_⟩
  · cases ob with
    | lst xs => obtain ⟨vs, rfl, _⟩ := hu; trivial
    | dct xs => obtain ⟨vs, rfl, _⟩ := hu; trivial
  · rw [upd_upd]
    refine h _ _ (Ext.new hp) ?_
    subst e
    cases ob with
    | lst xs => obtain ⟨vs, rfl, r⟩ := hu; exact .lst ⟨o, upd_same⟩ (RPs.keep (keeps_new hp) _ _ r)
    | dct xs => obtain ⟨vs, rfl, r⟩ := hu; exact .dct upd_same (RPd.keep (keeps_new hp) _ _ r)
theorem ep_lock {X : Cx} {pins : List (Addr × Obj)} {σ : L2.St} {Q : VK} {u : Value} {s' : Shared}
    (h : EP X pins σ (fun z H1 => ∃ a u, z = .ref a ∧ H1 a = some u ∧ Mut (some u) ∧ ∀ o, Q z (upd H1 a (.frz o u))) u s') : EP X pins σ Q u s' := by
  obtain ⟨v, H', I, r, a, u', rfl, e, mu, q⟩ := h
  obtain ⟨od, I2⟩ := I.lock e mu
  exact ⟨_, _, I2, r, q od⟩
/-! ### operators on data -/
def rD (K : Frag) (f : PyData → PyData → Option PyData) : R2 := fun x y H Q => ∃ dx dy dz, RT K H dx x ∧ RT K H dy y ∧ f dx dy = some dz ∧ Rs K H dz Q
def rU (K : Frag) (f : PyData → PyData → Option PyData) : R2 := fun x y H Q => ∃ dx dy dz, RT K H dx x ∧ RT K H dy y ∧ f dx dy = some dz ∧ RsU K H dz Q
/-- a condition on two data for which the result is a new container -/
theorem rU_shut {X : Cx} {f : Value → Value → Sem Value} {k : PyData → PyData → Option PyData} (h : OpR X f (rU X.K k)) : OpR X f (rD X.K k) := by
  intro pins s σ H x y v u Q I rx ry q
  obtain ⟨dx, dy, dz, h1, h2, h3, h4⟩ := q
  exact thn (h pins s σ H x y v u _ I rx ry ⟨dx, dy, dz, h1, h2, h3, rsU_of h4⟩) fun _ _ e => ep_lock e
/-- by the kinds of data -/
theorem opR_rD {X : Cx} {f : Value → Value → Sem Value} {k : PyData → PyData → Option PyData}
    (h : ∀ dx dy dz, k dx dy = some dz → OpR X f (fun x y H Q => RT X.K H dx x ∧ RT X.K H dy y ∧ Rs X.K H dz Q)) : OpR X f (rD X.K k) := by
  intro pins s σ H x y v u Q I rx ry q
  obtain ⟨dx, dy, dz, h1, h2, h3, h4⟩ := q
  exact h dx dy dz h3 pins s σ H x y v u Q I rx ry ⟨h1, h2, h4⟩
theorem opR_rU {X : Cx} {f : Value → Value → Sem Value} {k : PyData → PyData → Option PyData}
    (h : ∀ dx dy dz, k dx dy = some dz → OpR X f (fun x y H Q => RT X.K H dx x ∧ RT X.K H dy y ∧ RsU X.K H dz Q)) : OpR X f (rU X.K k) := by
  intro pins s σ H x y v u Q I rx ry q
  obtain ⟨dx, dy, dz, h1, h2, h3, h4⟩ := q
  exact h dx dy dz h3 pins s σ H x y v u Q I rx ry ⟨h1, h2, h4⟩
theorem OpR.imp {X : Cx} {f : Value → Value → Sem Value} {r r' : R2} (h : OpR X f r) (q : ∀ x y H Q, r' x y H Q → r x y H Q) : OpR X f r' :=
  fun pins s σ H x y v u Q I rx ry z => h pins s σ H x y v u Q I rx ry (q _ _ _ _ z)
/-- list + list, tracked or closed -/
theorem op_cat2 {X : Cx} : OpR X (binaryOp .Add) (fun x y H Q => ∃ l b xs zs, x = .ref l ∧ y = .ref b ∧ Rd H l (.lst xs) ∧ Rd H b (.lst zs) ∧ xs.length + zs.length ≤ sizeLine ∧ ∀ p, H p = none → Q (.ref p) (upd H p (.lst (xs ++ zs)))) := by
  intro pins s σ H x y v u Q I rx ry h
  obtain ⟨l, b, xs, zs, rfl, rfl, hH, hB, hz, q⟩ := h
  cases rx
  cases ry
  obtain ⟨z, its, n, r, e⟩ := hH.ok I.hok
  obtain ⟨z2, its2, n2, r2, e2⟩ := hB.ok I.hok
  have hl := r.length
  have hl2 := r2.length
  refine PySem.P.add_list e e2 ?_ (by rw [List.size_toArray, List.size_toArray]; omega)
  have ea : its.toArray ++ its2.toArray = (its ++ its2).toArray := by simp
  rw [ea]
  exact ⟨.ref _, _, I.lnew (t' := s.toks) (r.append r2) (by rw [List.length_append]; omega), rfl, q _ I.fresh⟩
theorem fits_le {n : Nat} (h : fits n = true) : n ≤ sizeLine := by rw [sizeLine_eq]; exact of_decide_eq_true h
theorem small_iff {i : Int} (h : small i = true) : -(2 ^ 64) < i ∧ i < 2 ^ 64 := by
  simpa only [small, Bool.and_eq_true, decide_eq_true_eq] using h
section
variable {X : Cx}
def opOf : B2 → Operator
  | .add => .Add | .sub => .Sub | .mul => .Mult | .fdiv => .FloorDiv | .mod => .Mod | .pow => .Pow | .shl => .LShift | .shr => .RShift | .band => .BitAnd
theorem opR_int {f : Value → Value → Sem Value} {C : Int → Int → Prop} {k : Int → Int → Int} {i j : Int} (h : OpR X f (rI C fun i j => .int (k i j))) (c : C i j) :
    OpR X f (fun x y H Q => RT X.K H (.int i) x ∧ RT X.K H (.int j) y ∧ Rs X.K H (.int (k i j)) Q) :=
  OpR.imp h fun x y H Q ⟨h1, h2, h3⟩ => ⟨i, j, h1.int, h2.int, c, h3.int⟩
theorem opR_int0 {f : Value → Value → Sem Value} {k : Int → Int → Int} {i j : Int} (h : OpR X f (rI0 fun i j => .int (k i j))) :
    OpR X f (fun x y H Q => RT X.K H (.int i) x ∧ RT X.K H (.int j) y ∧ Rs X.K H (.int (k i j)) Q) :=
  OpR.imp h fun x y H Q ⟨h1, h2, h3⟩ => ⟨i, j, h1.int, h2.int, h3.int⟩
/-- a list times an int, tracked or closed -/
theorem op_rep2 : OpR X (binaryOp .Mult) (fun x y H Q => ∃ l k xs, x = .ref l ∧ y = .int k ∧ Rd H l (.lst xs) ∧ -(2 ^ 63) ≤ k ∧ k < 2 ^ 63 ∧ xs.length * k.toNat ≤ sizeLine ∧
  ∀ p, H p = none → Q (.ref p) (upd H p (.lst (List.replicate k.toNat xs).flatten))) := by
  intro pins s σ H x y v u Q I rx ry h
  obtain ⟨l, k, xs, rfl, rfl, hH, h1, h2, hz, q⟩ := h
  cases rx
  obtain ⟨t, rfl⟩ := ry
  obtain ⟨z, its, n, r, e⟩ := hH.ok I.hok
  have hl := r.length
  have hlen : its.toArray.size * k.toNat ≤ sizeLine := by rw [List.size_toArray, ← hl]; exact hz
  have hcap : ¬ its.toArray.size * k.toNat > (2 ^ 63 - 1) / 8 := by
    have : (sizeLine : Nat) ≤ (2 ^ 63 - 1) / 8 := by decide
    omega
  have hfit : ¬ (!Builtin.List.listFitsIndex k) = true := by
    rw [fitsIndex_both h1 h2]
    exact Bool.false_ne_true
  have hlong : ¬ Builtin.List.listTooLong (its.toArray.size * k.toNat) = true := by
    rw [notLongL hlen]
    exact Bool.false_ne_true
  have hnew : List.foldl (fun x1 x2 => x1 ++ x2) #[] (List.replicate (if its.toArray.isEmpty = true then 0 else k.toNat) its.toArray) = (List.replicate k.toNat its).flatten.toArray := by
    have f0 : ∀ m : Nat, List.foldl (fun x1 x2 => x1 ++ x2) #[] (List.replicate m its.toArray) = (List.replicate m its).flatten.toArray := fun m => by
      have := foldl_rep its m []
      rw [List.nil_append] at this
      exact this
    rw [f0]
    cases its with
    | nil => simp
    | cons a r' => rw [if_neg (by simp)]
  refine wpAny_binaryOp_repeat_ref (T := "list") (U := "int") (by decide) ⟨_, e, rfl⟩ (fun s' => typeIs_int s' k t) noFill_list_mul F.fills_int_mul F.slot_int_rmul repeat_list F.slot_int_index.lookup
    (call_meets F.slot_int_rmul (typeIs_int s k t) F.entry_int_rmul (F.args_int_rmul_2 _ _) (int___rmul___int_list k t l its.toArray n)
      ⟨e, rfl, ⟨_, e, rfl⟩, call_meets F.slot_list_mul ⟨_, e, rfl⟩ F.entry_list_mul (F.args_list_mul_2 _ _) (AutoListH.list___mul___list_int_3 l its.toArray n k t hfit hcap hlong) ⟨e, ?_⟩⟩)
  rw [hnew]
  exact ⟨.ref _, _, I.lnew (t' := s.toks) (r.rep k.toNat) (by rw [PyProof.Rows.lm_len_rep_flat, Nat.mul_comm]; exact hz), rfl, q _ I.fresh⟩
theorem RPs.rep {K : Frag} {H : Hp} {xs : List PyData} {vs : List V} (r : RPs K H xs vs) : ∀ n : Nat, RPs K H (List.replicate n xs).flatten (List.replicate n vs).flatten
  | 0 => .nil
  | n + 1 => by
    rw [List.replicate_succ, List.replicate_succ, List.flatten_cons, List.flatten_cons]
    exact r.app (RPs.rep r n)
/-- lists: a new one -/
def lstop : B2 → PyData → PyData → Option PyData
  | .add, .list xs, .list ys => if fits (xs.length + ys.length) then some (.list (xs ++ ys)) else none
  | .mul, .list xs, .int k => if decide (-(2 ^ 62) ≤ k) && decide (k < 2 ^ 62) && fits (xs.length * k.toNat) then some (.list (List.replicate k.toNat xs).flatten) else none
  | _, _, _ => none
theorem op_lst (op : B2) : OpR X (binaryOp (opOf op)) (rU X.K (lstop op)) := by
  refine opR_rU fun dx dy dz e => ?_
  unfold lstop at e
  split at e
  · rename_i xs ys
    split at e
    · rename_i hf
      cases e
      refine OpR.imp op_cat2 fun x y H Q ⟨h1, h2, h3⟩ => ?_
      obtain ⟨a, vs, rfl, r1, p1⟩ := h1
      obtain ⟨b, ws, rfl, r2, p2⟩ := h2
      exact ⟨a, b, vs, ws, rfl, rfl, r1, r2, by rw [← p1.len, ← p2.len]; exact fits_le hf, fun p hp => h3 p _ (.lst (xs ++ ys)) rfl hp ⟨_, rfl, p1.app p2⟩⟩
    · cases e
  · rename_i xs k
    split at e
    · rename_i hf
      cases e
      simp only [Bool.and_eq_true, decide_eq_true_eq] at hf
      refine OpR.imp op_rep2 fun x y H Q ⟨h1, h2, h3⟩ => ?_
      obtain ⟨a, vs, rfl, r1, p1⟩ := h1
      exact ⟨a, k, vs, rfl, h2.int, r1, by omega, by omega, by rw [← p1.len]; exact fits_le hf.2, fun p hp => h3 p _ (.lst _) rfl hp ⟨_, rfl, p1.rep _⟩⟩
    · cases e
  · cases e
/-- the operators -/
theorem op_bin (op : B2) : OpR X (binaryOp (opOf op)) (rD X.K (binop op)) := by
  refine opR_rD fun dx dy dz e => ?_
  have viaL : ∀ {f : Value → Value → Sem Value}, OpR X f (rU X.K (lstop op)) → lstop op dx dy = some dz → OpR X f (fun x y H Q => RT X.K H dx x ∧ RT X.K H dy y ∧ Rs X.K H dz Q) := fun h e' =>
    OpR.imp (rU_shut h) fun x y H Q ⟨h1, h2, h3⟩ => ⟨dx, dy, dz, h1, h2, e', h3⟩
  unfold binop at e
  split at e
  · cases e; exact opR_int0 op_add
  · exact viaL (op_lst .add) e
  · rename_i xs ys
    split at e
    · rename_i hf
      cases e
      refine OpR.imp op_catA fun x y H Q ⟨h1, h2, h3⟩ => ?_
      obtain ⟨a, vs, rfl, r1, p1⟩ := h1.tup
      obtain ⟨b, ws, rfl, r2, p2⟩ := h2.tup
      refine ⟨a, b, vs, ws, rfl, rfl, r1, r2, by rw [← p1.len, ← p2.len]; exact fits_le hf, fun e => ?_, fun _ e => ?_, fun _ _ => Rs.tup h3 (p1.app p2)⟩
      · subst e
        cases p1
        exact h3 _ _ .refl (.tup r2 p2)
      · subst e
        cases p2
        exact h3 _ _ .refl (.tup r1 (by simpa using p1))
    · cases e
  · cases e; exact opR_int0 op_sub
  · split at e
    · rename_i hf
      cases e
      refine opR_int op_mul ?_
      simp only [Bool.or_eq_true] at hf
      exact hf.elim (fun z => .inl (small_iff z)) fun z => .inr (small_iff z)
    · cases e
  · exact viaL (op_lst .mul) e
  · rename_i xs k
    split at e
    · rename_i hf
      cases e
      simp only [Bool.and_eq_true, decide_eq_true_eq] at hf
      refine OpR.imp op_repT fun x y H Q ⟨h1, h2, h3⟩ => ?_
      obtain ⟨a, vs, rfl, r1, p1⟩ := h1.tup
      refine ⟨a, k, vs, rfl, h2.int, r1, fun e => hf.1.2 ?_, hf.1.1.1, hf.1.1.2, by rw [← p1.len]; exact hf.2, Rs.tup h3 (p1.rep _)⟩
      subst e
      cases p1
      rfl
    · cases e
  · split at e
    · rename_i hf
      cases e
      simp only [Bool.and_eq_true, decide_eq_true_eq] at hf
      exact opR_int op_fdivN hf
    · cases e
  · split at e
    · rename_i hf
      cases e
      exact opR_int op_modN (of_decide_eq_true hf)
    · cases e
  · split at e
    · rename_i hf
      cases e
      simp only [Bool.and_eq_true, decide_eq_true_eq] at hf
      exact opR_int op_pow ⟨hf.1.1, hf.1.2, hf.2⟩
    · cases e
  · split at e
    · rename_i hf
      cases e
      simp only [Bool.and_eq_true, decide_eq_true_eq] at hf
      exact opR_int op_shl ⟨hf.1.1, hf.1.2, hf.2⟩
    · cases e
  · split at e
    · rename_i hf
      cases e
      exact opR_int op_shr (of_decide_eq_true hf)
    · cases e
  · cases e; exact opR_int0 op_and
  · cases e
/-! ### comparisons -/
def cmpOf : C2 → CmpOp
  | .eq => .Eq | .ne => .NotEq | .lt => .Lt | .le => .LtE | .gt => .Gt | .ge => .GtE | .isin => .In | .notin => .NotIn | .is_ => .Is | .isnot => .IsNot
def cmpd (op : C2) (x y : PyData) : Option PyData := (cmpop op x y).map .bool
theorem opR_cmp {f : Value → Value → Sem Value} {k : Int → Int → Bool} {i j : Int} (h : OpR X f (rI0 fun i j => .bl (k i j))) :
    OpR X f (fun x y H Q => RT X.K H (.int i) x ∧ RT X.K H (.int j) y ∧ Rs X.K H (.bool (k i j)) Q) :=
  OpR.imp h fun x y H Q ⟨h1, h2, h3⟩ => ⟨i, j, h1.int, h2.int, h3.bl⟩
theorem noDict_of {d : PyData} (h : eqOk d = true) : d.hasDict = false := PyData.hasDict_of_canLay d (SeqAt.canLay_of_shaped h)
theorem shaped_list {xs : List PyData} (h : eqOk (.tuple xs) = true) : eqOk (.list xs) = true := by
  have h' : (PyData.canLay0 (.tuple xs) && decide (PyData.depth (.tuple xs) ≤ 64)) = true := h
  show (PyData.canLay0 (.list xs) && decide (PyData.depth (.list xs) ≤ 64)) = true
  rw [Bool.and_eq_true, decide_eq_true_eq] at h' ⊢
  simpa only [PyData.canLay0, PyData.depth] using h'
/-- x in t, x not in t: t a list or tuple of data -/
theorem op_inD2 (hu : X.A.units + 65 < cLine) {ds : List PyData} {d c : PyData} (hc : c = .list ds ∨ c = .tuple ds) (sd : eqOk d = true) (sl : eqOk c = true) :
    OpR X (compareOp .In) (fun x y H Q => RT X.K H d x ∧ RT X.K H c y ∧ Rs X.K H (.bool (ds.any fun z => PyData.eqv z d)) Q) ∧
    OpR X (compareOp .NotIn) (fun x y H Q => RT X.K H d x ∧ RT X.K H c y ∧ Rs X.K H (.bool (!ds.any fun z => PyData.eqv z d)) Q) := by
  constructor
  · intro pins s σ H x y v u Q I rx ry ⟨h1, h2, q⟩
    obtain ⟨as, r1⟩ := Dp.reads I d x v (h1.dp (noDict_of sd)) rx
    obtain ⟨bs, r2⟩ := Dp.reads I c y u (h2.dp (noDict_of sl)) ry
    rcases hc with rfl | rfl
    · exact SeqAt.in_list_reads r2 r1 (SeqAt.canLay_of_shaped sl) (SeqAt.canLay_of_shaped sd) (room_in_shaped sd hu) ⟨.bl _, H, I, rfl, q.bl⟩
    · exact SeqAt.in_tuple_reads r2 r1 (SeqAt.canLay_of_shaped sl) (SeqAt.canLay_of_shaped sd) (room_in_shaped sd hu) ⟨.bl _, H, I, rfl, q.bl⟩
  · intro pins s σ H x y v u Q I rx ry ⟨h1, h2, q⟩
    obtain ⟨as, r1⟩ := Dp.reads I d x v (h1.dp (noDict_of sd)) rx
    obtain ⟨bs, r2⟩ := Dp.reads I c y u (h2.dp (noDict_of sl)) ry
    rcases hc with rfl | rfl
    · exact SeqAt.notIn_list_reads r2 r1 (SeqAt.canLay_of_shaped sl) (SeqAt.canLay_of_shaped sd) (room_in_shaped sd hu) ⟨.bl _, H, I, rfl, q.bl⟩
    · exact SeqAt.notIn_tuple_reads r2 r1 (SeqAt.canLay_of_shaped sl) (SeqAt.canLay_of_shaped sd) (room_in_shaped sd hu) ⟨.bl _, H, I, rfl, q.bl⟩
theorem isNone_of {K : Frag} {H : Hp} {d : PyData} {x : V} (h : RT K H d x) : decide (x = .non) = isNone d := by
  cases d with
  | none => rw [h.non]; rfl
  | bool b => rw [h.bl]; exact decide_eq_false (fun e => nomatch e)
  | int b => rw [h.int]; exact decide_eq_false (fun e => nomatch e)
  | str b => rw [h.str]; exact decide_eq_false (fun e => nomatch e)
  | list xs => obtain ⟨a, vs, rfl, _⟩ := h; exact decide_eq_false (fun e => nomatch e)
  | tuple xs => obtain ⟨a, vs, rfl, _⟩ := h.tup; exact decide_eq_false (fun e => nomatch e)
  | dict xs => obtain ⟨a, vs, rfl, _⟩ := h; exact decide_eq_false (fun e => nomatch e)
theorem op_cmp (hu : X.A.units + 65 < cLine) (op : C2) : OpR X (compareOp (cmpOf op)) (rD X.K (cmpd op)) := by
  refine opR_rD fun dx dy dz e => ?_
  obtain ⟨b, e1, e2⟩ := Option.map_eq_some_iff.mp (show (cmpop op dx dy).map PyData.bool = some dz from e)
  subst e2
  clear e
  replace e := e1
  unfold cmpop at e
  split at e
  · split at e
    · rename_i hf
      cases e
      rw [Bool.and_eq_true] at hf
      exact OpR.imp (op_eqD (by omega)) fun x y H Q ⟨h1, h2, h3⟩ => ⟨dx, dy, h1.dp (noDict_of hf.1), h2.dp (noDict_of hf.2), hf.1, hf.2, h3.bl⟩
    · cases e
  · split at e
    · rename_i hf
      cases e
      rw [Bool.and_eq_true] at hf
      exact OpR.imp (op_neD (by omega)) fun x y H Q ⟨h1, h2, h3⟩ => ⟨dx, dy, h1.dp (noDict_of hf.1), h2.dp (noDict_of hf.2), hf.1, hf.2, h3.bl⟩
    · cases e
  · cases e; exact opR_cmp op_lt
  · cases e; exact opR_cmp op_le
  · cases e; exact opR_cmp op_gt
  · cases e; exact opR_cmp op_ge
  · split at e
    · rename_i hf
      cases e
      rw [Bool.and_eq_true] at hf
      exact (op_inD2 hu (.inl rfl) hf.1 hf.2).1
    · cases e
  · split at e
    · rename_i hf
      cases e
      rw [Bool.and_eq_true] at hf
      exact (op_inD2 hu (.inl rfl) hf.1 hf.2).2
    · cases e
  · split at e
    · rename_i hf
      cases e
      rw [Bool.and_eq_true] at hf
      exact (op_inD2 hu (.inr rfl) hf.1 hf.2).1
    · cases e
  · split at e
    · rename_i hf
      cases e
      rw [Bool.and_eq_true] at hf
      exact (op_inD2 hu (.inr rfl) hf.1 hf.2).2
    · cases e
  · cases e
    exact OpR.imp op_isN fun x y H Q ⟨h1, h2, h3⟩ => ⟨h2.non, by rw [isNone_of h1]; exact h3.bl⟩
  · cases e
    exact OpR.imp op_notN fun x y H Q ⟨h1, h2, h3⟩ => ⟨h2.non, by rw [isNone_of h1]; exact h3.bl⟩
  · cases e
end
end In
/-! part InD -/
set_option Elab.async false
set_option linter.all false
set_option maxRecDepth 100000
set_option maxHeartbeats 1000000
/-! Built-ins. -/
namespace In
open PySem PySem.Spec PyProof.Rows L2
/-! ### built-ins of one argument -/
def rD1 (K : Frag) (f : PyData → Option PyData) : List V → Hp → VK → Prop := fun vs H Q => ∃ x dx dz, vs = [x] ∧ RT K H dx x ∧ f dx = some dz ∧ Rs K H dz Q
def rU1 (K : Frag) (f : PyData → Option PyData) : List V → Hp → VK → Prop := fun vs H Q => ∃ x dx dz, vs = [x] ∧ RT K H dx x ∧ f dx = some dz ∧ RsU K H dz Q
/-! ### the least, the greatest, in order -/
theorem insertI_perm (i : Int) : ∀ l : List Int, (insertI i l).Perm (i :: l)
  | [] => .refl _
  | j :: r => by
    unfold insertI
    split
    · exact .refl _
    · exact ((insertI_perm i r).cons j).trans (List.Perm.swap i j r)
theorem sortI_perm : ∀ l : List Int, (sortI l).Perm l
  | [] => .refl _
  | i :: r => (insertI_perm i (sortI r)).trans ((sortI_perm r).cons i)
theorem insertI_sorted (i : Int) : ∀ l : List Int, l.Pairwise (· ≤ ·) → (insertI i l).Pairwise (· ≤ ·)
  | [], _ => by simp [insertI]
  | j :: r, h => by
    unfold insertI
    rw [List.pairwise_cons] at h
    split
    · rename_i hij
      rw [List.pairwise_cons, List.pairwise_cons]
      refine ⟨fun a ha => ?_, h⟩
      rcases List.mem_cons.mp ha with rfl | ha
      · exact hij
      · exact Int.le_trans hij (h.1 a ha)
    · rename_i hij
      rw [List.pairwise_cons]
      refine ⟨fun a ha => ?_, insertI_sorted i r h.2⟩
      rcases List.mem_cons.mp ((insertI_perm i r).mem_iff.mp ha) with rfl | ha
      · omega
      · exact h.1 a ha
theorem sortI_sorted : ∀ l : List Int, (sortI l).Pairwise (· ≤ ·)
  | [] => .nil
  | i :: r => insertI_sorted i _ (sortI_sorted r)
theorem sorted_uniq : ∀ {l l' : List Int}, l.Perm l' → l.Pairwise (· ≤ ·) → l'.Pairwise (· ≤ ·) → l = l'
  | [], l', p, _, _ => (List.nil_perm.mp p).symm
  | a :: l, [], p, _, _ => absurd (List.perm_nil.mp p) (by simp)
  | a :: l, b :: l', p, h, h' => by
    rw [List.pairwise_cons] at h h'
    have hb : b ∈ a :: l := p.mem_iff.mpr List.mem_cons_self
    have ha : a ∈ b :: l' := p.mem_iff.mp List.mem_cons_self
    have e : a = b := by
      rcases List.mem_cons.mp hb with q | q
      · exact q.symm
      · rcases List.mem_cons.mp ha with q' | q'
        · exact q'
        · exact Int.le_antisymm (h.1 b q) (h'.1 a q')
    subst e
    rw [sorted_uniq ((List.perm_cons a).mp p) h.2 h'.2]
theorem sortI_is {l l' : List Int} (p : l'.Perm l) (h : l'.Pairwise (· ≤ ·)) : l' = sortI l := sorted_uniq (p.trans (sortI_perm l).symm) h (sortI_sorted l)
theorem fold_max : ∀ (l : List Int) (i : Int), let m := l.foldl (fun m j => if j > m then j else m) i; (m = i ∨ m ∈ l) ∧ i ≤ m ∧ ∀ j ∈ l, j ≤ m
  | [], i => ⟨.inl rfl, Int.le_refl _, fun j h => absurd h (by simp)⟩
  | j :: l, i => by
    have q := fold_max l (if j > i then j else i)
    simp only [List.foldl_cons]
    obtain ⟨q1, q2, q3⟩ := q
    split at q1
    all_goals rename_i hj
    · rw [if_pos hj] at q2 q3 ⊢
      exact ⟨.inr (q1.elim (fun e => by rw [e]; exact List.mem_cons_self) fun e => List.mem_cons_of_mem _ e), by omega, fun k hk => (List.mem_cons.mp hk).elim (fun e => by rw [e]; exact q2) (q3 k)⟩
    · rw [if_neg hj] at q2 q3 ⊢
      exact ⟨q1.elim .inl fun e => .inr (List.mem_cons_of_mem _ e), q2, fun k hk => (List.mem_cons.mp hk).elim (fun e => by rw [e]; omega) (q3 k)⟩
theorem fold_min : ∀ (l : List Int) (i : Int), let m := l.foldl (fun m j => if j < m then j else m) i; (m = i ∨ m ∈ l) ∧ m ≤ i ∧ ∀ j ∈ l, m ≤ j
  | [], i => ⟨.inl rfl, Int.le_refl _, fun j h => absurd h (by simp)⟩
  | j :: l, i => by
    have q := fold_min l (if j < i then j else i)
    simp only [List.foldl_cons]
    obtain ⟨q1, q2, q3⟩ := q
    split at q1
    all_goals rename_i hj
    · rw [if_pos hj] at q2 q3 ⊢
      exact ⟨.inr (q1.elim (fun e => by rw [e]; exact List.mem_cons_self) fun e => List.mem_cons_of_mem _ e), by omega, fun k hk => (List.mem_cons.mp hk).elim (fun e => by rw [e]; exact q2) (q3 k)⟩
    · rw [if_neg hj] at q2 q3 ⊢
      exact ⟨q1.elim .inl fun e => .inr (List.mem_cons_of_mem _ e), q2, fun k hk => (List.mem_cons.mp hk).elim (fun e => by rw [e]; omega) (q3 k)⟩
theorem maxI_is : ∀ {l : List Int} {m : Int}, m ∈ l → (∀ j ∈ l, j ≤ m) → m = maxI l
  | [], m, h, _ => absurd h (by simp)
  | i :: l, m, h, hm => by
    have q := fold_max l i
    show m = l.foldl (fun m j => if j > m then j else m) i
    generalize l.foldl (fun m j => if j > m then j else m) i = x at q ⊢
    obtain ⟨q1, q2, q3⟩ := q
    have h1 : x ≤ m := q1.elim (fun e => by rw [e]; exact hm i List.mem_cons_self) fun e => hm x (List.mem_cons_of_mem _ e)
    have h2 : m ≤ x := (List.mem_cons.mp h).elim (fun e => by rw [e]; exact q2) (q3 m)
    omega
theorem minI_is : ∀ {l : List Int} {m : Int}, m ∈ l → (∀ j ∈ l, m ≤ j) → m = minI l
  | [], m, h, _ => absurd h (by simp)
  | i :: l, m, h, hm => by
    have q := fold_min l i
    show m = l.foldl (fun m j => if j < m then j else m) i
    generalize l.foldl (fun m j => if j < m then j else m) i = x at q ⊢
    obtain ⟨q1, q2, q3⟩ := q
    have h1 : m ≤ x := q1.elim (fun e => by rw [e]; exact hm i List.mem_cons_self) fun e => hm x (List.mem_cons_of_mem _ e)
    have h2 : x ≤ m := (List.mem_cons.mp h).elim (fun e => by rw [e]; exact q2) (q3 m)
    omega
/-! ### dicts of ints and texts -/
section
variable {K : Frag} {H : Hp}
theorem keyOf_eqv {k k' : PyData} {q q' : Key} (h : keyOf k = some q) (h' : keyOf k' = some q') : PyData.eqv k k' = decide (q = q') := by
  cases k with
  | int i =>
    cases h
    cases k' with
    | int j => cases h'; simp only [PyData.eqv]; by_cases e : i = j <;> simp [e]
    | str j => cases h'; simp [PyData.eqv]
    | _ => cases h'
  | str i =>
    cases h
    cases k' with
    | int j => cases h'; simp [PyData.eqv]
    | str j => cases h'; simp only [PyData.eqv]; by_cases e : i = j <;> simp [e]
    | _ => cases h'
  | _ => cases h
theorem scalarKey_of {k : PyData} (h : scalarKey k = true) : ∃ q, keyOf k = some q := by
  cases k with
  | int i => exact ⟨_, rfl⟩
  | str i => exact ⟨_, rfl⟩
  | _ => cases h
theorem RPd.any {k : PyData} {q : Key} (hk : keyOf k = some q) : ∀ {kvs : List (PyData × PyData)} {es : List (Key × V)}, RPd K H kvs es → (kvs.any fun p => PyData.eqv p.1 k) = (es.any fun p => decide (p.1 = q))
  | _, _, .nil => rfl
  | _, _, .cons hq _ r => by
    simp only [List.any_cons]
    rw [keyOf_eqv hq hk, RPd.any hk r]
theorem RPd.map {k x : PyData} {q : Key} {v : V} (hk : keyOf k = some q) (hx : RP K H x v) : ∀ {kvs : List (PyData × PyData)} {es : List (Key × V)}, RPd K H kvs es →
    RPd K H (kvs.map fun p => if PyData.eqv p.1 k = true then (p.1, x) else p) (es.map fun p => if p.1 = q then (p.1, v) else p)
  | _, _, .nil => .nil
  | _, _, .cons (k := k') (q := q') hq h r => by
    simp only [List.map_cons]
    by_cases e : q' = q
    · have e1 : PyData.eqv k' k = true := by rw [keyOf_eqv hq hk]; exact decide_eq_true e
      rw [if_pos e1, if_pos e]
      exact .cons hq hx (RPd.map hk hx r)
    · have e1 : ¬ PyData.eqv k' k = true := by rw [keyOf_eqv hq hk, decide_eq_true_eq]; exact e
      rw [if_neg e1, if_neg e]
      exact .cons hq h (RPd.map hk hx r)
theorem RPd.app : ∀ {xs ys : List (PyData × PyData)} {vs ws : List (Key × V)}, RPd K H xs vs → RPd K H ys ws → RPd K H (xs ++ ys) (vs ++ ws)
  | _, _, _, _, .nil, s => s
  | _, _, _, _, .cons e r t, s => .cons e r (RPd.app t s)
theorem RPd.store {k x : PyData} {q : Key} {v : V} (hk : keyOf k = some q) (hx : RP K H x v) {kvs : List (PyData × PyData)} {es : List (Key × V)} (r : RPd K H kvs es) : RPd K H (kStore kvs k x) (putK es q v) := by
  unfold kStore putK
  rw [r.any hk]
  split
  · exact r.map hk hx
  · exact r.app (.cons hk hx .nil)
theorem kStore_len (kvs : List (PyData × PyData)) (k v : PyData) : (kStore kvs k v).length ≤ kvs.length + 1 := by
  unfold kStore
  split
  · rw [List.length_map]; omega
  · rw [List.length_append]; exact Nat.le_refl _
theorem RPd.ints : ∀ {kvs : List (PyData × PyData)} {es : List (Key × V)} {ns : List Int}, RPd K H kvs es → ints? (kvs.map (·.1)) = some ns → es.map (·.1) = ns.map Sum.inl
  | _, _, _, .nil, e => by simp [ints?] at e; subst e; rfl
  | _, _, _, .cons (k := k) hq h r, e => by
    rw [List.map_cons] at e
    cases k with
    | int i =>
      cases hq
      simp only [ints?, Option.map_eq_some_iff] at e
      obtain ⟨ms, h1, rfl⟩ := e
      rw [List.map_cons, List.map_cons, RPd.ints r h1]
    | _ => simp [ints?] at e
end
section
variable {X : Cx}
theorem CallR.imp {f : Value} {r r' : List V → Hp → VK → Prop} (h : CallR X f r) (q : ∀ vs H Q, r' vs H Q → r vs H Q) : CallR X f r' :=
  fun pins s σ H vs us Q I rs z => h pins s σ H vs us Q I rs (q _ _ _ z)
theorem callR_rD1 {f : Value} {k : PyData → Option PyData} (h : ∀ dx dz, k dx = some dz → CallR X f (fun vs H Q => ∃ x, vs = [x] ∧ RT X.K H dx x ∧ Rs X.K H dz Q)) : CallR X f (rD1 X.K k) := by
  intro pins s σ H vs us Q I rs q
  obtain ⟨x, dx, dz, h0, h1, h2, h3⟩ := q
  exact h dx dz h2 pins s σ H vs us Q I rs ⟨x, h0, h1, h3⟩
theorem callR_rU1 {f : Value} {k : PyData → Option PyData} (h : ∀ dx dz, k dx = some dz → CallR X f (fun vs H Q => ∃ x, vs = [x] ∧ RT X.K H dx x ∧ RsU X.K H dz Q)) : CallR X f (rU1 X.K k) := by
  intro pins s σ H vs us Q I rs q
  obtain ⟨x, dx, dz, h0, h1, h2, h3⟩ := q
  exact h dx dz h2 pins s σ H vs us Q I rs ⟨x, h0, h1, h3⟩
theorem rU1_shut {f : Value} {k : PyData → Option PyData} (h : CallR X f (rU1 X.K k)) : CallR X f (rD1 X.K k) := by
  intro pins s σ H vs us Q I rs q
  obtain ⟨x, dx, dz, h0, h1, h2, h3⟩ := q
  exact thn (h pins s σ H vs us _ I rs ⟨x, dx, dz, h0, h1, h2, rsU_of h3⟩) fun _ _ e => ep_lock e
theorem rd_sql {K : Frag} {H : Hp} {a : Addr} {vs : List V} (h : Rd H a (.lst vs)) : SqL K H a vs := .inl h
theorem call_absD : CallR X (.builtin "abs") (rD1 X.K (u1 .abs)) := by
  refine callR_rD1 fun dx dz e => ?_
  cases dx with
  | int i => cases e; exact CallR.imp call_abs fun vs H Q ⟨x, h0, h1, h2⟩ => ⟨i, by rw [h0, h1.int], h2.int⟩
  | _ => cases e
theorem call_lenD1 : CallR X (.builtin "len") (rD1 X.K (u1 .len)) := by
  refine callR_rD1 fun dx dz e => ?_
  cases dx with
  | list xs =>
    cases e
    refine CallR.imp call_len_seq fun vs H Q ⟨x, h0, h1, h2⟩ => ?_
    obtain ⟨a, ws, rfl, h, r⟩ := h1
    exact ⟨a, ws, h0, .inl (rd_sql h), by rw [← r.len]; exact h2.int⟩
  | tuple xs =>
    cases e
    refine CallR.imp call_len_seq fun vs H Q ⟨x, h0, h1, h2⟩ => ?_
    obtain ⟨a, ws, rfl, h, r⟩ := h1.tup
    exact ⟨a, ws, h0, .inr h, by rw [← r.len]; exact h2.int⟩
  | dict xs =>
    cases e
    intro pins s σ H vs us Q I rs ⟨x, h0, h1, h2⟩
    obtain ⟨a, ws, rfl, h, r⟩ := h1
    subst h0
    obtain ⟨u, rfl, ru⟩ := vals1 rs
    cases ru
    exact d_len I h fun t s' I' => ⟨.int ws.length, H, I', ⟨t, rfl⟩, by rw [← r.len]; exact h2.int⟩
  | _ => cases e
theorem call_intD : CallR X (.type "int") (rD1 X.K (u1 .int)) := by
  refine callR_rD1 fun dx dz e => ?_
  cases dx with
  | int i => cases e; exact CallR.imp call_int1 fun vs H Q ⟨x, h0, h1, h2⟩ => .inl ⟨i, by rw [h0, h1.int], h2.int⟩
  | bool i => cases e; exact CallR.imp call_int1 fun vs H Q ⟨x, h0, h1, h2⟩ => .inr ⟨i, by rw [h0, h1.bl], h2.int⟩
  | _ => cases e
theorem call_tupleD : CallR X (.type "tuple") (rD1 X.K (u1 .tuple)) := by
  refine callR_rD1 fun dx dz e => ?_
  cases dx with
  | list xs =>
    cases e
    refine CallR.imp call_tuple_of fun vs H Q ⟨x, h0, h1, h2⟩ => ?_
    obtain ⟨a, ws, rfl, h, r⟩ := h1
    exact ⟨a, ws, h0, .inl ⟨rd_sql h, h2.tup r⟩⟩
  | tuple xs =>
    cases e
    refine CallR.imp call_tuple_of fun vs H Q ⟨x, h0, h1, h2⟩ => ?_
    obtain ⟨a, ws, rfl, h, r⟩ := h1.tup
    exact ⟨a, ws, h0, .inr ⟨h, h2 _ _ .refl (.tup h r)⟩⟩
  | _ => cases e
theorem call_listU : CallR X (.type "list") (rU1 X.K (u1 .list)) := by
  refine callR_rU1 fun dx dz e => ?_
  cases dx with
  | list xs =>
    cases e
    refine CallR.imp call_list_of fun vs H Q ⟨x, h0, h1, h2⟩ => ?_
    obtain ⟨a, ws, rfl, h, r⟩ := h1
    exact ⟨a, ws, h0, .inl (rd_sql h), fun l hl => h2 l _ (.lst xs) rfl hl ⟨ws, rfl, r⟩⟩
  | tuple xs =>
    cases e
    refine CallR.imp call_list_of fun vs H Q ⟨x, h0, h1, h2⟩ => ?_
    obtain ⟨a, ws, rfl, h, r⟩ := h1.tup
    exact ⟨a, ws, h0, .inr h, fun l hl => h2 l _ (.lst xs) rfl hl ⟨ws, rfl, r⟩⟩
  | _ => cases e
/-- sorted(d), d a dict of int keys, any number of them -/
theorem call_sortedDA (hcalm : X.calm = true) : CallR X (.builtin "sorted") (fun xs H Q => ∃ (a : Addr) (kvs : List (Key × V)) (ks : List Int), xs = [.ref a] ∧ Rd H a (.dK kvs) ∧ kvs.map (·.1) = ks.map Sum.inl ∧
    ∀ (ys : List Int) (p : Addr), ys.Perm ks → ys.Pairwise (· ≤ ·) → H p = none → Q (.ref p) (upd H p (.lst (ys.map V.int)))) := by
  intro pins s σ H xs us Q I r ⟨a, kvs, ks, ex, hd, hks, q⟩
  subst ex
  obtain ⟨u, eu, rx⟩ := vals1 r
  subst eu
  cases rx
  obtain ⟨z, lo, vs, rel, dd⟩ := dk_rd I.hok hd
  obtain ⟨ep, hat⟩ := dd.dictAt
  have hkeys : vs.map (·.1) = ks.map Sum.inl := rel.keys.symm.trans hks
  have hl : vs.length = ks.length := by simpa using congrArg List.length hkeys
  have h16 : vs.length ≤ sizeLine := by rw [← rel.length]; exact z
  refine Calls.call_function_entry PyProof.Rows.kind_sorted PyProof.Rows.plain_sorted PyProof.Rows.entry_sorted (PyProof.Rows.args_sorted1 _) ?_
  unfold Builtin.«sorted»
  refine wpAny_bind (m := checkCount "sorted" 1 1 _) (wpAny_pure ?_)
  refine wpAny_bind (PySem.W.kdu_collect (A := X.A.in1) (PySem.W.kdl_dict (knd := mixKind X.prog X.w) (kvs := vs) (ep := ep) lo) (I.ok.hd hcalm) hat h16 fun h' tk acc hk hacc => ?_)
  have hal : acc.toList.length = ks.length := by rw [Array.length_toList, hacc.1, hl]
  have hS : IntsAre acc.toList ks := ints_each hal fun j v e => by
    obtain ⟨k, x, e1, e2⟩ := hacc.2 j v (by rw [← Array.getElem?_toList]; exact e)
    have e3 : (vs.map (·.1))[j]? = some k := by rw [List.getElem?_map, e1]; rfl
    rw [hkeys, List.getElem?_map] at e3
    obtain ⟨y, e4, e5⟩ := Option.map_eq_some_iff.mp e3
    subst e5
    rcases keyIs_shape (show keyIs (Sum.inl y) v = true from e2) with ⟨i, t, ek, ev⟩ | ⟨z, t, ek, ev⟩
    · cases ek
      exact ⟨y, t, e4, ev⟩
    · cases ek
  have I1 : Inv X pins σ H { s with heap := h', toks := tk } := I.kept hk
  refine wpAny_bind (wpAny_newList ?_ (by rw [hal, ← hl]; exact h16))
  have hoL : (h'.push (seqObj "list" acc.toList.toArray 0)).get? h'.objs.size = some (seqObj "list" acc.toList.toArray 0) := Heap.get?_push_size _ rfl
  show wpAny _ _ _ _ _ { s with heap := h'.push (seqObj "list" acc.toList.toArray 0), toks := tk }
  refine wpAny_bind (wpAny_holding (wpAny_call_entry PyProof.Rows.slot_list_sort ⟨_, hoL, rfl⟩ PyProof.Rows.entry_list_sort
    (SrtO.list_sort_ord (s := { s with heap := h'.push (seqObj "list" acc.toList.toArray 0), toks := tk }) SrtO.swo_int hoL (by rw [hal, ← hl]; exact h16) (fun h2 => SrtO.ints_sortable hS h2) fun out h1 h2 => ⟨_, rfl, ?_⟩) (PyProof.Rows.args_list_sort _)))
  obtain ⟨k1, k2, k3⟩ := SrtO.ints_out hS h1 h2
  obtain ⟨e', he'⟩ := PyProof.Rows.sortedHeap_at (vs := acc.toList) (out := out.toArray) hoL
  have hlen : ((out.map SrtO.iv).map V.int).length ≤ sizeLine := by rw [List.length_map, k2.length_eq, ← hl]; exact h16
  refine wpAny_pure ⟨_, rfl, .ref h'.objs.size, upd H h'.objs.size (.lst ((out.map SrtO.iv).map V.int)), I1.laid (t' := tk) (fun b u e => ?_) (Nat.le_refl _)
    (show ObjOk X.prog X.w _ _ _ (.lst ((out.map SrtO.iv).map V.int)) from ⟨hlen, out, e', vals_of_ints k1, he'⟩), rfl, q _ _ k2 k3 (I1.hok.fresh (Nat.le_refl _))⟩
  have hb : b < h'.objs.size := Heap.lt_size e
  rw [PyProof.Rows.sortedHeap_old (Nat.ne_of_lt hb) (by rw [size_push']; exact Nat.lt_succ_of_lt hb)]
  exact Heap.get?_push_of_some _ e
theorem call_sortedU (hc : X.calm = true) : CallR X (.builtin "sorted") (rU1 X.K (u1 .sorted)) := by
  refine callR_rU1 fun dx dz e => ?_
  cases dx with
  | list xs =>
    obtain ⟨ns, e1, rfl⟩ := Option.map_eq_some_iff.mp (show (ints? xs).map (fun ns => PyData.list ((sortI ns).map .int)) = some dz from e)
    refine CallR.imp cr_sortedI fun vs H Q ⟨x, h0, h1, h2⟩ => ?_
    obtain ⟨a, ws, rfl, h, r⟩ := h1
    obtain ⟨rfl, _⟩ := r.ints e1
    refine ⟨a, ns, h0, rd_sql h, fun ys p hp hs hn => ?_⟩
    rw [sortI_is hp hs]
    exact h2 p _ (.lst _) rfl hn ⟨_, rfl, RPs.ofInts _⟩
  | dict xs =>
    obtain ⟨ns, e1, rfl⟩ := Option.map_eq_some_iff.mp (show (ints? (xs.map (·.1))).map (fun ns => PyData.list ((sortI ns).map .int)) = some dz from e)
    refine CallR.imp (call_sortedDA hc) fun vs H Q ⟨x, h0, h1, h2⟩ => ?_
    obtain ⟨a, ws, rfl, h, r⟩ := h1
    refine ⟨a, ws, ns, h0, h, r.ints e1, fun ys p hp hs hn => ?_⟩
    rw [sortI_is hp hs]
    exact h2 p _ (.lst _) rfl hn ⟨_, rfl, RPs.ofInts _⟩
  | _ => cases e
theorem dictOf_rel {K : Frag} {H : Hp} : ∀ {ps : List PyData} {ws : List V} {acc out : List (PyData × PyData)} {es : List (Key × V)}, RPs K H ps ws → dictOf? ps acc = some out → RPd K H acc es →
    ∃ (as : List Addr) (kvs : List (Key × V)), ws = as.map V.ref ∧ Paired (fun p kv => SqT K H p [kV kv.1, kv.2]) as kvs ∧ RPd K H out (mergeK es kvs)
  | _, _, acc, out, es, .nil, e, r => by
    cases e
    exact ⟨[], [], rfl, .nil, r⟩
  | _, _, acc, out, es, .cons (x := x) (v := v) (xs := xs) h t, e, r => by
    cases h with
    | @tup a us ys hq hr =>
      cases hr with
      | nil => cases e
      | @cons k kv ys' us' hk hr2 =>
        cases hr2 with
        | nil => cases e
        | @cons y yv ys'' us'' hy hr3 =>
          cases hr3 with
          | cons _ _ => cases e
          | nil =>
            have e' : (if scalarKey k = true then dictOf? xs (kStore acc k y) else none) = some out := e
            split at e'
            · rename_i hs
              obtain ⟨q, hq'⟩ := scalarKey_of hs
              obtain ⟨as, kvs, h1, h2, h3⟩ := dictOf_rel t e' (r.store hq' hy)
              refine ⟨a :: as, (q, yv) :: kvs, by rw [h1]; rfl, .cons ?_ h2, h3⟩
              have ek : kv = kV q := by
                cases hk with
                | int i => cases hq'; rfl
                | str i => cases hq'; rfl
                | _ => cases hq'
              rw [← ek]
              exact hq
            · cases e'
    | _ => cases e
theorem call_dictU (hc : X.calm = true) : CallR X (.type "dict") (rU1 X.K (u1 .dict)) := by
  refine callR_rU1 fun dx dz e => ?_
  cases dx with
  | list xs =>
    obtain ⟨out, e1, rfl⟩ := Option.map_eq_some_iff.mp (show (dictOf? xs []).map PyData.dict = some dz from e)
    refine CallR.imp (call_dictP hc) fun vs H Q ⟨x, h0, h1, h2⟩ => ?_
    obtain ⟨a, ws, rfl, h, r⟩ := h1
    obtain ⟨as, kvs, rfl, h4, h5⟩ := dictOf_rel r e1 .nil
    exact ⟨a, as, kvs, h0, rd_sql h, h4, fun p hp => h2 p _ (.dct out) rfl hp ⟨_, rfl, h5⟩⟩
  | _ => cases e
theorem call_sumD (hc : X.calm = true) : CallR X (.builtin "sum") (rD1 X.K (u1 .sum)) := by
  refine callR_rD1 fun dx dz e => ?_
  cases dx with
  | list xs =>
    obtain ⟨ns, e1, rfl⟩ := Option.map_eq_some_iff.mp (show (ints? xs).map (fun ns => PyData.int ns.sum) = some dz from e)
    refine CallR.imp (cr_sum hc) fun vs H Q ⟨x, h0, h1, h2⟩ => ?_
    obtain ⟨a, ws, rfl, h, r⟩ := h1
    obtain ⟨rfl, _⟩ := r.ints e1
    exact ⟨a, ns, h0, rd_sql h, h2.int⟩
  | _ => cases e
theorem call_maxD (hc : X.calm = true) : CallR X (.builtin "max") (rD1 X.K (u1 .max)) := by
  refine callR_rD1 fun dx dz e => ?_
  cases dx with
  | list xs =>
    obtain ⟨ns, e1, e2⟩ := Option.bind_eq_some_iff.mp (show (ints? xs).bind (fun ns => if ns.isEmpty then none else some (PyData.int (maxI ns))) = some dz from e)
    split at e2
    · cases e2
    · rename_i hne
      cases e2
      refine CallR.imp (cr_max hc) fun vs H Q ⟨x, h0, h1, h2⟩ => ?_
      obtain ⟨a, ws, rfl, h, r⟩ := h1
      obtain ⟨rfl, _⟩ := r.ints e1
      exact ⟨a, ns, h0, rd_sql h, by cases ns with | nil => simp at hne | cons _ _ => simp, fun m h3 h4 => by rw [maxI_is h3 h4]; exact h2.int⟩
  | _ => cases e
theorem call_minD (hc : X.calm = true) : CallR X (.builtin "min") (rD1 X.K (u1 .min)) := by
  refine callR_rD1 fun dx dz e => ?_
  cases dx with
  | list xs =>
    obtain ⟨ns, e1, e2⟩ := Option.bind_eq_some_iff.mp (show (ints? xs).bind (fun ns => if ns.isEmpty then none else some (PyData.int (minI ns))) = some dz from e)
    split at e2
    · cases e2
    · rename_i hne
      cases e2
      refine CallR.imp (cr_min hc) fun vs H Q ⟨x, h0, h1, h2⟩ => ?_
      obtain ⟨a, ws, rfl, h, r⟩ := h1
      obtain ⟨rfl, _⟩ := r.ints e1
      exact ⟨a, ns, h0, rd_sql h, by cases ns with | nil => simp at hne | cons _ _ => simp, fun m h3 h4 => by rw [minI_is h3 h4]; exact h2.int⟩
  | _ => cases e
theorem call_allD (hc : X.calm = true) : CallR X (.builtin "all") (rD1 X.K (u1 .all)) := by
  refine callR_rD1 fun dx dz e => ?_
  cases dx with
  | list xs =>
    obtain ⟨ns, e1, rfl⟩ := Option.map_eq_some_iff.mp (show (bools? xs).map (fun ns => PyData.bool (ns.all id)) = some dz from e)
    refine CallR.imp (cr_all hc) fun vs H Q ⟨x, h0, h1, h2⟩ => ?_
    obtain ⟨a, ws, rfl, h, r⟩ := h1
    have er := r.bools e1
    subst er
    exact ⟨a, ns, h0, rd_sql h, h2.bl⟩
  | _ => cases e
theorem call_anyD (hc : X.calm = true) : CallR X (.builtin "any") (rD1 X.K (u1 .any)) := by
  refine callR_rD1 fun dx dz e => ?_
  cases dx with
  | list xs =>
    obtain ⟨ns, e1, rfl⟩ := Option.map_eq_some_iff.mp (show (bools? xs).map (fun ns => PyData.bool (ns.any id)) = some dz from e)
    refine CallR.imp (cr_any hc) fun vs H Q ⟨x, h0, h1, h2⟩ => ?_
    obtain ⟨a, ws, rfl, h, r⟩ := h1
    have er := r.bools e1
    subst er
    exact ⟨a, ns, h0, rd_sql h, h2.bl⟩
  | _ => cases e
end
end In
/-! part InE -/
set_option Elab.async false
set_option linter.all false
set_option maxRecDepth 100000
set_option maxHeartbeats 1000000
/-! What the texts mean: contexts, and the rules of expressions. -/
namespace In
open PySem PySem.Spec PyProof.Rows L2
/-! ### room, and what a def promises -/
structure RoomG (k : Nat) (A : Around) : Prop where
  rm : Room k A
  gd : A.guards = some []
theorem RoomG.mono {j k : Nat} {A : Around} (r : RoomG k A) (h : j ≤ k) : RoomG j A := ⟨r.rm.mono h, r.gd⟩
theorem RoomG.deeper {k : Nat} {A : Around} (r : RoomG (k + 1) A) (env : PySem.Env) : RoomG k (A.deeper env) := ⟨r.rm.deeper env, r.gd⟩
theorem RoomG.units {k : Nat} {A : Around} (r : RoomG k A) : A.units + 199 < cLine := by have := r.rm.un; omega
structure FnG (P : Program) (w : World) (K : Frag) (mg : Str → Option Value) (base : Heap) (k : Nat) (f : Addr) (fd : FuncData) (ps : List Str) (sp : Sp) : Prop where
  len : ∀ vs H Q E, sp vs H Q E → vs.length = ps.length
  run : ∀ (A : Around) (outer : List PySem.Env) (s : Shared) (H : Hp) (args : Args) (us : List Value) (vs : List V) (Q : VK) (E : XK), RoomG k A → Env0 P w K mg base A outer s H → BindsTo s fd args (ps.zip us) → Vals vs us → sp vs H Q E →
    codeAny (model P w) A (.call (.ref f) args) (CR (L2.CX P w) outer P w H s Q E) s
/-! ### the texts' names -/
structure Dfn where
  ix : Nat
  ar : Nat
  dfl : List PyData
structure Glo where
  free : List Str
  vals : List (Str × PyData)
  defs : List (Str × Dfn)
  excs : List Str
/-- a block's names: the slots, the scope, which cells may be stored to -/
structure Cc where
  N : List Str
  sc : Scope
  st : Str → Bool
inductive RVs (K : Frag) (m : Mp) (S : Sto) (H : Hp) : List Vl → List V → Prop
  | nil : RVs K m S H [] []
  | cons {v : Vl} {x : V} {vs : List Vl} {xs : List V} : RV K m S H v x → RVs K m S H vs xs → RVs K m S H (v :: vs) (x :: xs)
theorem RVs.len {K : Frag} {m : Mp} {S : Sto} {H : Hp} : ∀ {vs : List Vl} {xs : List V}, RVs K m S H vs xs → vs.length = xs.length
  | _, _, .nil => rfl
  | _, _, .cons _ r => congrArg (· + 1) (RVs.len r)
theorem RVs.post {K : Frag} {m m' : Mp} {S S' : Sto} {H H' : Hp} (p : Post m S H m' S' H') : ∀ {vs : List Vl} {xs : List V}, RVs K m S H vs xs → RVs K m' S' H' vs xs
  | _, _, .nil => .nil
  | _, _, .cons h r => .cons (h.post p) (RVs.post p r)
theorem RVs.app {K : Frag} {m : Mp} {S : Sto} {H : Hp} : ∀ {vs ws : List Vl} {xs ys : List V}, RVs K m S H vs xs → RVs K m S H ws ys → RVs K m S H (vs ++ ws) (xs ++ ys)
  | _, _, _, _, .nil, q => q
  | _, _, _, _, .cons h r, q => .cons h (RVs.app r q)
theorem RVs.data {K : Frag} {m : Mp} {S : Sto} {H : Hp} : ∀ {vs : List PyData} {xs : List V}, RPs K H vs xs → RVs K m S H (vs.map .d) xs
  | _, _, .nil => .nil
  | _, _, .cons h r => .cons h (RVs.data r)
/-- the promise of def i -/
def spOf (K : Frag) (mg : Str → Option Value) (ex : List Str) (F : Fns) (i ar : Nat) : Sp := fun vs H Q E =>
  vs.length = ar ∧ ∃ (ls : List Vl) (m : Mp) (S : Sto), RVs K m S H ls vs ∧ Sok K m S H ∧
    Den ⟨K, mg, fun cls d _ H' => E cls d H', F, ex⟩ 0 (F i ls S) m S H fun x m' S' H' => ∀ z, RP K H' x z → Q z H'
/-- the program's own classes of errors -/
def mkX (mg : Str → Option Value) (cn : Str) (te : TE) : L2.St → Hp → XK → Prop := fun σ H Q => te σ H fun v H1 => ∀ C dd H2, mg cn = some (.ref C) → (∀ b u, H1 b = some u → H2 b = some u) → H2 dd = some (.xd [(("reason" : Str), v)]) → Q (.ref C) (some dd) H2
structure ExW (P : Program) (w : World) (K : Frag) (mg : Str → Option Value) (base : Heap) (ex : List Str) : Prop where
  cls : ∀ c ∈ ex, ∃ C, mg c = some (.ref C) ∧ XfC K C ∧ PySem.W.findIn K (.ref C) "reason" = some none
  one : ∀ c ∈ ex, ∀ c' ∈ ex, ∀ C C', mg c = some (.ref C) → mg c' = some (.ref C') → PySem.W.exmOne K (.ref C) (.ref C') = some (decide (c = c'))
  make : ∀ c ∈ ex, ∀ (X : Cx), X.prog = P → X.w = w → X.K = K → X.mg = mg → X.base = base → X.calm = true → RoomG 0 X.A → Gl X c → (c == ("__debug__" : Str)) = false → ∀ (e : Expr) (te : TE) (p pos : Pos), PE X e te →
    (∀ es env, starEach (e :: es) env = (false, eval e env) :: starEach es env) → PMk X (.Call (.Name c p) [e] [] pos) (mkX mg c te)
/-- what the program's names stand for -/
structure Wd (G : Glo) (P : Program) (w : World) (K : Frag) (mg : Str → Option Value) (base : Heap) (k : Nat) (F : Fns) : Prop where
  free : ∀ x ∈ G.free, mg x = none
  vals : ∀ x d, G.vals.lookup x = some d → ∃ v u, mg x = some u ∧ RelV v u ∧ ∀ H, RP K H d v
  excs : ExW P w K mg base G.excs
  defs : ∀ x D, G.defs.lookup x = some D → ∃ f fd ps, mg x = some (.ref f) ∧ PySem.W.keepIn K (.ref f) = true ∧
    (∀ n, n ≤ D.dfl.length → ∃ ds dvs, Binds K fd ps ds ∧ Vals dvs ds ∧ ∀ H, RPs K H (D.dfl.drop n) dvs) ∧ ∀ j, j + 1 = k → FnG P w K mg base j f fd ps (spOf K mg G.excs F D.ix D.ar)
/-- a context of a block -/
structure Ctx (G : Glo) (c : Cc) (X : Cx) (g : Gx) (k : Nat) : Prop where
  N : X.N = c.N
  nd : c.N.Nodup
  sc : X.env.scope = c.sc
  K : g.K = X.K
  mg : g.mg = X.mg
  ex : g.ex = G.excs
  calm : X.calm = true
  rm : RoomG k X.A
  wd : Wd G X.prog X.w X.K X.mg X.base (k + 1) g.F
  st : ∀ x, c.st x = true → X.fn x = true
  tk : ∀ σ, PassesAt (L2.CX X.prog X.w) X σ (WE g.W σ)
/-- a state of the small language, as it lies -/
structure At (g : Gx) (n : Nat) (σ : L2.St) (H : Hp) (ρ : Env) (m : Mp) (S : Sto) : Prop where
  len : σ.length = n
  env : Renv g.K m S H ρ σ
  sok : Sok g.K m S H
theorem At.to {g : Gx} {n : Nat} {σ : L2.St} {H H' : Hp} {ρ : Env} {m m' : Mp} {S S' : Sto} (h : At g n σ H ρ m S) (p : Post m S H m' S' H') (s : Sok g.K m' S' H') : At g n σ H' ρ m' S' := ⟨h.len, h.env.post p, s⟩
abbrev QV (g : Gx) (Q : VK) : Vl → Mp → Sto → Hp → Prop := fun v m' S' H' => ∀ x, RV g.K m' S' H' v x → Q x H'
abbrev QP (g : Gx) (Q : VK) : PyData → Mp → Sto → Hp → Prop := fun v m' S' H' => ∀ x, RP g.K H' v x → Q x H'
def dE (g : Gx) (n : Nat) (a : E) : TE := fun σ H Q => ∃ ρ m S, At g n σ H ρ m S ∧ Den g n (ev g.F a ρ S) m S H (QV g Q)
/-- closed -/
def dP (g : Gx) (n : Nat) (a : E) : TE := fun σ H Q => ∃ ρ m S, At g n σ H ρ m S ∧ Den g n ((ev g.F a ρ S).bind fun v S1 => shut S1 v) m S H (QP g Q)
def dT (g : Gx) (n : Nat) (a : E) : TT := fun σ H Q => ∃ ρ m S, At g n σ H ρ m S ∧ Den g n ((ev g.F a ρ S).bind fun v S1 => test S1 v) m S H fun b _ _ H' => Q b H'
def SE (G : Glo) (c : Cc) (e : Expr) (a : E) : Prop := ∀ k X g, Ctx G c X g k → PE X e (dE g c.N.length a)
def ST (G : Glo) (c : Cc) (e : Expr) (a : E) : Prop := ∀ k X g, Ctx G c X g k → PT X e (dT g c.N.length a)
theorem _root_.L2.PE.imp {X : Cx} {e : Expr} {t t' : TE} (h : PE X e t) (q : ∀ σ H Q, t' σ H Q → t σ H Q) : PE X e t' := ⟨fun pins s σ H Q I z => h.run pins s σ H Q I (q σ H Q z)⟩
theorem _root_.L2.PT.imp {X : Cx} {e : Expr} {t t' : TT} (h : PT X e t) (q : ∀ σ H Q, t' σ H Q → t σ H Q) : PT X e t' := ⟨fun pins s σ H Q I z => h.run pins s σ H Q I (q σ H Q z)⟩
theorem _root_.L2.PA.imp {X : Cx} {e : List Expr} {t t' : TA} (h : PA X e t) (q : ∀ σ H Q, t' σ H Q → t σ H Q) : PA X e t' := ⟨fun pos pins s σ H Q I z => h.run pos pins s σ H Q I (q σ H Q z)⟩
section
variable {g : Gx} {n : Nat} {σ : L2.St} {H : Hp} {ρ : Env} {m : Mp} {S : Sto}
theorem Den.data {K : Frag} {d : PyData} {Q : VK} {S : Sto} {m : Mp} {H : Hp} (hK : g.K = K) (s : Sok g.K m S H) (h : Den g n (.ok (.d d) S) m S H (QV g Q)) : Rs K H d Q := by
  subst hK
  exact fun z H' e r => h m H' e.post (e.sok s) z r
theorem dE_of {a : E} {Q : VK} (h : At g n σ H ρ m S) {Q' : Vl → Mp → Sto → Hp → Prop} (d : Den g n (ev g.F a ρ S) m S H Q') (hq : ∀ v m' S' H', Post m S H m' S' H' → Sok g.K m' S' H' → Q' v m' S' H' → ∀ x, RV g.K m' S' H' v x → Q x H') : dE g n a σ H Q :=
  ⟨ρ, m, S, h, d.mono hq⟩
/-- two values -/
theorem two {a b : E} {r : V → V → Hp → Prop} {k : Vl → Vl → Sto → R Vl} {Qv : Vl → Mp → Sto → Hp → Prop} (h : At g n σ H ρ m S)
    (d : Den g n ((ev g.F a ρ S).bind fun v S1 => (ev g.F b ρ S1).bind fun w S2 => k v w S2) m S H Qv)
    (hk : ∀ v w x y m2 S2 H2, At g n σ H2 ρ m2 S2 → RV g.K m2 S2 H2 v x → RV g.K m2 S2 H2 w y → Den g n (k v w S2) m2 S2 H2 Qv → r x y H2) :
    dE g n a σ H fun x H1 => dE g n b σ H1 fun y H2 => r x y H2 := by
  refine dE_of h d.bind fun v m1 S1 H1 p1 s1 d1 x rx => ?_
  refine dE_of (h.to p1 s1) d1.bind fun w m2 S2 H2 p2 s2 d2 y ry => ?_
  exact hk v w x y m2 S2 H2 ((h.to p1 s1).to p2 s2) (rx.post p2) ry d2
theorem one {a : E} {r : V → Hp → Prop} {k : Vl → Sto → R Vl} {Qv : Vl → Mp → Sto → Hp → Prop} (h : At g n σ H ρ m S)
    (d : Den g n ((ev g.F a ρ S).bind fun v S1 => k v S1) m S H Qv)
    (hk : ∀ v x m2 S2 H2, At g n σ H2 ρ m2 S2 → RV g.K m2 S2 H2 v x → Den g n (k v S2) m2 S2 H2 Qv → r x H2) :
    dE g n a σ H fun x H1 => r x H1 :=
  dE_of h d.bind fun v m1 S1 H1 p1 s1 d1 x rx => hk v x m1 S1 H1 (h.to p1 s1) rx d1
end
theorem opt2 {o p : Option PyData} {f : PyData → PyData → Option Vl} {v : Vl} (h : (o.bind fun x => p.bind fun y => f x y) = some v) : ∃ x y, o = some x ∧ p = some y ∧ f x y = some v := by
  obtain ⟨x, h1, h⟩ := Option.bind_eq_some_iff.mp h
  obtain ⟨y, h2, h⟩ := Option.bind_eq_some_iff.mp h
  exact ⟨x, y, h1, h2, h⟩
theorem opt1 {o : Option PyData} {f : PyData → Option Vl} {v : Vl} (h : (o.bind fun x => f x) = some v) : ∃ x, o = some x ∧ f x = some v := by
  obtain ⟨x, h1, h⟩ := Option.bind_eq_some_iff.mp h
  exact ⟨x, h1, h⟩
section
variable {G : Glo} {c : Cc} {X : Cx} {g : Gx} {k : Nat}
/-- a value by an operator's reading -/
theorem rd_of {n : Nat} {σ : L2.St} {H : Hp} {ρ : Env} {m : Mp} {S : Sto} {f : PyData → PyData → Option PyData} {v w : Vl} {x y : V} {Q : VK} (C : Ctx G c X g k) (h : At g n σ H ρ m S) (rx : RV g.K m S H v x) (ry : RV g.K m S H w y)
    (d : Den g n (R.opt ((view S v).bind fun x => (view S w).bind fun y => (f x y).map .d) S) m S H (QV g Q)) : rD X.K f x y H Q := by
  cases e : ((view S v).bind fun x => (view S w).bind fun y => (f x y).map Vl.d) with
  | none => rw [e] at d; exact d.elim
  | some u =>
    rw [e] at d
    obtain ⟨dx, dy, e1, e2, e3⟩ := opt2 e
    obtain ⟨dz, e4, rfl⟩ := Option.map_eq_some_iff.mp e3
    rw [C.K] at rx ry
    exact ⟨dx, dy, dz, rx.rt (by rw [← C.K]; exact h.sok) e1, ry.rt (by rw [← C.K]; exact h.sok) e2, e4, d.data C.K h.sok⟩
theorem s_bin {ea eb : Expr} {a b : E} {pos : Pos} (op : B2) (ha : SE G c ea a) (hb : SE G c eb b) : SE G c (.BinOp ea (opOf op) eb pos) (.bin op a b) := fun k X g C =>
  (pe_op (op_bin op) (ha k X g C) (hb k X g C)).imp fun σ H Q ⟨ρ, m, S, h, d⟩ => two h d fun v w x y m2 S2 H2 h2 rx ry d2 => rd_of C h2 rx ry d2
/-- a plain test -/
def plainT : Expr → Bool
  | .UnaryOp .Not _ _ => false
  | .BoolOp _ _ _ => false
  | .IfExp _ _ _ _ => false
  | .Compare _ _ _ _ => false
  | _ => true
theorem plainT_is {e : Expr} (h : plainT e = true) (env : PySem.Env) : ∀ whole, isTrue e env whole = (do let v ← whole; standAt e.pos; holding [v] (PySem.truthy v)) := by
  intro whole
  cases e with
  | UnaryOp op x p => cases op <;> first | rfl | cases h
  | BoolOp _ _ _ => cases h
  | IfExp _ _ _ _ => cases h
  | Compare _ _ _ _ => cases h
  | _ => rfl
theorem tru_of {K : Frag} {H : Hp} {d : PyData} {x : V} {b : Bool} (h : RT K H d x) (e : In.truthy d = some b) : TruV K x H b := by
  cases d with
  | none => cases e; rw [h.non]; rfl
  | bool i => cases e; rw [h.bl]; rfl
  | int i => cases e; rw [h.int]; rfl
  | str i => cases e
  | list xs =>
    cases e
    obtain ⟨a, vs, rfl, h, r⟩ := h
    refine .inl ⟨vs, rd_sql h, ?_⟩
    cases r <;> rfl
  | tuple xs =>
    cases e
    obtain ⟨a, vs, rfl, h, r⟩ := h.tup
    refine .inr (.inl ⟨vs, h, ?_⟩)
    cases r <;> rfl
  | dict _ => cases e
/-- a value's truth -/
theorem test_of {n : Nat} {σ : L2.St} {H : Hp} {ρ : Env} {m : Mp} {S : Sto} {v : Vl} {x : V} {Q : Bool → Mp → Sto → Hp → Prop} (C : Ctx G c X g k) (h : At g n σ H ρ m S) (rx : RV g.K m S H v x) (d : Den g n (test S v) m S H Q) : ∃ b, TruV X.K x H b ∧ Q b m S H := by
  obtain ⟨b, e, q⟩ := Den.opt (show Den g n (R.opt ((view S v).bind In.truthy) S) m S H Q from d) h.sok
  obtain ⟨y, e1, e2⟩ := Option.bind_eq_some_iff.mp e
  rw [C.K] at rx
  exact ⟨b, tru_of (rx.rt (by rw [← C.K]; exact h.sok) e1) e2, q⟩
theorem st_of {e : Expr} {a : E} (h : SE G c e a) (p : plainT e = true) : ST G c e a := fun k X g C =>
  (pt_truth (h k X g C) (plainT_is p X.env)).imp fun σ H Q ⟨ρ, m, S, h, d⟩ => dE_of h d.bind fun v m1 S1 H1 p1 s1 d1 x rx => test_of C (h.to p1 s1) rx d1
end
end In
/-! part InF -/
set_option Elab.async false
set_option linter.all false
set_option maxRecDepth 100000
set_option maxHeartbeats 1000000
/-! The rules of expressions, one after the other. -/
namespace In
open PySem PySem.Spec PyProof.Rows L2
section
variable {G : Glo} {c : Cc} {X : Cx} {g : Gx} {k : Nat}
/-! ### names, constants -/
def vis (sc : Scope) (x : Str) : Bool := match sc.names.lookup x with
  | some .local => true
  | some .cell => true
  | some .free => true
  | _ => false
theorem vis_is {sc : Scope} {x : Str} (h : vis sc x = true) : Vis sc x := by
  unfold vis at h
  split at h
  · exact .inl (by assumption)
  · exact .inr (.inl (by assumption))
  · exact .inr (.inr (by assumption))
  · cases h
def glb (sc : Scope) (x : Str) : Bool := match sc.names.lookup x with
  | some .globalImplicit => (x == ("__debug__" : Str)) == false
  | _ => false
theorem glb_is {sc : Scope} {x : Str} (h : glb sc x = true) : sc.names.lookup x = some .globalImplicit ∧ (x == ("__debug__" : Str)) = false := by
  unfold glb at h
  split at h
  · exact ⟨by assumption, by simpa using h⟩
  · cases h
theorem Ctx.gl (C : Ctx G c X g k) {x : Str} (h : glb c.sc x = true) : Gl X x := by
  show X.env.scope.names.lookup x = some .globalImplicit
  rw [C.sc]
  exact (glb_is h).1
theorem s_var {i : Nat} {x : Str} {pos : Pos} (h1 : c.N[i]? = some x) (h2 : vis c.sc x = true) (h3 : (x == ("__debug__" : Str)) = false) (h4 : (x == ("__classdict__" : Str)) = false) : SE G c (.Name x pos) (.var i) := fun k X g C =>
  (pe_var (by rw [C.N]; exact h1) (by rw [C.sc]; exact vis_is h2) h3 h4).imp fun σ H Q ⟨ρ, m, S, h, d⟩ => by
    cases e : ρ[i]? with
    | none => simp only [ev, e] at d; exact d.elim
    | some o =>
      cases o with
      | none => simp only [ev, e] at d; exact d.elim
      | some v =>
        simp only [ev, e] at d
        obtain ⟨x, e1, r⟩ := h.env.at_ i v e
        exact ⟨x, e1, d m H .refl h.sok x r⟩
theorem s_con {e : Expr} {d : PyData} {v : V} (h : ∀ X, PE X e (tC v)) (r : ∀ K H, RP K H d v) : SE G c e (.cst d) := fun k X g C =>
  (h X).imp fun σ H Q ⟨ρ, m, S, h, d⟩ => d m H .refl h.sok v (r _ _)
theorem s_int {i : Int} {j : Nat} {pos : Pos} : SE G c (.Constant (.int i) j pos) (.cst (.int i)) := s_con (fun _ => pe_int) fun _ _ => .int i
theorem s_str {i : Str} {j : Nat} {pos : Pos} : SE G c (.Constant (.str i) j pos) (.cst (.str i)) := s_con (fun _ => pe_str) fun _ _ => .str i
theorem s_bl {i : Bool} {j : Nat} {pos : Pos} : SE G c (.Constant (.bool i) j pos) (.cst (.bool i)) := s_con (fun _ => pe_bl) fun _ _ => .bl i
theorem s_non {j : Nat} {pos : Pos} : SE G c (.Constant .none j pos) (.cst .none) := s_con (fun _ => pe_non) fun _ _ => .non
theorem s_val {x : Str} {d : PyData} {pos : Pos} (h : G.vals.lookup x = some d) (hg : glb c.sc x = true) : SE G c (.Name x pos) (.cst d) := fun k X g C => by
  obtain ⟨v, u, h1, h2, h3⟩ := C.wd.vals x d h
  exact (pe_glob (C.gl hg) h1 h2 (glb_is hg).2).imp fun σ H Q ⟨ρ, m, S, h, d⟩ => d m H .refl h.sok v (by rw [C.K]; exact h3 H)
/-! ### closed values -/
theorem shut_ok {n : Nat} {pins : List (Addr × Obj)} {σ : L2.St} {s : Shared} {H : Hp} {ρ : Env} {m : Mp} {S : Sto} {v : Vl} {x : V} {Q : PyData → Mp → Sto → Hp → Prop} (C : Ctx G c X g k) (I : Inv X pins σ H s) (h : At g n σ H ρ m S) (rx : RV g.K m S H v x)
    (d : Den g n (shut S v) m S H Q) : ∃ H' y S', Inv X pins σ H' s ∧ Post m S H m S' H' ∧ Sok g.K m S' H' ∧ RP g.K H' y x ∧ Q y m S' H' := by
  cases v with
  | d y => exact ⟨H, y, S, I, .refl, h.sok, rx, d m H .refl h.sok⟩
  | loc i =>
    obtain ⟨rfl, hl⟩ := rx
    have hc : S[i]? = some S[i] := List.getElem?_eq_getElem hl
    have d' : Den g n (.ok S[i].obj.data (S.set i ⟨false, S[i].obj⟩)) m S H Q := by
      have e : shut S (.loc i) = .ok S[i].obj.data (S.set i ⟨false, S[i].obj⟩) := by simp only [shut, hc]
      rw [← e]; exact d
    obtain ⟨u, h1, h2⟩ := h.sok.at_ i _ hc
    by_cases q : S[i].live = true
    · rw [if_pos q] at h2
      have mu : Mut (some u) := by
        cases ho : S[i].obj with
        | lst xs => rw [ho] at h1; obtain ⟨vs, rfl, _⟩ := h1; trivial
        | dct xs => rw [ho] at h1; obtain ⟨vs, rfl, _⟩ := h1; trivial
      obtain ⟨od, I2⟩ := I.lock h2 mu
      obtain ⟨s2, p2⟩ := h.sok.close (o := od) hc q h2 h1
      refine ⟨_, _, _, I2, p2, s2, ?_, d' _ _ p2 s2⟩
      cases ho : S[i].obj with
      | lst xs => rw [ho] at h1; obtain ⟨vs, rfl, r⟩ := h1; exact .lst ⟨od, upd_same⟩ (RPs.keep p2.k _ _ r)
      | dct xs => rw [ho] at h1; obtain ⟨vs, rfl, r⟩ := h1; exact .dct upd_same (RPd.keep p2.k _ _ r)
    · rw [if_neg q] at h2
      obtain ⟨o, h2⟩ := h2
      have es : S.set i ⟨false, S[i].obj⟩ = S := by
        have e1 : (⟨false, S[i].obj⟩ : Cell) = S[i] := by
          generalize S[i] = z at q
          obtain ⟨l, ob⟩ := z
          cases l with
          | false => rfl
          | true => exact absurd rfl q
        rw [e1]
        exact List.set_getElem_self hl
      rw [es] at d'
      refine ⟨H, _, S, I, .refl, h.sok, ?_, d' _ _ .refl h.sok⟩
      cases ho : S[i].obj with
      | lst xs => rw [ho] at h1; obtain ⟨vs, rfl, r⟩ := h1; exact .lst ⟨o, h2⟩ r
      | dct xs => rw [ho] at h1; obtain ⟨vs, rfl, r⟩ := h1; exact .dct h2 r
theorem p_of {n : Nat} {e : Expr} {a : E} (C : Ctx G c X g k) (h : PE X e (dE g n a)) : PE X e (dP g n a) := ⟨fun pins s σ H Q I ⟨ρ, m, S, h0, d⟩ => by
  refine thn (h.run pins s σ H (fun x H1 => ∃ v m1 S1, At g n σ H1 ρ m1 S1 ∧ RV g.K m1 S1 H1 v x ∧ Den g n (shut S1 v) m1 S1 H1 (QP g Q)) I (dE_of h0 d.bind fun v m1 S1 H1 p1 s1 d1 x rx => ⟨v, m1, S1, h0.to p1 s1, rx, d1⟩)) fun u s1 ⟨x, H1, I1, r1, v, m1, S1, h1, rv, d1⟩ => ?_
  obtain ⟨H2, y, S2, I2, p2, s2, rp, q⟩ := shut_ok C I1 h1 rv d1
  exact ⟨x, H2, I2, r1, q x rp⟩⟩
/-! ### lists of expressions -/
def plainE : Expr → Bool
  | .Starred _ _ => false
  | _ => true
theorem plainE_is {e : Expr} (h : plainE e = true) (es : List Expr) (env : PySem.Env) : starEach (e :: es) env = (false, eval e env) :: starEach es env := by
  cases e with
  | Starred _ _ => cases h
  | _ => rfl
def nost : List Expr → Bool
  | [] => true
  | e :: es => plainE e && nost es
theorem nost_is (pos : Pos) (env : PySem.Env) : ∀ {es : List Expr}, nost es = true → (backTo pos (starEach es env)).any (·.1) = false
  | [], _ => rfl
  | e :: es, h => by
    simp only [nost, Bool.and_eq_true] at h
    rw [plainE_is h.1]
    show (false || (backTo pos (starEach es env)).any (·.1)) = false
    rw [nost_is pos env h.2]
    rfl
def dEs (g : Gx) (n l : Nat) (as : Es) : TA := fun σ H Q => ∃ ρ m S, At g n σ H ρ m S ∧ Den g n (evs g.F as ρ S) m S H fun ls m' S' H' => ∀ xs, xs.length = l → RVs g.K m' S' H' ls xs → Q xs H'
def dPs (g : Gx) (n l : Nat) (as : Es) : TA := fun σ H Q => ∃ ρ m S, At g n σ H ρ m S ∧ Den g n (evps g.F as ρ S) m S H fun ls m' S' H' => ∀ xs, xs.length = l → RPs g.K H' ls xs → Q xs H'
def SA (G : Glo) (c : Cc) (es : List Expr) (as : Es) : Prop := nost es = true ∧ ∀ k X g, Ctx G c X g k → PA X es (dEs g c.N.length es.length as) ∧ PA X es (dPs g c.N.length es.length as)
theorem sa_nil : SA G c [] .nil := ⟨rfl, fun k X g C => ⟨pa_nil.imp fun σ H Q ⟨ρ, m, S, h, d⟩ => d m H .refl h.sok [] rfl .nil, pa_nil.imp fun σ H Q ⟨ρ, m, S, h, d⟩ => d m H .refl h.sok [] rfl .nil⟩⟩
theorem sa_cons {e : Expr} {es : List Expr} {a : E} {as : Es} (he : SE G c e a) (p : plainE e = true) (hs : SA G c es as) : SA G c (e :: es) (.cons a as) := by
  refine ⟨by simp only [nost, p, hs.1]; rfl, fun k X g C => ⟨(pa_cons (he k X g C) (hs.2 k X g C).1 (plainE_is p _ _)).imp fun σ H Q ⟨ρ, m, S, h, d⟩ => ?_, (pa_cons (p_of C (he k X g C)) (hs.2 k X g C).2 (plainE_is p _ _)).imp fun σ H Q ⟨ρ, m, S, h, d⟩ => ?_⟩⟩
  · refine dE_of h (Den.bind (show Den g _ ((ev g.F a ρ S).bind fun v S1 => (evs g.F as ρ S1).bind fun vs S2 => .ok (v :: vs) S2) m S H _ from d)) fun v m1 S1 H1 p1 s1 d1 x rx => ?_
    refine ⟨ρ, m1, S1, h.to p1 s1, d1.bind.mono fun vs m2 S2 H2 p2 s2 d2 xs hl rs => ?_⟩
    exact d2 m2 H2 .refl s2 (x :: xs) (by simp [hl]) (.cons (rx.post p2) rs)
  · refine ⟨ρ, m, S, h, Den.mono (Den.bind (show Den g _ (((ev g.F a ρ S).bind fun v S1 => shut S1 v).bind fun x S1 => (evps g.F as ρ S1).bind fun xs S2 => .ok (x :: xs) S2) m S H _ from d)) fun y m1 S1 H1 p1 s1 d1 x rx => ?_⟩
    refine ⟨ρ, m1, S1, h.to p1 s1, d1.bind.mono fun vs m2 S2 H2 p2 s2 d2 xs hl rs => ?_⟩
    exact d2 m2 H2 .refl s2 (x :: xs) (by simp [hl]) (.cons (RP.keep p2.k _ _ rx) rs)
theorem len_line {n : Nat} (h : decide (n ≤ 1000) = true) : n ≤ sizeLine := by
  have := of_decide_eq_true h
  rw [sizeLine_eq]; omega
theorem s_tup {es : List Expr} {as : Es} {j : Nat} {pos : Pos} (h : SA G c es as) (hl : decide (es.length ≤ 1000) = true) : SE G c (.Tuple es j pos) (.tup as) := fun k X g C =>
  (pe_tup (h.2 k X g C).2).imp fun σ H Q ⟨ρ, m, S, h, d⟩ => by
    refine ⟨ρ, m, S, h, Den.mono (Den.bind (show Den g _ ((evps g.F as ρ S).bind fun xs S1 => .ok (Vl.d (.tuple xs)) S1) m S H _ from d)) fun ds m1 S1 H1 p1 s1 d1 xs el rs => ⟨by rw [el]; exact len_line hl, ?_⟩⟩
    exact Rs.tup (Den.data rfl s1 d1) rs
theorem s_lst {es : List Expr} {as : Es} {pos : Pos} (h : SA G c es as) (hl : decide (es.length ≤ 1000) = true) : SE G c (.List es pos) (.lst as) := fun k X g C => by
  have h1 := pe_lst (pos := pos) (h.2 k X g C).2
  refine ⟨fun pins s σ H Q I ⟨ρ, m, S, h, d⟩ => ?_⟩
  refine thn (h1.run pins s σ H (fun z H1 => ∃ a u, z = .ref a ∧ H1 a = some u ∧ Mut (some u) ∧ ∀ o, Q z (upd H1 a (.frz o u))) I ?_) fun _ _ e => ep_lock e
  refine ⟨ρ, m, S, h, Den.mono (Den.bind (show Den g _ ((evps g.F as ρ S).bind fun xs S1 => .ok (Vl.d (.list xs)) S1) m S H _ from d)) fun ds m1 S1 H1 p1 s1 d1 xs el rs => ⟨by rw [el]; exact len_line hl, fun p hp => ?_⟩⟩
  exact rsU_of (Den.data rfl s1 d1) p _ (.lst ds) rfl hp ⟨xs, rfl, rs⟩
/-! ### comparisons -/
def noSet : Expr → Bool
  | .Set _ _ _ => false
  | _ => true
theorem noSet_is {e : Expr} (h : noSet e = true) (op : CmpOp) : behindInMarks op e = false := by
  cases e with
  | Set _ _ _ => cases h
  | _ => rfl
theorem RoomG.u65 {A : Around} (r : RoomG k A) : A.units + 65 < cLine := by have := r.units; omega
theorem cmp_as (op : C2) {n : Nat} {σ : L2.St} {H : Hp} {ρ : Env} {m : Mp} {S : Sto} {v w : Vl} {x y : V} {Q : VK} (C : Ctx G c X g k) (h : At g n σ H ρ m S) (rx : RV g.K m S H v x) (ry : RV g.K m S H w y)
    (d : Den g n (R.opt ((view S v).bind fun x => (view S w).bind fun y => (cmpop op x y).map fun c => .d (.bool c)) S) m S H (QV g Q)) : rD X.K (cmpd op) x y H Q := by
  refine rd_of C h rx ry ?_
  have e : ∀ x y, (cmpd op x y).map Vl.d = (cmpop op x y).map fun c => .d (.bool c) := fun x y => by unfold cmpd; rw [Option.map_map]; rfl
  simp only [e]
  exact d
theorem s_cmp {ea eb : Expr} {a b : E} {pos : Pos} (op : C2) (ha : SE G c ea a) (hb : SE G c eb b) (p : noSet eb = true) : SE G c (.Compare ea [cmpOf op] [eb] pos) (.cmp op a b) := fun k X g C =>
  (pe_cmpR (op_cmp C.rm.u65 op) (ha k X g C) (hb k X g C) (noSet_is p _)).imp fun σ H Q ⟨ρ, m, S, h, d⟩ => two h d fun v w x y m2 S2 H2 h2 rx ry d2 => cmp_as op C h2 rx ry d2
theorem opt_test {o : Option Bool} {S : Sto} : ((R.opt (o.map fun c => Vl.d (.bool c)) S).bind fun v S1 => test S1 v) = R.opt o S := by
  cases o <;> rfl
theorem opt_test2 {o p : Option PyData} {f : PyData → PyData → Option Bool} {S : Sto} : ((R.opt (o.bind fun x => p.bind fun y => (f x y).map fun c => Vl.d (.bool c)) S).bind fun v S1 => test S1 v) = R.opt (o.bind fun x => p.bind fun y => f x y) S := by
  cases o with
  | none => rfl
  | some x =>
    cases p with
    | none => rfl
    | some y => exact opt_test
theorem R.bind_assoc {α β γ : Type} (r : R α) (k : α → Sto → R β) (l : β → Sto → R γ) : (r.bind k).bind l = r.bind fun a S => (k a S).bind l := by
  cases r <;> rfl
theorem cmp_test (op : C2) {n : Nat} {σ : L2.St} {H : Hp} {ρ : Env} {m : Mp} {S : Sto} {v w : Vl} {x y : V} {Q : Bool → Hp → Prop} (C : Ctx G c X g k) (h : At g n σ H ρ m S) (rx : RV g.K m S H v x) (ry : RV g.K m S H w y)
    (d : Den g n (R.opt ((view S v).bind fun x => (view S w).bind fun y => cmpop op x y) S) m S H fun b _ _ H' => Q b H') : rD X.K (cmpd op) x y H fun z H' => ∃ k, z = .bl k ∧ Q k H' := by
  cases e : ((view S v).bind fun x => (view S w).bind fun y => cmpop op x y) with
  | none => rw [e] at d; exact d.elim
  | some b =>
    rw [e] at d
    obtain ⟨dx, e1, e⟩ := Option.bind_eq_some_iff.mp e
    obtain ⟨dy, e2, e3⟩ := Option.bind_eq_some_iff.mp e
    rw [C.K] at rx ry
    refine ⟨dx, dy, .bool b, rx.rt (by rw [← C.K]; exact h.sok) e1, ry.rt (by rw [← C.K]; exact h.sok) e2, by unfold cmpd; rw [e3]; rfl, fun z H' ex r => ?_⟩
    cases r
    exact ⟨b, rfl, d m H' ex.post (ex.sok h.sok)⟩
theorem st_cmp {ea eb : Expr} {a b : E} {pos : Pos} (op : C2) (ha : SE G c ea a) (hb : SE G c eb b) (p : noSet eb = true) : ST G c (.Compare ea [cmpOf op] [eb] pos) (.cmp op a b) := fun k X g C =>
  (pt_cmpR (op_cmp C.rm.u65 op) (ha k X g C) (hb k X g C) (noSet_is p _)).imp fun σ H Q ⟨ρ, m, S, h, d⟩ => by
    simp only [ev, R.bind_assoc, opt_test2] at d
    refine dE_of h d.bind fun v m1 S1 H1 p1 s1 d1 x rx => ?_
    refine dE_of (h.to p1 s1) d1.bind fun w m2 S2 H2 p2 s2 d2 y ry => ?_
    exact cmp_test op C ((h.to p1 s1).to p2 s2) (rx.post p2) ry d2
/-- a op b op' c -/
theorem ch_of (op op' : C2) {ea eb ec : Expr} {a b c' : E} {n : Nat} {σ : L2.St} {H : Hp} {ρ : Env} {m : Mp} {S : Sto} {Q : VK} (C : Ctx G c X g k) (h : At g n σ H ρ m S) (d : Den g n (ev g.F (.ch op op' a b c') ρ S) m S H (QV g Q)) :
    tChain (rD X.K (cmpd op)) (rD X.K (cmpd op')) (dE g n a) (dE g n b) (dE g n c') σ H Q := by
  simp only [ev] at d
  refine dE_of h d.bind fun v m1 S1 H1 p1 s1 d1 x rx => ?_
  refine dE_of (h.to p1 s1) d1.bind fun w m2 S2 H2 p2 s2 d2 y ry => ?_
  have h2 := (h.to p1 s1).to p2 s2
  refine cmp_test op C h2 (rx.post p2) ry ?_
  cases e : ((view S2 v).bind fun x => (view S2 w).bind fun y => cmpop op x y) with
  | none => rw [e] at d2; exact d2.elim
  | some t =>
    rw [e] at d2
    intro m3 H3 p3 s3
    cases t with
    | false => exact d2 m3 H3 p3 s3 (.bl false) (.bl false)
    | true =>
      rw [if_pos rfl]
      have d3 := Den.from p3 s3 d2
      refine dE_of (h2.to p3 s3) (Den.bind d3) fun u m4 S4 H4 p4 s4 d4 z rz => ?_
      exact cmp_as op' C ((h2.to p3 s3).to p4 s4) ((ry.post p3).post p4) rz d4
def noSet2 (b c : Expr) : Bool := noSet b && noSet c
theorem last2 {b c : Expr} (h : noSet c = true) (o o' : CmpOp) : lastMarks [o, o'] [b, c] = false := noSet_is h o'
theorem s_ch {ea eb ec : Expr} {a b d : E} {pos : Pos} (op op' : C2) (ha : SE G c ea a) (hb : SE G c eb b) (hc : SE G c ec d) (p : noSet ec = true) : SE G c (.Compare ea [cmpOf op, cmpOf op'] [eb, ec] pos) (.ch op op' a b d) := fun k X g C =>
  (pe_chain (op_cmp C.rm.u65 op) (op_cmp C.rm.u65 op') (ha k X g C) (hb k X g C) (hc k X g C) (last2 p _ _)).imp fun σ H Q ⟨ρ, m, S, h, d⟩ => ch_of (ea := ea) (eb := eb) (ec := ec) op op' C h d
theorem st_ch {ea eb ec : Expr} {a b d : E} {pos : Pos} (op op' : C2) (ha : SE G c ea a) (hb : SE G c eb b) (hc : SE G c ec d) (p : noSet ec = true) : ST G c (.Compare ea [cmpOf op, cmpOf op'] [eb, ec] pos) (.ch op op' a b d) := fun k X g C =>
  (pt_chain (op_cmp C.rm.u65 op) (op_cmp C.rm.u65 op') (ha k X g C) (hb k X g C) (hc k X g C) (last2 p _ _)).imp fun σ H Q ⟨ρ, m, S, h, de⟩ => by
    refine ch_of (ea := ea) (eb := eb) (ec := ec) op op' C h ?_
    have key : ∀ r : R Vl, (∀ v S', r = .ok v S' → ∃ b, v = .d (.bool b)) → Den g c.N.length (r.bind fun v S1 => test S1 v) m S H (fun b _ _ H' => Q b H') → Den g c.N.length r m S H (QV g fun x H' => ∃ k, x = .bl k ∧ Q k H') := fun r hr dd => by
      cases r with
      | no => exact dd.elim
      | ex _ _ _ => exact dd
      | ok v S' =>
        obtain ⟨b, rfl⟩ := hr v S' rfl
        intro m' H' p' s' x rx
        cases rx
        exact ⟨b, rfl, dd m' H' p' s'⟩
    refine key _ (fun v S' e => ?_) de
    simp only [ev] at e
    cases e1 : ev g.F a ρ S with
    | no => rw [e1] at e; cases e
    | ex _ _ _ => rw [e1] at e; cases e
    | ok v1 S1 =>
      rw [e1, R.bind_ok] at e
      cases e2 : ev g.F b ρ S1 with
      | no => rw [e2] at e; cases e
      | ex _ _ _ => rw [e2] at e; cases e
      | ok v2 S2 =>
        rw [e2, R.bind_ok] at e
        split at e
        · cases e
        · cases e; exact ⟨false, rfl⟩
        · cases e3 : ev g.F d ρ S2 with
          | no => rw [e3] at e; cases e
          | ex _ _ _ => rw [e3] at e; cases e
          | ok v3 S3 =>
            rw [e3, R.bind_ok] at e
            cases e4 : ((view S3 v2).bind fun y => (view S3 v3).bind fun z => (cmpop op' y z).map fun k => Vl.d (.bool k)) with
            | none => rw [e4] at e; cases e
            | some u =>
              rw [e4] at e
              cases e
              obtain ⟨dx, dy, q1, q2, q3⟩ := opt2 e4
              obtain ⟨t, _, rfl⟩ := Option.map_eq_some_iff.mp q3
              exact ⟨t, rfl⟩
end
end In
/-! part InG -/
set_option Elab.async false
set_option linter.all false
set_option maxRecDepth 100000
set_option maxHeartbeats 1000000
/-! The rules of expressions: built-ins, logic, items, parts, isinstance. -/
namespace In
open PySem PySem.Spec PyProof.Rows L2
/-! ### the text of a value -/
theorem call_reprD {X : Cx} (hg : X.A.guards = some []) (hu : X.A.units + 65 < cLine) : CallR X (.builtin "repr") (rD1 X.K (u1 .repr)) := by
  refine callR_rD1 fun dx dz e => ?_
  have e : (if (dx.showable && !dx.hasDict && fits dx.shown.length && decide (dx.depth ≤ 64)) = true then some (PyData.str dx.shown) else none) = some dz := by
    have e0 : u1 .repr dx = (if (dx.showable && !dx.hasDict && fits dx.shown.length && decide (dx.depth ≤ 64)) = true then some (PyData.str dx.shown) else none) := by cases dx <;> rfl
    rw [← e0]; exact e
  revert e
  generalize dx = y
  intro e
  · split at e
    · rename_i hf
      cases e
      simp only [Bool.and_eq_true, Bool.not_eq_true', decide_eq_true_eq] at hf
      obtain ⟨⟨⟨h1, h2⟩, h3⟩, h4⟩ := hf
      have h3 := fits_le h3
      intro pins s σ H vs us Q I rs ⟨x, hx, ht, q⟩
      subst hx
      obtain ⟨u, rfl, ru⟩ := vals1 rs
      have q' : Q (.str y.shown) H := q _ _ .refl (.str _)
      cases y with
      | none =>
        rw [ht.non] at ru
        cases ru
        exact PySem.P.repr_of_none ⟨.str _, H, I.tok _, ⟨_, rfl⟩, q'⟩
      | bool b =>
        rw [ht.bl] at ru
        cases ru
        exact PySem.P.repr_of_bool ⟨.str _, H, I.tok _, ⟨_, rfl⟩, q'⟩
      | int i =>
        rw [ht.int] at ru
        obtain ⟨t, rfl⟩ := ru
        exact PySem.P.repr_of_int (by simpa [PyData.showable] using h1) ⟨.str _, H, I.tok _, ⟨_, rfl⟩, q'⟩
      | str z =>
        rw [ht.str] at ru
        obtain ⟨t, rfl⟩ := ru
        exact PySem.P.repr_of_str ⟨.str _, H, I.tok _, ⟨_, rfl⟩, q'⟩ h3
      | dict kvs => simp [PyData.hasDict] at h2
      | list xs =>
        obtain ⟨as, r1⟩ := Dp.reads I _ x u (ht.dp h2) ru
        obtain ⟨a, vs, rfl, _⟩ := ht
        cases ru
        exact repr_of_reads' r1 h1 (by rw [h2]; intro z; cases z) hg (by omega) (fun _ _ z => z) (fun h' u tk hk => ⟨.str _, H, I.kept hk, ⟨_, rfl⟩, q'⟩) h3
      | tuple xs =>
        obtain ⟨as, r1⟩ := Dp.reads I _ x u (ht.dp h2) ru
        obtain ⟨a, vs, rfl, _⟩ := ht.tup
        cases ru
        exact repr_of_reads' r1 h1 (by rw [h2]; intro z; cases z) hg (by omega) (fun _ _ z => z) (fun h' u tk hk => ⟨.str _, H, I.kept hk, ⟨_, rfl⟩, q'⟩) h3
    · cases e
section
variable {G : Glo} {c : Cc} {X : Cx} {g : Gx} {k : Nat}
/-! ### built-ins of one argument, of two -/
theorem rd1_of {n : Nat} {σ : L2.St} {H : Hp} {ρ : Env} {m : Mp} {S : Sto} {f : PyData → Option PyData} {v : Vl} {x : V} {Q : VK} (C : Ctx G c X g k) (h : At g n σ H ρ m S) (rx : RV g.K m S H v x)
    (d : Den g n (R.opt ((view S v).bind fun x => (f x).map .d) S) m S H (QV g Q)) : rD1 X.K f [x] H Q := by
  cases e : ((view S v).bind fun x => (f x).map Vl.d) with
  | none => rw [e] at d; exact d.elim
  | some u =>
    rw [e] at d
    obtain ⟨dx, e1, e3⟩ := opt1 e
    obtain ⟨dz, e4, rfl⟩ := Option.map_eq_some_iff.mp e3
    rw [C.K] at rx
    exact ⟨x, dx, dz, rfl, rx.rt (by rw [← C.K]; exact h.sok) e1, e4, d.data C.K h.sok⟩
theorem pa1 {e : Expr} {a : E} {n : Nat} (h : PE X e (dE g n a)) (p : plainE e = true) : PA X [e] (fun σ H Q => dE g n a σ H fun x H1 => Q [x] H1) :=
  pa_cons h pa_nil (plainE_is p _ _)
theorem pa2 {e e' : Expr} {a a' : E} {n : Nat} (h : PE X e (dE g n a)) (h' : PE X e' (dE g n a')) (p : plainE e = true) (p' : plainE e' = true) : PA X [e, e'] (fun σ H Q => dE g n a σ H fun x H1 => dE g n a' σ H1 fun y H2 => Q [x, y] H2) :=
  pa_cons h (pa1 h' p') (plainE_is p _ _)
/-- which built-in -/
inductive Bi : U1 → Str → Prop
  | abs : Bi .abs "abs" | len : Bi .len "len" | sum : Bi .sum "sum" | max : Bi .max "max" | min : Bi .min "min" | all : Bi .all "all" | any : Bi .any "any" | sorted : Bi .sorted "sorted" | repr : Bi .repr "repr"
  | int : Bi .int "int" | tuple : Bi .tuple "tuple" | list : Bi .list "list" | dict : Bi .dict "dict"
def biTab : List (Str × U1) := [("abs", .abs), ("len", .len), ("sum", .sum), ("max", .max), ("min", .min), ("all", .all), ("any", .any), ("sorted", .sorted), ("repr", .repr), ("int", .int), ("tuple", .tuple), ("list", .list), ("dict", .dict)]
def biOf (x : Str) : Option U1 := biTab.lookup x
theorem biOf_is {x : Str} {op : U1} (h : biOf x = some op) : Bi op x := by
  have hm : (x, op) ∈ biTab := PySem.mem_of_lookup h
  simp only [biTab, List.mem_cons, Prod.mk.injEq, List.not_mem_nil, or_false] at hm
  rcases hm with ⟨rfl, rfl⟩ | ⟨rfl, rfl⟩ | ⟨rfl, rfl⟩ | ⟨rfl, rfl⟩ | ⟨rfl, rfl⟩ | ⟨rfl, rfl⟩ | ⟨rfl, rfl⟩ | ⟨rfl, rfl⟩ | ⟨rfl, rfl⟩ | ⟨rfl, rfl⟩ | ⟨rfl, rfl⟩ | ⟨rfl, rfl⟩ | ⟨rfl, rfl⟩ <;> constructor
theorem s_u1 {op : U1} {x : Str} {e : Expr} {a : E} {p pos : Pos} (hb : Bi op x) (hf : x ∈ G.free) (hg : glb c.sc x = true) (ha : SE G c e a) (pl : plainE e = true) : SE G c (.Call (.Name x p) [e] [] pos) (.u1 op a) := fun k X g C => by
  have hm := C.wd.free x hf
  have hgl := C.gl hg
  have pa := pa1 (ha k X g C) pl
  have hst := plainE_is pl [] X.env
  have fin : ∀ σ H Q, dE g c.N.length (.u1 op a) σ H Q → tCB (rD1 X.K (u1 op)) (fun σ H Q => dE g c.N.length a σ H fun x H1 => Q [x] H1) σ H Q := fun σ H Q ⟨ρ, m, S, h, d⟩ =>
    one (r := fun x H1 => rD1 X.K (u1 op) [x] H1 Q) h d fun v x m2 S2 H2 h2 rx d2 => rd1_of C h2 rx d2
  cases hb with
  | abs => exact (pe_callB call_absD hgl hm rfl pa (he := hst)).imp fin
  | len => exact (pe_callB call_lenD1 hgl hm rfl pa (he := hst)).imp fin
  | sum => exact (pe_callB (call_sumD C.calm) hgl hm rfl pa (he := hst)).imp fin
  | max => exact (pe_callB (call_maxD C.calm) hgl hm rfl pa (he := hst)).imp fin
  | min => exact (pe_callB (call_minD C.calm) hgl hm rfl pa (he := hst)).imp fin
  | all => exact (pe_callB (call_allD C.calm) hgl hm rfl pa (he := hst)).imp fin
  | any => exact (pe_callB (call_anyD C.calm) hgl hm rfl pa (he := hst)).imp fin
  | sorted => exact (pe_callB (rU1_shut (call_sortedU C.calm)) hgl hm rfl pa (he := hst)).imp fin
  | repr => exact (pe_callB (call_reprD C.rm.gd C.rm.u65) hgl hm rfl pa (he := hst)).imp fin
  | int => exact (pe_callTy call_intD hgl hm rfl pa (he := hst)).imp fin
  | tuple => exact (pe_callTy call_tupleD hgl hm rfl pa (he := hst)).imp fin
  | list => exact (pe_callTy (rU1_shut call_listU) hgl hm rfl pa (he := hst)).imp fin
  | dict => exact (pe_callTy (rU1_shut (call_dictU C.calm)) hgl hm rfl pa (he := hst)).imp fin
theorem s_neg {e : Expr} {a : E} {pos : Pos} (ha : SE G c e a) : SE G c (.UnaryOp .USub e pos) (.u1 .neg a) := fun k X g C =>
  (pe_un un_neg (ha k X g C)).imp fun σ H Q ⟨ρ, m, S, h, d⟩ => one h d fun v x m2 S2 H2 h2 rx d2 => by
    obtain ⟨y, dx, dz, e0, h1, e1, h3⟩ := rd1_of C h2 rx d2
    cases e0
    cases dx with
    | int i => cases e1; exact ⟨i, h1.int, h3.int⟩
    | _ => cases e1
theorem s_max2 {e e' : Expr} {a b : E} {p pos : Pos} (hf : ("max" : Str) ∈ G.free) (hg : glb c.sc "max" = true) (ha : SE G c e a) (hb : SE G c e' b) (pl : plainE e = true) (pl' : plainE e' = true) : SE G c (.Call (.Name "max" p) [e, e'] [] pos) (.u2 .max a b) := fun k X g C =>
  (pe_callB (call_max2 C.calm) (C.gl hg) (C.wd.free _ hf) rfl (pa2 (ha k X g C) (hb k X g C) pl pl') (he := plainE_is pl _ _) (hpl := nost_is _ _ (by simp [nost, pl']))).imp fun σ H Q ⟨ρ, m, S, h, d⟩ =>
    two (r := fun x y H2 => ∃ i j, [x, y] = [.int i, .int j] ∧ Q (.int (if j > i then j else i)) H2) h d fun v w x y m2 S2 H2 h2 rx ry d2 => by
    obtain ⟨dx, dy, dz, h1, h2, e1, h3⟩ := rd_of C h2 rx ry d2
    unfold u2 at e1
    split at e1
    · cases e1; exact ⟨_, _, by rw [h1.int, h2.int], h3.int⟩
    · rename_i hh; cases hh
    · cases e1
theorem s_min2 {e e' : Expr} {a b : E} {p pos : Pos} (hf : ("min" : Str) ∈ G.free) (hg : glb c.sc "min" = true) (ha : SE G c e a) (hb : SE G c e' b) (pl : plainE e = true) (pl' : plainE e' = true) : SE G c (.Call (.Name "min" p) [e, e'] [] pos) (.u2 .min a b) := fun k X g C =>
  (pe_callB (call_min2 C.calm) (C.gl hg) (C.wd.free _ hf) rfl (pa2 (ha k X g C) (hb k X g C) pl pl') (he := plainE_is pl _ _) (hpl := nost_is _ _ (by simp [nost, pl']))).imp fun σ H Q ⟨ρ, m, S, h, d⟩ =>
    two (r := fun x y H2 => ∃ i j, [x, y] = [.int i, .int j] ∧ Q (.int (if j < i then j else i)) H2) h d fun v w x y m2 S2 H2 h2 rx ry d2 => by
    obtain ⟨dx, dy, dz, h1, h2, e1, h3⟩ := rd_of C h2 rx ry d2
    unfold u2 at e1
    split at e1
    · rename_i hh; cases hh
    · cases e1; exact ⟨_, _, by rw [h1.int, h2.int], h3.int⟩
    · cases e1
/-! ### not, and, or, if -/
theorem s_not {e : Expr} {a : E} {pos : Pos} (ha : SE G c e a) : SE G c (.UnaryOp .Not e pos) (.not a) := fun k X g C =>
  (pe_notT (ha k X g C)).imp fun σ H Q ⟨ρ, m, S, h, d⟩ => one h d fun v x m2 S2 H2 h2 rx d2 => by
    obtain ⟨b, t, q⟩ := test_of C h2 rx d2.bind
    exact ⟨b, t, q m2 H2 .refl h2.sok _ (.bl _)⟩
theorem st_not {e : Expr} {a : E} {pos : Pos} (ha : ST G c e a) : ST G c (.UnaryOp .Not e pos) (.not a) := fun k X g C =>
  (pt_not (ha k X g C)).imp fun σ H Q ⟨ρ, m, S, h, d⟩ => by
    have e : ((ev g.F (.not a) ρ S).bind fun v S1 => test S1 v) = ((ev g.F a ρ S).bind fun v S1 => test S1 v).bind fun b S2 => R.ok (!b) S2 := by
      simp only [ev, R.bind_assoc]
      rfl
    rw [e] at d
    exact ⟨ρ, m, S, h, d.bind.mono fun b m1 S1 H1 p1 s1 q => q m1 H1 .refl s1⟩
theorem s_and {e e' : Expr} {es : List Expr} {a b : E} {pos : Pos} (ha : SE G c e a) (hb : SE G c (.BoolOp .And (e' :: es) pos) b) : SE G c (.BoolOp .And (e :: e' :: es) pos) (.and a b) := fun k X g C =>
  (pe_andT (ha k X g C) (hb k X g C)).imp fun σ H Q ⟨ρ, m, S, h, d⟩ => one h d fun v x m2 S2 H2 h2 rx d2 => by
    obtain ⟨t, tr, q⟩ := test_of C h2 rx d2.bind
    refine ⟨t, tr, ?_⟩
    cases t with
    | true => exact ⟨ρ, m2, S2, h2, q⟩
    | false => exact q m2 H2 .refl h2.sok x rx
theorem s_or {e e' : Expr} {es : List Expr} {a b : E} {pos : Pos} (ha : SE G c e a) (hb : SE G c (.BoolOp .Or (e' :: es) pos) b) : SE G c (.BoolOp .Or (e :: e' :: es) pos) (.or a b) := fun k X g C =>
  (pe_orT (ha k X g C) (hb k X g C)).imp fun σ H Q ⟨ρ, m, S, h, d⟩ => one h d fun v x m2 S2 H2 h2 rx d2 => by
    obtain ⟨t, tr, q⟩ := test_of C h2 rx d2.bind
    refine ⟨t, tr, ?_⟩
    cases t with
    | true => exact q m2 H2 .refl h2.sok x rx
    | false => exact ⟨ρ, m2, S2, h2, q⟩
theorem s_one {e : Expr} {a : E} {op : BoolOp} {pos : Pos} (ha : SE G c e a) : SE G c (.BoolOp op [e] pos) a := fun k X g C => pe_one (ha k X g C)
def SW (G : Glo) (c : Cc) (e : Expr) (a : E) : Prop := ∀ k X g, Ctx G c X g k → PW X e (dT g c.N.length a)
theorem _root_.L2.PW.imp {X : Cx} {e : Expr} {t t' : TT} (h : PW X e t) (q : ∀ σ H Q, t' σ H Q → t σ H Q) : PW X e t' := ⟨fun wh pins s σ H Q I z => h.run wh pins s σ H Q I (q σ H Q z)⟩
theorem sw_t {e : Expr} {a : E} (h : SW G c e a) : ST G c e a := fun k X g C => (h k X g C).pt
theorem sw_and1 {e : Expr} {a : E} {pos : Pos} (ha : ST G c e a) : SW G c (.BoolOp .And [e] pos) a := fun k X g C => pw_and1 (ha k X g C)
theorem sw_or1 {e : Expr} {a : E} {pos : Pos} (ha : ST G c e a) : SW G c (.BoolOp .Or [e] pos) a := fun k X g C => pw_or1 (ha k X g C)
/-- a value tested twice is tested once -/
theorem test_again {r : Vl → Sto → R Vl} {F : Fns} {a b : E} {ρ : Env} {S : Sto} (n : Nat) {m : Mp} {H : Hp} {Q : Bool → Mp → Sto → Hp → Prop}
    (d : Den g n (((ev F a ρ S).bind fun v S1 => (test S1 v).bind fun c S2 => if c = true then ev F b ρ S2 else .ok v S2).bind fun v S1 => test S1 v) m S H Q) :
    Den g n (((ev F a ρ S).bind fun v S1 => test S1 v).bind fun c S2 => if c = true then (ev F b ρ S2).bind fun v S1 => test S1 v else .ok false S2) m S H Q := by
  cases e : ev F a ρ S with
  | no => rw [e] at d; exact d
  | ex _ _ _ => rw [e] at d; exact d
  | ok v S1 =>
    rw [e] at d
    simp only [R.bind_ok] at d ⊢
    cases t : test S1 v with
    | no => rw [t] at d; exact d
    | ex _ _ _ => rw [t] at d; exact d
    | ok b' S2 =>
      rw [t] at d
      simp only [R.bind_ok] at d ⊢
      have hs : S2 = S1 := by
        unfold test at t
        cases o : (view S1 v).bind In.truthy with
        | none => rw [o] at t; cases t
        | some z => rw [o] at t; cases t; rfl
      cases b' with
      | true => exact d
      | false =>
        simp only [if_neg Bool.false_ne_true, R.bind_ok] at d ⊢
        rw [hs, t, hs] at d
        rw [hs]
        exact d
theorem test_again' {F : Fns} {a b : E} {ρ : Env} {S : Sto} (n : Nat) {m : Mp} {H : Hp} {Q : Bool → Mp → Sto → Hp → Prop}
    (d : Den g n (((ev F a ρ S).bind fun v S1 => (test S1 v).bind fun c S2 => if c = true then .ok v S2 else ev F b ρ S2).bind fun v S1 => test S1 v) m S H Q) :
    Den g n (((ev F a ρ S).bind fun v S1 => test S1 v).bind fun c S2 => if c = true then .ok true S2 else (ev F b ρ S2).bind fun v S1 => test S1 v) m S H Q := by
  cases e : ev F a ρ S with
  | no => rw [e] at d; exact d
  | ex _ _ _ => rw [e] at d; exact d
  | ok v S1 =>
    rw [e] at d
    simp only [R.bind_ok] at d ⊢
    cases t : test S1 v with
    | no => rw [t] at d; exact d
    | ex _ _ _ => rw [t] at d; exact d
    | ok b' S2 =>
      rw [t] at d
      simp only [R.bind_ok] at d ⊢
      have hs : S2 = S1 := by
        unfold test at t
        cases o : (view S1 v).bind In.truthy with
        | none => rw [o] at t; cases t
        | some z => rw [o] at t; cases t; rfl
      cases b' with
      | false => exact d
      | true =>
        simp only [if_true, R.bind_ok] at d ⊢
        rw [hs, t, hs] at d
        rw [hs]
        exact d
theorem sw_and {e e' : Expr} {es : List Expr} {a b : E} {pos : Pos} (ha : ST G c e a) (hb : SW G c (.BoolOp .And (e' :: es) pos) b) : SW G c (.BoolOp .And (e :: e' :: es) pos) (.and a b) := fun k X g C =>
  (pw_and (ha k X g C) (hb k X g C)).imp fun σ H Q ⟨ρ, m, S, h, d⟩ => by
    refine ⟨ρ, m, S, h, (Den.bind (test_again (r := fun _ _ => .no) _ d)).mono fun t m1 S1 H1 p1 s1 q => ?_⟩
    cases t with
    | true => exact ⟨ρ, m1, S1, h.to p1 s1, q⟩
    | false => exact q m1 H1 .refl s1
theorem sw_or {e e' : Expr} {es : List Expr} {a b : E} {pos : Pos} (ha : ST G c e a) (hb : SW G c (.BoolOp .Or (e' :: es) pos) b) : SW G c (.BoolOp .Or (e :: e' :: es) pos) (.or a b) := fun k X g C =>
  (pw_or (ha k X g C) (hb k X g C)).imp fun σ H Q ⟨ρ, m, S, h, d⟩ => by
    refine ⟨ρ, m, S, h, (Den.bind (test_again' _ d)).mono fun t m1 S1 H1 p1 s1 q => ?_⟩
    cases t with
    | true => exact q m1 H1 .refl s1
    | false => exact ⟨ρ, m1, S1, h.to p1 s1, q⟩
theorem s_ite {e e1 e2 : Expr} {a b d : E} {pos : Pos} (ha : ST G c e a) (hb : SE G c e1 b) (hd : SE G c e2 d) : SE G c (.IfExp e e1 e2 pos) (.ite a b d) := fun k X g C =>
  (pe_ifExp (ha k X g C) (hb k X g C) (hd k X g C)).imp fun σ H Q ⟨ρ, m, S, h, de⟩ => by
    simp only [ev, ← R.bind_assoc] at de
    refine ⟨ρ, m, S, h, de.bind.mono fun t m1 S1 H1 p1 s1 q => ?_⟩
    cases t with
    | true => exact ⟨ρ, m1, S1, h.to p1 s1, q⟩
    | false => exact ⟨ρ, m1, S1, h.to p1 s1, q⟩
/-! ### items, parts -/
def plainX : Expr → Bool
  | .Slice _ _ _ _ => false
  | _ => true
theorem plainX_is {e : Expr} (h : plainX e = true) : PlainIx e := by
  intro o i
  cases e with
  | Slice _ _ _ _ => cases h
  | _ => rfl
theorem RPs.atI {K : Frag} {H : Hp} {xs : List PyData} {vs : List V} (r : RPs K H xs vs) {i : Int} {x : PyData} (e : L2.atI xs i = some x) : ∃ v, L2.atI vs i = some v ∧ RP K H x v := by
  unfold L2.atI at e ⊢
  rw [r.len] at e
  obtain ⟨j, e1, e2⟩ := Option.bind_eq_some_iff.mp e
  obtain ⟨v, e3, e4⟩ := r.at e2
  exact ⟨v, by rw [e1]; exact e3, e4⟩
theorem s_ix {e e' : Expr} {a b : E} {pos : Pos} (ha : SE G c e a) (hb : SE G c e' b) (p : plainX e' = true) : SE G c (.Subscript e e' pos) (.ix a b) := fun k X g C =>
  (pe_ix ix_seq (ha k X g C) (hb k X g C) (plainX_is p)).imp fun σ H Q ⟨ρ, m, S, h, d⟩ => two h d fun v w x y m2 S2 H2 h2 rx ry d2 => by
    obtain ⟨dx, dy, dz, h3, h4, e1, h5⟩ := rd_of C h2 rx ry d2
    unfold index at e1
    split at e1
    · obtain ⟨q, vs, rfl, hq, r⟩ := h3
      obtain ⟨z, e2, rz⟩ := r.atI e1
      exact .inl ⟨q, vs, _, z, rfl, h4.int, rd_sql hq, e2, h5 z H2 .refl rz⟩
    · obtain ⟨q, vs, rfl, hq, r⟩ := h3.tup
      obtain ⟨z, e2, rz⟩ := r.atI e1
      exact .inr (.inl ⟨q, vs, _, z, rfl, h4.int, hq, e2, h5 z H2 .refl rz⟩)
    · cases e1
theorem RPs.cut {K : Frag} {H : Hp} {xs : List PyData} {vs : List V} (r : RPs K H xs vs) (lo hi : Option Int) : RPs K H (In.cut xs lo hi) (cutV vs lo hi) := by
  unfold In.cut cutV
  rw [r.len]
  exact (r.drop _).take _
def SO (G : Glo) (c : Cc) (e : Option Expr) (as : Es) : Prop := ∀ k X g, Ctx G c X g k → PO X e fun σ H Q => ∃ ρ m S, At g c.N.length σ H ρ m S ∧ Den g c.N.length (evo g.F as ρ S) m S H fun o _ _ H' => Q o H'
theorem so_none : SO G c none .nil := fun k X g C => ⟨fun pins s σ H Q I ⟨ρ, m, S, h, d⟩ => po_none.run pins s σ H Q I (d m H .refl h.sok)⟩
theorem so_some {e : Expr} {a : E} (ha : SE G c e a) : SO G c (some e) (.cons a .nil) := fun k X g C => ⟨fun pins s σ H Q I ⟨ρ, m, S, h, d⟩ => (po_some (ha k X g C)).run pins s σ H Q I (by
    refine dE_of h (Den.bind (show Den g _ ((ev g.F a ρ S).bind fun v S1 => match v with | .d (.int i) => R.ok (some i) S1 | _ => .no) m S H _ from d)) fun v m1 S1 H1 p1 s1 d1 x rx => ?_
    cases v with
    | loc n => exact d1.elim
    | d y =>
      cases y with
      | int i => cases rx; exact ⟨i, rfl, d1 m1 H1 .refl s1⟩
      | _ => exact d1.elim)⟩
theorem s_sl {e : Expr} {lo hi : Option Expr} {a : E} {l h' : Es} {p2 pos : Pos} (ha : SE G c e a) (hl : SO G c lo l) (hh : SO G c hi h') : SE G c (.Subscript e (.Slice lo hi none p2) pos) (.sl a l h') := fun k X g C => by
  have h1 := pe_slice (p2 := p2) (pos := pos) (SlR.or sl_list sl_tupA) (ha k X g C) (hl k X g C) (hh k X g C)
  refine ⟨fun pins s σ H Q I ⟨ρ, m, S, h, d⟩ => ?_⟩
  refine thn (h1.run pins s σ H (fun z H1 => Q z H1 ∨ ∃ a u, z = .ref a ∧ H1 a = some u ∧ Mut (some u) ∧ ∀ o, Q z (upd H1 a (.frz o u))) I ?_) fun u s' ⟨v, H', I', r, q⟩ => ?_
  · simp only [ev] at d
    refine dE_of h d.bind fun v m1 S1 H1 p1 s1 d1 x rx => ?_
    have h1 := h.to p1 s1
    refine ⟨ρ, m1, S1, h1, d1.bind.mono fun lo' m2 S2 H2 p2 s2 d2 => ?_⟩
    have h2 := h1.to p2 s2
    refine ⟨ρ, m2, S2, h2, d2.bind.mono fun hi' m3 S3 H3 p3 s3 d3 => ?_⟩
    have rx3 := (rx.post p2).post p3
    cases e : ((view S3 v).bind fun x => (slice x lo' hi').map Vl.d) with
    | none => rw [e] at d3; exact d3.elim
    | some u =>
      rw [e] at d3
      obtain ⟨dx, e1, e3⟩ := opt1 e
      obtain ⟨dz, e4, rfl⟩ := Option.map_eq_some_iff.mp e3
      have rs : Rs g.K H3 dz Q := d3.data rfl s3
      have rt := rx3.rt s3 e1
      rw [C.K] at rs rt
      unfold slice at e4
      split at e4
      · cases e4
        obtain ⟨q, vs, rfl, hq, r⟩ := rt
        refine .inl ⟨q, vs, rfl, rd_sql hq, fun p hp => .inr ?_⟩
        exact rsU_of rs p _ (.lst _) rfl hp ⟨_, rfl, r.cut _ _⟩
      · cases e4
        obtain ⟨q, vs, rfl, hq, r⟩ := rt.tup
        refine .inr ⟨q, vs, rfl, hq, fun ⟨z1, z2⟩ => .inl ?_, fun _ p hp => .inl (rs.tup (r.cut _ _) p hp)⟩
        refine rs _ _ .refl (.tup hq ?_)
        rename_i ys _
        have er : In.cut ys lo' hi' = ys := by
          unfold In.cut
          rw [r.len, z1, z2, List.drop_zero, Nat.sub_zero, ← r.len, List.take_length]
        rw [er]
        exact r
      · cases e4
  · rcases q with q | q
    · exact ⟨v, H', I', r, q⟩
    · exact ep_lock ⟨v, H', I', r, q⟩
end
end In
/-! part InEn -/
set_option Elab.async false
set_option linter.all false
set_option maxRecDepth 100000
set_option maxHeartbeats 2000000
/-! enumerate(tuple). -/
namespace In
open PySem PySem.Spec PyProof.Rows L2
theorem meets_enumT (t : Addr) (items : Array Value) :
    Meets (Builtin.«enumerate.__new__» ⟨[.type "enumerate", .ref t], []⟩) (fun _ R s => s.heap.IsTuple t items ∧
      R (.ok (.ret (.ref (s.heap.push { cls := .type "tuple_iterator", data := .fields #[.ref t, .int 0 0] }).objs.size))) { s with heap := (s.heap.push { cls := .type "tuple_iterator", data := .fields #[.ref t, .int 0 0] }).push { cls := .type "enumerate", data := .fields #[.none, .bool false, .ref s.heap.objs.size, rawInt 0, .none, .none] } }) :=
  .of_wp fun prog w A R s h => by
    obtain ⟨hp, g, d, tk, os⟩ := s; obtain ⟨h1, h⟩ := h
    have hsub := sub_enumerate
    have q1 : ∀ {A' : Around} {E : Value → Shared → Prop} {Q : Value → Shared → Prop}, Q (.ref hp.objs.size) ⟨hp.push { cls := .type "tuple_iterator", data := .fields #[.ref t, .int 0 0] }, g, d, tk, os⟩ → wpAny (model prog w) A' (pyIter (.ref t)) Q E ⟨hp, g, d, tk, os⟩ :=
      fun q => (begins_tuple t items).iter prog w _ _ ⟨hp, g, d, tk, os⟩ _ h1 q
    wp_walk using q1
    refine wpAny_stack_any fun st => wpAny_pure ?_
    split
    · rename_i c _ _ _ _ _
      cases (c == Value.type "enumerate")
      · wp_walk using q1
        exact ⟨_, rfl, h⟩
      · wp_walk using q1
        exact ⟨_, rfl, h⟩
    · wp_walk using q1
      exact ⟨_, rfl, h⟩
theorem call_enumT {prog : Program} {w : World} {A : Around} {E : Value → Shared → Prop} {s : Shared} {t : Addr} {items : Array Value} {Q : Value → Shared → Prop} (hl : s.heap.IsTuple t items)
    (h : ∀ h', IsEnum h' (s.heap.objs.size + 1) s.heap.objs.size 0 .none → h'.IsTupleIter s.heap.objs.size t 0 → h'.objs.size = s.heap.objs.size + 2 →
      (∀ b o, s.heap.get? b = some o → h'.get? b = some o) → Q (.ref (s.heap.objs.size + 1)) { s with heap := h' }) :
    wpAny (model prog w) A (call (.type "enumerate") [.ref t]) Q E s := by
  refine callType_new F.called_enumerate (by decide) (F.typeCall_enumerate_1 _) (F.newCall_enumerate_1 _) (fun obj => F.args_object_init_2 obj _) F.entry_enumerate_new (meets_enumT t items) ⟨hl, ?_⟩
  have hz : (s.heap.push { cls := .type "tuple_iterator", data := .fields #[.ref t, .int 0 0] }).objs.size = s.heap.objs.size + 1 := Heap.size_push ..
  show _ ∧ _
  rw [hz]
  have he := Heap.get?_push_size (s.heap.push { cls := .type "tuple_iterator", data := .fields #[.ref t, .int 0 0] }) (o := { cls := .type "enumerate", data := .fields #[.none, .bool false, .ref s.heap.objs.size, rawInt 0, .none, .none] }) rfl
  rw [hz] at he
  exact ⟨⟨_, he, rfl⟩, h _ he ⟨_, Heap.get?_push_of_some _ (Heap.get?_push_size _ rfl), rfl, rfl⟩ (by rw [Heap.size_push, hz]) fun b o x => Heap.get?_push_of_some _ (Heap.get?_push_of_some _ x)⟩
/-- the tuple at a, each item in a new pair -/
def IteT (K : Frag) (a : Addr) : L2.It :=
  ⟨fun i H => ∃ (xs : List V) (x : V), SqT K H a xs ∧ xs[i]? = some x, fun i H v H' => ∃ T x, v = .ref T ∧ H T = none ∧ H' = upd H T (.tup [.int (i : Nat), x]) ∧ ∀ xs, SqT K H a xs → xs[i]? = some x, fun i H => ∃ xs : List V, SqT K H a xs ∧ xs.length ≤ i⟩
theorem turn_enumT {P : Program} {w : World} {K : Frag} {elts : List Expr} {kk : Nat} {tpos : Pos} (a e it : Addr) :
    Turn P w K (.Tuple elts kk tpos) (IteT K a) [e, it] e (fun i h => (∃ old, IsEnum h e it ((i : Nat) : Int) old) ∧ h.IsTupleIter it a i ∧ e ≠ it) where
  mem := by simp
  obj := fun i h st b hb => by
    obtain ⟨⟨old, he⟩, ⟨o, ho, hc, hd⟩, _⟩ := st
    have e' : b = e ∨ b = it := by simpa using hb
    rcases e' with z | z
    · rw [z]; exact ⟨_, he, fun v q => nomatch q⟩
    · rw [z]; exact ⟨o, ho, fun v q => by rw [hd] at q; cases q⟩
  keep := fun i h h' st k => let ⟨⟨old, he⟩, hi, hne⟩ := st; ⟨⟨old, k e (by simp) _ he⟩, hi.at fun o q => k it (by simp) o q, hne⟩
  item := by
    intro X hP hw hK hc i pins s σ H E I hf st hg
    subst hP hw hK
    obtain ⟨⟨old, he⟩, hit, hne⟩ := st
    obtain ⟨xs, x, hq, hx⟩ := hg
    obtain ⟨its, rv, p, hz⟩ := I.tuple hq
    obtain ⟨u, hu, ru⟩ := rv.get hx
    have hel : e < s.heap.objs.size := Heap.lt_size he
    have hil : it < s.heap.objs.size := by obtain ⟨_, q, _⟩ := hit; exact Heap.lt_size q
    have hat : a ≠ it := by
      intro z
      obtain ⟨o, ho, hcl, _⟩ := p
      obtain ⟨o2, ho2, hc2, _⟩ := hit
      rw [z, ho2] at ho
      cases ho
      rw [hc2] at hcl
      exact absurd hcl (by decide)
    have hae : e ≠ a := by
      intro z
      obtain ⟨o, ho, hcl, _⟩ := p
      rw [← z, he] at ho
      cases ho
      exact absurd hcl (show ¬ (Value.type "enumerate" = Value.type "tuple") from by decide)
    have hlt : i < its.toArray.size := by
      have := (List.getElem?_eq_some_iff.mp hu).1
      simpa using this
    have hh : X.A.in1.handled = none := I.ok.hd hc
    refine wpAny_pyNext_enum_itemD (Draws.tuple hh it a hat its.toArray) he ⟨hit, p⟩ hlt hne (by simp [hne, hae]) fun y h' tk hP ho hit' hT hsz hk => ?_
    obtain rfl : y = u := by
      have h2 : its[i]? = some y := by simpa using hP
      rw [hu] at h2; exact (Option.some.inj h2).symm
    refine ⟨_, rfl, wpAny_letOwnedTupleGo_enum (s := { s with heap := h', toks := tk + 1 }) ho fun h'' he' sb => ?_⟩
    have hT2 : h''.get? s.heap.objs.size = some { cls := .type "tuple", data := .seq #[.int i tk, y] } := (sb.2 _ (Nat.ne_of_gt hel)).trans hT
    have new : ObjOk X.prog X.w (upd H s.heap.objs.size (.tup [.int (i : Nat), x])) h'' s.heap.objs.size (.tup [.int (i : Nat), x]) :=
      ⟨by show 2 ≤ sizeLine; decide, [.int i tk, y], .cons ⟨_, rfl⟩ (.cons ru .nil), ⟨_, hT2, rfl, _, rfl⟩⟩
    have I1 : Inv X pins σ (upd H s.heap.objs.size (.tup [.int (i : Nat), x])) { s with heap := h'', toks := tk + 1 } :=
      I.turnedNew (t' := tk + 1) (ch := [e, it]) (fun b ob hb q => (sb.2 b (fun z => hb (by simp [z]))).trans (hk b ob (fun z => hb (by simp [z])) (fun z => hb (by simp [z])) q)) hf (Nat.le_refl _) new
    refine ⟨.ref s.heap.objs.size, _, I1, rfl, ⟨_, x, rfl, I.hok.fresh (Nat.le_refl _), rfl, fun ys hy => by rw [I.tuple_inj hy hq]; exact hx⟩, ⟨⟨y, ?_⟩, hit'.1.at fun o q => (sb.2 it (Ne.symm hne)).trans q, hne⟩, fun b hb => ?_⟩
    · have e1 : ((i + 1 : Nat) : Int) = (i : Int) + 1 := by omega
      rw [e1]; exact he'
    · have hb' : b < s.heap.objs.size := by
        have e' : b = e ∨ b = it := by simpa using hb
        rcases e' with z | z
        · rw [z]; exact hel
        · rw [z]; exact hil
      rw [upd_ne (Nat.ne_of_lt hb')]
      exact (hf b hb).1
  done := by
    intro X hP hw hK hc i pins s σ H E I hf st hg
    subst hP hw hK
    obtain ⟨⟨old, he⟩, hit, hne⟩ := st
    obtain ⟨xs, hq, hx⟩ := hg
    obtain ⟨its, rv, p, hz⟩ := I.tuple hq
    obtain ⟨f0, f1, f2, f3, f4, f5⟩ := hf it (by simp)
    have hl := rv.length
    have hat : a ≠ it := by
      intro z
      obtain ⟨o, ho, hcl, _⟩ := p
      obtain ⟨o2, ho2, hc2, _⟩ := hit
      rw [z, ho2] at ho
      cases ho
      rw [hc2] at hcl
      exact absurd hcl (by decide)
    have hh : X.A.in1.handled = none := I.ok.hd hc
    have D := Draws.tuple (prog := X.prog) (w := X.w) hh it a hat its.toArray
    have hT : s.TypeIs (.ref e) "enumerate" := ⟨_, he, rfl⟩
    unfold pyNext
    refine wpAny_bind (wpAny_attempt (wpAny_callSpecial?_slot (name := Str.ofString "__next__") hT F.slot_enumerate_next
      (wpAny_call_entry F.slot_enumerate_next hT F.entry_enumerate_next ?_ (F.args_enumerate_next_1 _))))
    show wpAny _ _ (field (.ref e) 2 >>= _) _ _ _
    refine wpAny_bind (wpAny_field he rfl (x := .ref it) rfl ?_)
    refine wpAny_bind (PySem.wpAny_nextOf_tuple_end hh hit p (by simp; omega) fun h' x he' hx' => ?_)
    obtain ⟨o, ho, hc⟩ := hx'
    refine wpAny_bind (wpAny_isInstance (T := "StopIteration") (b := true) ⟨o, ho, hc⟩ isSubtype_stop ?_)
    exact wpAny_pure ⟨rfl, I.turned (t' := s.toks) (fun b o hb q => he' b o hb q) f0 f1 f3 f4 f5⟩
  self := fun A i s Q E st h => let ⟨⟨_, he⟩, _⟩ := st; wpAny_pyIter_enum he h
def iEnumT (K : Frag) (ta : TA) : TI := fun σ H R => ta σ H fun vs H1 => ∃ a xs, vs = [.ref a] ∧ ((SqL K H1 a xs ∧ R (Ite K a) H1) ∨ (SqT K H1 a xs ∧ R (IteT K a) H1))
theorem pi_enumT {X : Cx} {e : Expr} {ta : TA} {p pos tpos : Pos} {elts : List Expr} {kk : Nat} (hg : Gl X "enumerate") (hm : X.mg "enumerate" = none) (ha : PA X [e] ta) (hs : starEach [e] X.env = [(false, eval e X.env)]) :
    PI X (.Tuple elts kk tpos) (.Call (.Name "enumerate" p) [e] [] pos) (iEnumT X.K ta) := by
  refine ⟨fun pins s σ H R I h => ?_⟩
  refine Call_ (ld_blt I hg hm boot_enumerate (PyProof.Rows.callWith_type1 (thn (ha.run pos pins s σ H _ I h) fun us s1 ⟨vs, H1, I1, r1, q1⟩ => ?_) hs rfl))
  obtain ⟨a, xs, ex, hq⟩ := q1
  subst ex
  cases r1 with
  | cons r rr =>
    cases rr
    cases r
    have frs : ∀ b ∈ [s1.heap.objs.size + 1, s1.heap.objs.size], FpOk X pins H1 b := fun b hb => by
      have e' : b = s1.heap.objs.size + 1 ∨ b = s1.heap.objs.size := by simpa using hb
      have hle : s1.heap.objs.size ≤ b := by
        rcases e' with z | z
        · rw [z]; exact Nat.le_add_right _ _
        · rw [z]; exact Nat.le_refl _
      exact I1.fpOk hle (I1.hok.fresh hle)
    rcases hq with ⟨hq, q⟩ | ⟨hq, q⟩
    · obtain ⟨its, rv, p', hz⟩ := I1.list hq
      refine call_enumerate_list p'.isList fun h' he hit hsz hk => wpAny_pyIter_enum he ?_
      have I2 : Inv X pins σ H1 { s1 with heap := h' } := I1.kept (t' := s1.toks) hk
      exact ⟨s1.heap.objs.size + 1, [s1.heap.objs.size + 1, s1.heap.objs.size], _, _, H1, rfl, I2, turn_enum a (s1.heap.objs.size + 1) s1.heap.objs.size, ⟨⟨.none, he⟩, hit, Nat.succ_ne_self _⟩, frs, q⟩
    · obtain ⟨its, rv, p', hz⟩ := I1.tuple hq
      refine call_enumT (show s1.heap.IsTuple a its.toArray from p') fun h' he hit hsz hk => wpAny_pyIter_enum he ?_
      have I2 : Inv X pins σ H1 { s1 with heap := h' } := I1.kept (t' := s1.toks) hk
      exact ⟨s1.heap.objs.size + 1, [s1.heap.objs.size + 1, s1.heap.objs.size], _, _, H1, rfl, I2, turn_enumT a (s1.heap.objs.size + 1) s1.heap.objs.size, ⟨⟨.none, he⟩, hit, Nat.succ_ne_self _⟩, frs, q⟩
end In
/-! part InH -/
set_option Elab.async false
set_option linter.all false
set_option maxRecDepth 100000
set_option maxHeartbeats 1000000
/-! isinstance, targets, iterables. -/
namespace In
open PySem PySem.Spec PyProof.Rows L2
/-! ### isinstance(x, T) -/
def tyName : PyData → String
  | .none => "NoneType"
  | .bool _ => "bool"
  | .int _ => "int"
  | .str _ => "str"
  | .list _ => "list"
  | .tuple _ => "tuple"
  | .dict _ => "dict"
theorem kit_of_isType {d : PyData} {t : String} {b : Bool} (h : isType d t = some b) : kitB (tyName d) t = some b := by
  cases d <;> (unfold isType at h; split at h <;> first | (cases h; simp only [tyName]; decide +kernel) | cases h)
theorem tyX_of {K : Frag} {H : Hp} {d : PyData} {x : V} (h : RT K H d x) : TyX K H x (.type (tyName d)) := by
  cases d with
  | none => rw [h.non]; exact .base .non
  | bool b => rw [h.bl]; exact .base (.bl _)
  | int b => rw [h.int]; exact .base (.int _)
  | str b => rw [h.str]; exact .base (.str _)
  | list xs =>
    obtain ⟨a, vs, rfl, h | ⟨o, h⟩, r⟩ := h
    · exact .base (.lst h)
    · exact .base (.frz h)
  | tuple xs =>
    obtain ⟨a, vs, rfl, (h | ⟨o, h⟩) | ⟨o, its, n, h, hc, _⟩, r⟩ := h.tup
    · exact .base (.tup h)
    · exact .fTuple h
    · exact .kTuple h hc
  | dict xs =>
    obtain ⟨a, vs, rfl, h | ⟨o, h⟩, r⟩ := h
    · exact .base (.dK h)
    · exact .fDict h
section
variable {G : Glo} {c : Cc} {X : Cx} {g : Gx} {k : Nat}
theorem s_isi {t : String} {y : Str} {e : Expr} {a : E} {p p2 pos : Pos} (hv : bootBuiltins y = some (.type t)) (hf : ("isinstance" : Str) ∈ G.free) (hg : glb c.sc "isinstance" = true) (hf2 : y ∈ G.free) (hg2 : glb c.sc y = true) (hn : y ≠ "__name__")
    (ha : SE G c e a) (pl : plainE e = true) : SE G c (.Call (.Name "isinstance" p) [e, .Name y p2] [] pos) (.isi a t) := fun k X g C => by
  have pt : PE X (.Name y p2) (tC (.ty t)) := pe_bltn (C.gl hg2) (C.wd.free _ hf2) hv rfl hn (glb_is hg2).2
  have pa : PA X [e, .Name y p2] (tCons (dE g c.N.length a) (tCons (tC (.ty t)) tNil)) := pa_cons (ha k X g C) (pa_cons pt pa_nil) (plainE_is pl _ _)
  refine (pe_callB call_isi (C.gl hg) (C.wd.free _ hf) rfl pa (he := plainE_is pl _ _)).imp fun σ H Q ⟨ρ, m, S, h, d⟩ => ?_
  refine dE_of h (Den.bind (show Den g _ ((ev g.F a ρ S).bind fun v S1 => R.opt ((view S1 v).bind fun x => (isType x t).map fun b => Vl.d (.bool b)) S1) m S H _ from d)) fun v m1 S1 H1 p1 s1 d1 x rx => ?_
  cases ee : ((view S1 v).bind fun x => (isType x t).map fun b => Vl.d (.bool b)) with
  | none => rw [ee] at d1; exact d1.elim
  | some u =>
    rw [ee] at d1
    obtain ⟨dx, e1, e3⟩ := opt1 ee
    obtain ⟨b, e4, rfl⟩ := Option.map_eq_some_iff.mp e3
    rw [C.K] at rx
    have rt := rx.rt (by rw [← C.K]; exact s1) e1
    exact ⟨x, .ty t, .type (tyName dx), .type t, b, rfl, .ty t, tyX_of rt, kit_ty (kit_of_isType e4), d1 m1 H1 .refl s1 _ (.bl b)⟩
/-! ### targets -/
mutual
def slT : T → List Nat
  | .nm i => [i]
  | .tp ts => slTs ts
def slTs : Ts → List Nat
  | .nil => []
  | .cons t r => slT t ++ slTs r
end
theorem wipe_set {σ : L2.St} {i : Nat} {o : Option V} : ∀ {vs : List Nat}, i ∈ vs → L2.wipe (σ.set i o) vs = L2.wipe σ vs
  | v :: vs, h => by
    unfold L2.wipe
    by_cases e : i ∈ vs
    · rw [wipe_set e]
    · have ev : i = v := (List.mem_cons.mp h).resolve_right e
      subst ev
      have key : ∀ vs : List Nat, i ∉ vs → L2.wipe (σ.set i o) vs = (L2.wipe σ vs).set i o := fun vs => by
        induction vs with
        | nil => intro _; rfl
        | cons w ws ih =>
          intro hn
          unfold L2.wipe
          rw [ih fun q => hn (List.mem_cons_of_mem _ q)]
          have hne : i ≠ w := fun q => hn (by rw [q]; exact List.mem_cons_self)
          rw [List.set_comm _ _ hne]
      rw [key vs e, List.set_set]
def gG (K : Frag) (t : T) : TG := fun v σ H Q => ∃ d ρ ρ' m S, RP K H d v ∧ Renv K m S H ρ σ ∧ put t d ρ = some ρ' ∧
  ∀ σ', σ'.length = σ.length → Renv K m S H ρ' σ' → (∀ vs, (∀ i ∈ slT t, i ∈ vs) → L2.wipe σ' vs = L2.wipe σ vs) → Q σ' H
def gGs (K : Frag) (ts : Ts) : TGs := fun vs σ H Q => ∃ ds ρ ρ' m S, RPs K H ds vs ∧ Renv K m S H ρ σ ∧ puts ts ds ρ = some ρ' ∧
  ∀ σ', σ'.length = σ.length → Renv K m S H ρ' σ' → (∀ vs, (∀ i ∈ slTs ts, i ∈ vs) → L2.wipe σ' vs = L2.wipe σ vs) → Q σ' H
theorem _root_.L2.PG.imp {X : Cx} {e : Expr} {t t' : TG} (h : PG X e t) (q : ∀ v σ H Q, t' v σ H Q → t v σ H Q) : PG X e t' := ⟨fun pins s σ H x v Q I r z => h.run pins s σ H x v Q I r (q _ _ _ _ z)⟩
def SG (G : Glo) (c : Cc) (e : Expr) (t : T) : Prop := ∀ k X g, Ctx G c X g k → PG X e (gG X.K t)
def SGs (G : Glo) (c : Cc) (es : List Expr) (ts : Ts) : Prop := nost es = true ∧ es.length = ts.len ∧ ∀ k X g, Ctx G c X g k → PGs X es (gGs X.K ts)
/-- a name that may be stored to -/
def sto (c : Cc) (x : Str) : Bool := match c.sc.names.lookup x with
  | some .local => true
  | some .cell => c.st x
  | _ => false
theorem sto_loc {c : Cc} {x : Str} (h : sto c x = true) : Loc c.sc x := by
  unfold sto at h
  split at h
  · exact .inl (by assumption)
  · exact .inr (by assumption)
  · cases h
theorem Ctx.sto (C : Ctx G c X g k) {x : Str} (h : In.sto c x = true) : X.fn x = true ∨ X.env.scope.names.lookup x = some .local := by
  unfold In.sto at h
  rw [C.sc]
  split at h
  · exact .inr (by assumption)
  · exact .inl (C.st x h)
  · cases h
theorem sg_name {i : Nat} {x : Str} {pos : Pos} (hi : c.N[i]? = some x) (hx : sto c x = true) : SG G c (.Name x pos) (.nm i) := fun k X g C =>
  (pg_name (by rw [C.N]; exact C.nd) (by rw [C.N]; exact hi) (by rw [C.sc]; exact sto_loc hx) (C.sto hx)).imp fun v σ H Q ⟨d, ρ, ρ', m, S, r, re, e, q⟩ => by
    cases e
    exact q _ (by simp) (re.set (show RV _ m S H (.d d) v from r)) fun vs hv => wipe_set (hv i (by simp [slT]))
theorem assign_starless : ∀ {es : List Expr} (env : PySem.Env), nost es = true → (assignEach es env).length = es.length ∧ (assignEach es env).findIdx? (·.1) = none
  | [], _, _ => ⟨rfl, rfl⟩
  | e :: es, env, h => by
    simp only [nost, Bool.and_eq_true] at h
    obtain ⟨h1, h2⟩ := assign_starless env h.2
    have ec : assignEach (e :: es) env = (false, assign e env) :: assignEach es env := by
      cases e with
      | Starred _ _ => exact absurd h.1 (by simp [plainE])
      | _ => rfl
    rw [ec]
    exact ⟨by simp [h1], by simp [List.findIdx?_cons, h2]⟩
theorem puts_len : ∀ {ts : Ts} {ds : List PyData} {ρ ρ' : Env}, puts ts ds ρ = some ρ' → ds.length = ts.len
  | .nil, [], _, _, _ => rfl
  | .nil, _ :: _, _, _, h => by cases h
  | .cons _ _, [], _, _, h => by cases h
  | .cons t ts, d :: ds, ρ, ρ', h => by
    obtain ⟨ρ1, _, h2⟩ := Option.bind_eq_some_iff.mp (show (put t d ρ).bind (puts ts ds) = some ρ' from h)
    show ds.length + 1 = ts.len + 1
    rw [puts_len h2]
theorem sgs_nil : SGs G c [] .nil := ⟨rfl, rfl, fun k X g C => ⟨fun pins s σ H xs us Q I r z => pgs_nil.run pins s σ H xs us Q I r (by
  obtain ⟨ds, ρ, ρ', m, S, r, re, e, q⟩ := z
  cases r with
  | nil => cases e; exact ⟨rfl, q σ rfl re fun _ _ => rfl⟩
  | cons _ _ => cases e)⟩⟩
theorem sgs_cons {e : Expr} {es : List Expr} {t : T} {ts : Ts} (h1 : SG G c e t) (p : plainE e = true) (h2 : SGs G c es ts) : SGs G c (e :: es) (.cons t ts) := by
  refine ⟨by simp only [nost, p, h2.1]; rfl, by simp [Ts.len, h2.2.1], fun k X g C => ⟨fun pins s σ H xs us Q I r z => (pgs_cons (h1 k X g C) (h2.2.2 k X g C) ?_).run pins s σ H xs us Q I r ?_⟩⟩
  · cases e with
    | Starred _ _ => cases p
    | _ => rfl
  · obtain ⟨ds, ρ, ρ', m, S, r, re, e, q⟩ := z
    cases r with
    | nil => cases e
    | cons hd tl =>
      rename_i d v ds vs
      obtain ⟨ρ1, e1, e2⟩ := Option.bind_eq_some_iff.mp (show (put t d ρ).bind (puts ts ds) = some ρ' from e)
      refine ⟨v, vs, rfl, d, ρ, ρ1, m, S, hd, re, e1, fun σ1 l1 r1 w1 => ⟨ds, ρ1, ρ', m, S, tl, r1, e2, fun σ2 l2 r2 w2 => q σ2 (l2.trans l1) r2 fun ws hw => ?_⟩⟩
      rw [w2 ws fun i hi => hw i (List.mem_append_right _ hi), w1 ws fun i hi => hw i (List.mem_append_left _ hi)]
theorem sg_tup {es : List Expr} {ts : Ts} {j : Nat} {pos : Pos} (h : SGs G c es ts) : SG G c (.Tuple es j pos) (.tp ts) := fun k X g C =>
  (pg_tup C.calm (h.2.2 k X g C) (assign_starless X.env h.1).1 (assign_starless X.env h.1).2).imp fun v σ H Q ⟨d, ρ, ρ', m, S, r, re, e, q⟩ => by
    cases r with
    | @tup a vs ds hq rs =>
      have e' : (if ds.length = ts.len then puts ts ds ρ else none) = some ρ' := e
      split at e'
      · rename_i hl
        exact ⟨a, vs, rfl, hq, by rw [← rs.len, hl, h.2.1], ds, ρ, ρ', m, S, rs, re, e', q⟩
      · cases e'
    | _ => cases e
/-! ### iterables -/
def Wk (K : Frag) (p : List PyData × List Nat) (m : Mp) (S : Sto) (H : Hp) (J : L2.It) : Prop := ∃ (Gd : Hp → Prop) (Y : Nat → Hp → V → Hp → Prop), Walk J p.1.length Gd Y ∧
  (∀ m' S' H', Post m S H m' S' H' → Sok K m' S' H' → chk p.2 S S' = true → Gd H') ∧
  ∀ i x m' S' H' H'', i < p.1.length → Post m S H m' S' H' → Sok K m' S' H' → chk p.2 S S' = true → Y i H' x H'' → ∃ d, p.1[i]? = some d ∧ Ext H' H'' ∧ RP K H'' d x
def dI (g : Gx) (n : Nat) (it : It) : TI := fun σ H R => ∃ ρ m S, At g n σ H ρ m S ∧ Den g n (evI g.F it ρ S) m S H fun p m' S' H' => ∀ J, Wk g.K p m' S' H' J → R J H'
def SI (G : Glo) (c : Cc) (tg e : Expr) (it : It) : Prop := noSet e = true ∧ ∀ k X g, Ctx G c X g k → PI X tg e (dI g c.N.length it)
theorem noSet_it {e : Expr} (h : noSet e = true) (env : PySem.Env) (x : Value) : foldedSetIterable e env x = pure x := by
  cases e with
  | Set _ _ _ => cases h
  | _ => rfl
theorem _root_.L2.PI.imp {X : Cx} {tg e : Expr} {t t' : TI} (h : PI X tg e t) (q : ∀ σ H Q, t' σ H Q → t σ H Q) : PI X tg e t' := ⟨fun pins s σ H R I z => h.run pins s σ H R I (q σ H R z)⟩
/-- a sequence that is walked: a list, or a tuple -/
def SqAt (K : Frag) (l : Bool) (a : Addr) (xs : List PyData) (gs : List Nat) (m : Mp) (S : Sto) (H : Hp) : Prop :=
  ∀ m' S' H', Post m S H m' S' H' → Sok K m' S' H' → chk gs S S' = true → ∃ vs, (if l = true then SqL K H' a vs else SqT K H' a vs) ∧ RPs K H' xs vs
theorem sq_of {K : Frag} {m : Mp} {S : Sto} {H : Hp} {v : Vl} {x : V} {d : PyData} {xs : List PyData} (h : RV K m S H v x) (e : view S v = some d) (e2 : seq? d = some xs) : ∃ l a, x = .ref a ∧ SqAt K l a xs (guard v) m S H := by
  cases v with
  | d y =>
    cases e
    cases h with
    | lst h r => cases e2; exact ⟨true, _, rfl, fun m' S' H' p s _ => ⟨_, (by rw [if_pos rfl]; exact (h.keep p.k).sql), RPs.keep p.k _ _ r⟩⟩
    | tup h r => cases e2; exact ⟨false, _, rfl, fun m' S' H' p s _ => ⟨_, (by rw [if_neg Bool.false_ne_true]; exact sqT_keep p.k h), RPs.keep p.k _ _ r⟩⟩
    | _ => cases e2
  | loc n =>
    obtain ⟨rfl, hl⟩ := h
    have e' : (S[n]?).map (fun c => c.obj.data) = some d := e
    rw [List.getElem?_eq_getElem hl] at e'
    simp only [Option.map_some, Option.some.injEq] at e'
    subst e'
    cases ho : S[n].obj with
    | dct kvs => rw [ho] at e2; cases e2
    | lst ys =>
      rw [ho] at e2
      cases e2
      refine ⟨true, _, rfl, fun m' S' H' p s ck => ?_⟩
      have ck' : S'[n]? = S[n]? := by
        have := List.all_eq_true.mp ck n (by simp [guard])
        exact of_decide_eq_true this
      rw [List.getElem?_eq_getElem hl] at ck'
      obtain ⟨u, h1, h2⟩ := s.at_ n _ ck'
      rw [ho] at h1
      obtain ⟨vs, rfl, r⟩ := h1
      refine ⟨vs, ?_, r⟩
      rw [if_pos rfl, ← p.map n hl]
      by_cases q : S[n].live = true
      · rw [if_pos q] at h2; exact .inl (.inl h2)
      · rw [if_neg q] at h2; exact .inl (.inr h2)
theorem SqAt.now {K : Frag} {l : Bool} {a : Addr} {xs : List PyData} {gs : List Nat} {m : Mp} {S : Sto} {H : Hp} (h : SqAt K l a xs gs m S H) (s : Sok K m S H) : ∃ vs, (if l = true then SqL K H a vs else SqT K H a vs) ∧ RPs K H xs vs := h m S H .refl s (chk_same _ _)
theorem wk_list {K : Frag} {a : Addr} {xs : List PyData} {gs : List Nat} {m : Mp} {S : Sto} {H : Hp} (h : SqAt K true a xs gs m S H) : Wk K (xs, gs) m S H (Itl K a) := by
  refine ⟨fun H' => ∃ vs, SqL K H' a vs ∧ RPs K H' xs vs, fun i H' x H'' => H'' = H' ∧ ∃ d, xs[i]? = some d ∧ RP K H' d x, ⟨?_, ?_, ?_⟩, fun m' S' H' p s c => ?_, fun i x m' S' H' H'' hi p s c y => ?_⟩
  · rintro i H' hi ⟨vs, h1, h2⟩
    have hi' : i < vs.length := by rw [← h2.len]; exact hi
    exact ⟨vs, vs[i], h1, List.getElem?_eq_getElem hi'⟩
  · rintro H' ⟨vs, h1, h2⟩
    exact ⟨vs, h1, by rw [← h2.len]; exact Nat.le_refl _⟩
  · rintro i H' x H'' hi ⟨vs, h1, h2⟩ ⟨e, y⟩
    obtain ⟨d, e1, r⟩ := h2.at' (y vs h1)
    exact ⟨e, d, e1, r⟩
  · obtain ⟨vs, h1, h2⟩ := h m' S' H' p s c
    rw [if_pos rfl] at h1
    exact ⟨vs, h1, h2⟩
  · obtain ⟨rfl, d, e, r⟩ := y
    exact ⟨d, e, .refl, r⟩
theorem wk_tup {K : Frag} {a : Addr} {xs : List PyData} {gs : List Nat} {m : Mp} {S : Sto} {H : Hp} (h : SqAt K false a xs gs m S H) : Wk K (xs, gs) m S H (Itt K a) := by
  refine ⟨fun H' => ∃ vs, SqT K H' a vs ∧ RPs K H' xs vs, fun i H' x H'' => H'' = H' ∧ ∃ d, xs[i]? = some d ∧ RP K H' d x, ⟨?_, ?_, ?_⟩, fun m' S' H' p s c => ?_, fun i x m' S' H' H'' hi p s c y => ?_⟩
  · rintro i H' hi ⟨vs, h1, h2⟩
    have hi' : i < vs.length := by rw [← h2.len]; exact hi
    exact ⟨vs, vs[i], h1, List.getElem?_eq_getElem hi'⟩
  · rintro H' ⟨vs, h1, h2⟩
    exact ⟨vs, h1, by rw [← h2.len]; exact Nat.le_refl _⟩
  · rintro i H' x H'' hi ⟨vs, h1, h2⟩ ⟨e, y⟩
    obtain ⟨d, e1, r⟩ := h2.at' (y vs h1)
    exact ⟨e, d, e1, r⟩
  · obtain ⟨vs, h1, h2⟩ := h m' S' H' p s c
    rw [if_neg Bool.false_ne_true] at h1
    exact ⟨vs, h1, h2⟩
  · obtain ⟨rfl, d, e, r⟩ := y
    exact ⟨d, e, .refl, r⟩
theorem enumL_len : ∀ (n : Nat) (xs : List PyData), (enumL n xs).length = xs.length
  | _, [] => rfl
  | n, x :: xs => congrArg (· + 1) (enumL_len (n + 1) xs)
theorem enumL_at : ∀ (n : Nat) (xs : List PyData) (i : Nat) (d : PyData), xs[i]? = some d → (enumL n xs)[i]? = some (.tuple [.int ((n + i : Nat) : Int), d])
  | _, [], _, _, h => by simp at h
  | n, x :: xs, 0, d, h => by simp at h; subst h; rfl
  | n, x :: xs, i + 1, d, h => by
    have := enumL_at (n + 1) xs i d (by simpa using h)
    show (enumL (n + 1) xs)[i]? = _
    rw [this]
    congr 5
    omega
theorem rp_pair {K : Frag} {H : Hp} {T : Addr} {x y : V} {d e : PyData} (hT : H T = none) (h1 : RP K H d x) (h2 : RP K H e y) : Ext H (upd H T (.tup [x, y])) ∧ RP K (upd H T (.tup [x, y])) (.tuple [d, e]) (.ref T) :=
  ⟨.new hT, .tup (SqT.of upd_same) (.cons (RP.keep (keeps_new hT) _ _ h1) (.cons (RP.keep (keeps_new hT) _ _ h2) .nil))⟩
theorem wk_enum {K : Frag} {a : Addr} {xs : List PyData} {gs : List Nat} {m : Mp} {S : Sto} {H : Hp} (h : SqAt K true a xs gs m S H) : Wk K (enumL 0 xs, gs) m S H (Ite K a) := by
  refine ⟨fun H' => ∃ vs, SqL K H' a vs ∧ RPs K H' xs vs, fun i H' x H'' => ∃ T d y, x = .ref T ∧ H' T = none ∧ H'' = upd H' T (.tup [.int (i : Nat), y]) ∧ xs[i]? = some d ∧ RP K H' d y, ⟨?_, ?_, ?_⟩, fun m' S' H' p s c => ?_, fun i x m' S' H' H'' hi p s c y => ?_⟩
  · rintro i H' hi ⟨vs, h1, h2⟩
    rw [enumL_len] at hi
    have hi' : i < vs.length := by rw [← h2.len]; exact hi
    exact ⟨vs, vs[i], h1, List.getElem?_eq_getElem hi'⟩
  · rintro H' ⟨vs, h1, h2⟩
    exact ⟨vs, h1, by rw [enumL_len, ← h2.len]; exact Nat.le_refl _⟩
  · rintro i H' x H'' hi ⟨vs, h1, h2⟩ ⟨T, y, e1, e2, e3, e4⟩
    obtain ⟨d, e5, r⟩ := h2.at' (e4 vs h1)
    exact ⟨T, d, y, e1, e2, e3, e5, r⟩
  · obtain ⟨vs, h1, h2⟩ := h m' S' H' p s c
    rw [if_pos rfl] at h1
    exact ⟨vs, h1, h2⟩
  · obtain ⟨T, d, y, rfl, e2, rfl, e5, r⟩ := y
    obtain ⟨q1, q2⟩ := rp_pair e2 (RP.int (K := K) (H := H') (i : Nat)) r
    refine ⟨_, enumL_at 0 xs i d e5, q1, ?_⟩
    rw [Nat.zero_add]
    exact q2
theorem wk_enumT {K : Frag} {a : Addr} {xs : List PyData} {gs : List Nat} {m : Mp} {S : Sto} {H : Hp} (h : SqAt K false a xs gs m S H) : Wk K (enumL 0 xs, gs) m S H (IteT K a) := by
  refine ⟨fun H' => ∃ vs, SqT K H' a vs ∧ RPs K H' xs vs, fun i H' x H'' => ∃ T d y, x = .ref T ∧ H' T = none ∧ H'' = upd H' T (.tup [.int (i : Nat), y]) ∧ xs[i]? = some d ∧ RP K H' d y, ⟨?_, ?_, ?_⟩, fun m' S' H' p s c => ?_, fun i x m' S' H' H'' hi p s c y => ?_⟩
  · rintro i H' hi ⟨vs, h1, h2⟩
    rw [enumL_len] at hi
    have hi' : i < vs.length := by rw [← h2.len]; exact hi
    exact ⟨vs, vs[i], h1, List.getElem?_eq_getElem hi'⟩
  · rintro H' ⟨vs, h1, h2⟩
    exact ⟨vs, h1, by rw [enumL_len, ← h2.len]; exact Nat.le_refl _⟩
  · rintro i H' x H'' hi ⟨vs, h1, h2⟩ ⟨T, y, e1, e2, e3, e4⟩
    obtain ⟨d, e5, r⟩ := h2.at' (e4 vs h1)
    exact ⟨T, d, y, e1, e2, e3, e5, r⟩
  · obtain ⟨vs, h1, h2⟩ := h m' S' H' p s c
    rw [if_neg Bool.false_ne_true] at h1
    exact ⟨vs, h1, h2⟩
  · obtain ⟨T, d, y, rfl, e2, rfl, e5, r⟩ := y
    obtain ⟨q1, q2⟩ := rp_pair e2 (RP.int (K := K) (H := H') (i : Nat)) r
    refine ⟨_, enumL_at 0 xs i d e5, q1, ?_⟩
    rw [Nat.zero_add]
    exact q2
theorem zipL_at : ∀ (xs ys : List PyData) (i : Nat) (d e : PyData), xs[i]? = some d → ys[i]? = some e → (zipL xs ys)[i]? = some (.tuple [d, e])
  | [], _, _, _, _, h, _ => by simp at h
  | _ :: _, [], _, _, _, _, h => by simp at h
  | x :: xs, y :: ys, 0, d, e, h, h' => by simp at h h'; subst h h'; rfl
  | x :: xs, y :: ys, i + 1, d, e, h, h' => zipL_at xs ys i d e (by simpa using h) (by simpa using h')
theorem zipL_len : ∀ (xs ys : List PyData), (zipL xs ys).length = min xs.length ys.length
  | [], ys => by simp [zipL]
  | _ :: _, [] => by simp [zipL]
  | x :: xs, y :: ys => by
    show (zipL xs ys).length + 1 = min (xs.length + 1) (ys.length + 1)
    rw [zipL_len]
    omega
theorem chk_app {gs gs' : List Nat} {S S' : Sto} (h : chk (gs ++ gs') S S' = true) : chk gs S S' = true ∧ chk gs' S S' = true := by
  unfold chk at h
  rw [List.all_append, Bool.and_eq_true] at h
  exact h
theorem wk_zip {K : Frag} {a b : Addr} {xs ys : List PyData} {gs gs' : List Nat} {m : Mp} {S : Sto} {H : Hp} (h : SqAt K true a xs gs m S H) (h' : SqAt K true b ys gs' m S H) : Wk K (zipL xs ys, gs ++ gs') m S H (Itz K a b) := by
  refine ⟨fun H' => (∃ vs, SqL K H' a vs ∧ RPs K H' xs vs) ∧ ∃ vs, SqL K H' b vs ∧ RPs K H' ys vs, fun i H' x H'' => ∃ T d e y z, x = .ref T ∧ H' T = none ∧ H'' = upd H' T (.tup [y, z]) ∧ xs[i]? = some d ∧ RP K H' d y ∧ ys[i]? = some e ∧ RP K H' e z, ⟨?_, ?_, ?_⟩, fun m' S' H' p s c => ?_, fun i x m' S' H' H'' hi p s c y => ?_⟩
  · rintro i H' hi ⟨⟨vs, h1, h2⟩, ws, h3, h4⟩
    rw [zipL_len] at hi
    have hi' : i < vs.length := by rw [← h2.len]; omega
    have hi'' : i < ws.length := by rw [← h4.len]; omega
    exact ⟨vs, ws, vs[i], ws[i], h1, h3, List.getElem?_eq_getElem hi', List.getElem?_eq_getElem hi''⟩
  · rintro H' ⟨⟨vs, h1, h2⟩, ws, h3, h4⟩
    exact ⟨vs, ws, h1, h3, by rw [zipL_len, ← h2.len, ← h4.len]; omega⟩
  · rintro i H' x H'' hi ⟨⟨vs, h1, h2⟩, ws, h3, h4⟩ ⟨T, y, z, e1, e2, e3, e4, e5⟩
    obtain ⟨d, e6, r⟩ := h2.at' (e4 vs h1)
    obtain ⟨e, e7, r'⟩ := h4.at' (e5 ws h3)
    exact ⟨T, d, e, y, z, e1, e2, e3, e6, r, e7, r'⟩
  · obtain ⟨c1, c2⟩ := chk_app c
    obtain ⟨vs, h1, h2⟩ := h m' S' H' p s c1
    obtain ⟨ws, h3, h4⟩ := h' m' S' H' p s c2
    rw [if_pos rfl] at h1 h3
    exact ⟨⟨vs, h1, h2⟩, ws, h3, h4⟩
  · obtain ⟨T, d, e, y, z, rfl, e2, rfl, e5, r, e6, r'⟩ := y
    obtain ⟨q1, q2⟩ := rp_pair e2 r r'
    exact ⟨_, zipL_at xs ys i d e e5 e6, q1, q2⟩
theorem wk_zipT {K : Frag} {a b : Addr} {xs ys : List PyData} {gs gs' : List Nat} {m : Mp} {S : Sto} {H : Hp} (h : SqAt K false a xs gs m S H) (h' : SqAt K false b ys gs' m S H) : Wk K (zipL xs ys, gs ++ gs') m S H (RZ.ItzT K a b) := by
  refine ⟨fun H' => (∃ vs, SqT K H' a vs ∧ RPs K H' xs vs) ∧ ∃ vs, SqT K H' b vs ∧ RPs K H' ys vs, fun i H' x H'' => ∃ T d e y z, x = .ref T ∧ H' T = none ∧ H'' = upd H' T (.tup [y, z]) ∧ xs[i]? = some d ∧ RP K H' d y ∧ ys[i]? = some e ∧ RP K H' e z, ⟨?_, ?_, ?_⟩, fun m' S' H' p s c => ?_, fun i x m' S' H' H'' hi p s c y => ?_⟩
  · rintro i H' hi ⟨⟨vs, h1, h2⟩, ws, h3, h4⟩
    rw [zipL_len] at hi
    have hi' : i < vs.length := by rw [← h2.len]; omega
    have hi'' : i < ws.length := by rw [← h4.len]; omega
    exact ⟨vs, ws, vs[i], ws[i], h1, h3, List.getElem?_eq_getElem hi', List.getElem?_eq_getElem hi''⟩
  · rintro H' ⟨⟨vs, h1, h2⟩, ws, h3, h4⟩
    exact ⟨vs, ws, h1, h3, by rw [zipL_len, ← h2.len, ← h4.len]; omega⟩
  · rintro i H' x H'' hi ⟨⟨vs, h1, h2⟩, ws, h3, h4⟩ ⟨T, y, z, e1, e2, e3, e4, e5⟩
    obtain ⟨d, e6, r⟩ := h2.at' (e4 vs h1)
    obtain ⟨e, e7, r'⟩ := h4.at' (e5 ws h3)
    exact ⟨T, d, e, y, z, e1, e2, e3, e6, r, e7, r'⟩
  · obtain ⟨c1, c2⟩ := chk_app c
    obtain ⟨vs, h1, h2⟩ := h m' S' H' p s c1
    obtain ⟨ws, h3, h4⟩ := h' m' S' H' p s c2
    rw [if_neg Bool.false_ne_true] at h1 h3
    exact ⟨⟨vs, h1, h2⟩, ws, h3, h4⟩
  · obtain ⟨T, d, e, y, z, rfl, e2, rfl, e5, r, e6, r'⟩ := y
    obtain ⟨q1, q2⟩ := rp_pair e2 r r'
    exact ⟨_, zipL_at xs ys i d e e5 e6, q1, q2⟩
theorem upFrom_len : ∀ (n : Nat) (i : Int), (upFrom i n).length = n
  | 0, _ => rfl
  | n + 1, i => congrArg (· + 1) (upFrom_len n (i + 1))
theorem upFrom_at : ∀ (n : Nat) (i : Int) (j : Nat), j < n → (upFrom i n)[j]? = some (i + j)
  | 0, _, _, h => absurd h (Nat.not_lt_zero _)
  | n + 1, i, 0, _ => by simp [upFrom]
  | n + 1, i, j + 1, h => by
    show (upFrom (i + 1) n)[j]? = _
    rw [upFrom_at n (i + 1) j (by omega)]
    congr 1
    omega
theorem wk_rng {K : Frag} {lo : Int} {n : Nat} {m : Mp} {S : Sto} {H : Hp} : Wk K ((upFrom lo n).map .int, []) m S H (Itr lo n) := by
  refine ⟨fun _ => True, YFn fun i => .int (lo + i), ?_, fun _ _ _ _ _ _ => trivial, fun i x m' S' H' H'' hi p s c y => ?_⟩
  · show Walk _ ((upFrom lo n).map PyData.int).length _ _
    rw [List.length_map, upFrom_len]
    exact walk_range
  · obtain ⟨rfl, rfl⟩ := y
    have hi' : i < ((upFrom lo n).map PyData.int).length := hi
    rw [List.length_map, upFrom_len] at hi'
    exact ⟨.int (lo + i), by rw [List.getElem?_map, upFrom_at n lo i hi']; rfl, .refl, .int _⟩
theorem pi_any {tg l : Expr} {tl : TE} (hl : PE X l tl) : PI X tg l (fun σ H R => tl σ H fun x H1 => ∃ a, x = .ref a ∧ (((∃ xs, SqL X.K H1 a xs) ∧ R (Itl X.K a) H1) ∨ ((∃ xs, SqT X.K H1 a xs) ∧ R (Itt X.K a) H1))) := by
  refine ⟨fun pins s σ H R I h => ?_⟩
  refine thn (hl.run pins s σ H _ I h) fun v s1 ⟨x, H1, I1, r1, a, e, q1⟩ => ?_
  subst e
  cases r1
  have frs : ∀ b ∈ [s1.heap.objs.size], FpOk X pins H1 b := fun b hb => by
    have e : b = s1.heap.objs.size := by simpa using hb
    subst e
    exact I1.fpOk (Nat.le_refl _) (I1.hok.fresh (Nat.le_refl _))
  rcases q1 with ⟨⟨xs, hq⟩, q⟩ | ⟨⟨xs, hq⟩, q⟩
  · obtain ⟨its, rv, p, hz⟩ := I1.list hq
    exact wpAny_pyIter_list p.isList ⟨_, _, _, _, H1, rfl, I1.kept (t' := s1.toks) fun b o e => Heap.get?_push_of_some _ e, turn_list a _, ⟨_, Heap.get?_push_size _ rfl, rfl, rfl⟩, frs, q⟩
  · obtain ⟨its, rv, p, hz⟩ := I1.tuple hq
    exact wpAny_pyIter_tuple (show s1.heap.IsTuple a its.toArray from p) ⟨_, _, _, _, H1, rfl, I1.kept (t' := s1.toks) fun b o e => Heap.get?_push_of_some _ e, turn_tuple a _, ⟨_, Heap.get?_push_size _ rfl, rfl, rfl⟩, frs, q⟩
theorem si_e {tg e : Expr} {a : E} (ha : SE G c e a) (p : noSet e = true) : SI G c tg e (.e a) := by
  refine ⟨p, fun k X g C => (pi_any (ha k X g C)).imp fun σ H Rk ⟨ρ, m, S, h, d⟩ => ?_⟩
  refine dE_of h (Den.bind (show Den g _ ((ev g.F a ρ S).bind fun v S1 => R.opt (((view S1 v).bind seq?).map fun xs => (xs, guard v)) S1) m S H _ from d)) fun v m1 S1 H1 p1 s1 d1 x rx => ?_
  obtain ⟨q, e1, d2⟩ := d1.opt s1
  obtain ⟨xs, e2, rfl⟩ := Option.map_eq_some_iff.mp e1
  obtain ⟨y, e3, e4⟩ := Option.bind_eq_some_iff.mp e2
  obtain ⟨l, b, rfl, sq⟩ := sq_of rx e3 e4
  obtain ⟨vs, h1, h2⟩ := sq.now s1
  refine ⟨b, rfl, ?_⟩
  rw [C.K] at d2 sq h1
  cases l with
  | true => exact .inl ⟨⟨vs, by simpa using h1⟩, d2 _ (wk_list sq)⟩
  | false => exact .inr ⟨⟨vs, by simpa using h1⟩, d2 _ (wk_tup sq)⟩
theorem si_enum {elts : List Expr} {kk : Nat} {tpos p pos : Pos} {e : Expr} {a : E} (hf : ("enumerate" : Str) ∈ G.free) (hg : glb c.sc "enumerate" = true) (ha : SE G c e a) (pl : plainE e = true) :
    SI G c (.Tuple elts kk tpos) (.Call (.Name "enumerate" p) [e] [] pos) (.enum a) := by
  refine ⟨rfl, fun k X g C => (pi_enumT (C.gl hg) (C.wd.free _ hf) (pa1 (ha k X g C) pl) (plainE_is pl _ _)).imp fun σ H Rk ⟨ρ, m, S, h, d⟩ => ?_⟩
  refine dE_of h (Den.bind (show Den g _ ((ev g.F a ρ S).bind fun v S1 => R.opt (((view S1 v).bind seq?).map fun xs => (enumL 0 xs, guard v)) S1) m S H _ from d)) fun v m1 S1 H1 p1 s1 d1 x rx => ?_
  obtain ⟨q, e1, d2⟩ := d1.opt s1
  obtain ⟨xs, e2, rfl⟩ := Option.map_eq_some_iff.mp e1
  obtain ⟨y, e3, e4⟩ := Option.bind_eq_some_iff.mp e2
  obtain ⟨l, b, rfl, sq⟩ := sq_of rx e3 e4
  obtain ⟨vs, h1, h2⟩ := sq.now s1
  refine ⟨b, vs, rfl, ?_⟩
  rw [C.K] at d2 sq h1
  cases l with
  | true => exact .inl ⟨by simpa using h1, d2 _ (wk_enum sq)⟩
  | false => exact .inr ⟨by simpa using h1, d2 _ (wk_enumT sq)⟩
theorem si_rng1 {tg : Expr} {p pos : Pos} {e : Expr} {a : E} (hf : ("range" : Str) ∈ G.free) (hg : glb c.sc "range" = true) (ha : SE G c e a) (pl : plainE e = true) : SI G c tg (.Call (.Name "range" p) [e] [] pos) (.rng1 a) := by
  refine ⟨rfl, fun k X g C => (pi_range1 (C.gl hg) (C.wd.free _ hf) (pa1 (ha k X g C) pl) (plainE_is pl _ _)).imp fun σ H Rk ⟨ρ, m, S, h, d⟩ => ?_⟩
  refine dE_of h (Den.bind (show Den g _ ((ev g.F a ρ S).bind fun v S1 => match v with
    | .d (.int i) => R.opt ((range2 0 i).map fun xs => (xs, [])) S1
    | _ => .no) m S H _ from d)) fun v m1 S1 H1 p1 s1 d1 x rx => ?_
  cases v with
  | loc n => exact d1.elim
  | d y =>
    cases y with
    | int i =>
      cases rx
      obtain ⟨q, e1, d2⟩ := Den.opt d1 s1
      obtain ⟨xs, e2, rfl⟩ := Option.map_eq_some_iff.mp e1
      unfold range2 at e2
      split at e2
      · rename_i hr
        cases e2
        simp only [rangeOk, Bool.and_eq_true, decide_eq_true_eq] at hr
        exact ⟨i, rfl, hr.2.1, hr.2.2, d2 _ (by have := wk_rng (K := g.K) (lo := 0) (n := i.toNat) (m := m1) (S := S1) (H := H1); rw [Int.sub_zero]; exact this)⟩
      · cases e2
    | _ => exact d1.elim
theorem si_rng2 {tg : Expr} {p pos : Pos} {e e' : Expr} {a b : E} (hf : ("range" : Str) ∈ G.free) (hg : glb c.sc "range" = true) (ha : SE G c e a) (hb : SE G c e' b) (pl : plainE e = true) (pl' : plainE e' = true) : SI G c tg (.Call (.Name "range" p) [e, e'] [] pos) (.rng2 a b) := by
  refine ⟨rfl, fun k X g C => (pi_range2 (C.gl hg) (C.wd.free _ hf) (pa2 (ha k X g C) (hb k X g C) pl pl') ((plainE_is pl _ _).trans (by rw [plainE_is pl']; rfl)) (plainE_is pl' _ _)).imp fun σ H Rk ⟨ρ, m, S, h, d⟩ => ?_⟩
  refine dE_of h (Den.bind (show Den g _ ((ev g.F a ρ S).bind fun v S1 => (ev g.F b ρ S1).bind fun w S2 => match v, w with
    | .d (.int i), .d (.int j) => R.opt ((range2 i j).map fun xs => (xs, [])) S2
    | _, _ => .no) m S H _ from d)) fun v m1 S1 H1 p1 s1 d1 x rx => ?_
  refine dE_of (h.to p1 s1) d1.bind fun w m2 S2 H2 p2 s2 d2 y ry => ?_
  split at d2
  · rename_i i j
    cases rx
    cases ry
    obtain ⟨q, e1, d3⟩ := Den.opt d2 s2
    obtain ⟨xs, e2, rfl⟩ := Option.map_eq_some_iff.mp e1
    unfold range2 at e2
    split at e2
    · rename_i hr
      cases e2
      simp only [rangeOk, Bool.and_eq_true, decide_eq_true_eq] at hr
      exact ⟨i, j, rfl, ⟨hr.1.1, hr.1.2, hr.2.1, hr.2.2⟩, d3 _ wk_rng⟩
    · cases e2
  · exact d2.elim
end
end In
/-! part InI -/
set_option Elab.async false
set_option linter.all false
set_option maxRecDepth 100000
set_option maxHeartbeats 1000000
/-! Own calls, comprehensions. -/
namespace In
open PySem PySem.Spec PyProof.Rows L2
section
variable {G : Glo} {c : Cc} {X : Cx} {g : Gx} {k : Nat}
/-! ### own calls -/
theorem run_fnG {j : Nat} {f : Addr} {fd : FuncData} {ps : List Str} {sp : Sp} {ds : List Value} {dvs : List V} {E : L2.St → XK} {pins : List (Addr × Obj)} {σ : L2.St} {H : Hp} {s : Shared} {Q : VK} {us : List Value} {vs : List V}
    (F : FnG X.prog X.w X.K X.mg X.base j f fd ps sp) (hr : RoomG j X.A) (hb : Binds X.K fd ps ds) (hd : Vals dvs ds) (hx : PassesAt (L2.CX X.prog X.w) X σ (E σ))
    (I : Inv X pins σ H s) (r : Vals vs us) (h : sp (vs ++ dvs) H Q (E σ)) : wpAny (model X.prog X.w) X.A (call (.ref f) us) (EP X pins σ Q) X.xe s := by
  have r2 : Vals (vs ++ dvs) (us ++ ds) := r.append hd
  refine wpAny_call (codeAny_mono (F.run X.A X.stack s H ⟨us, []⟩ (us ++ ds) (vs ++ dvs) Q (E σ) hr I.env0 (hb s us I.kIn (by rw [← r2.length]; exact F.len _ _ _ _ h)) r2 h) fun res s' hq => ?_)
  cases res with
  | error e => exact hx pins H s e s' I hq
  | ok fl =>
    cases fl with
    | ret u => exact I.after hq
    | _ => exact hq.elim
theorem s_call {x : Str} {D : Dfn} {p pos : Pos} {e : Expr} {es : List Expr} {as : Es} (hd : G.defs.lookup x = some D) (hg : glb c.sc x = true) (hl : decide ((e :: es).length ≤ D.ar ∧ D.ar ≤ (e :: es).length + D.dfl.length) = true) (ha : SA G c (e :: es) as) :
    SE G c (.Call (.Name x p) (e :: es) [] pos) (.call D.ix as (D.dfl.drop (D.dfl.length + (e :: es).length - D.ar))) := fun k X g C => by
  obtain ⟨h1, h2⟩ := of_decide_eq_true hl
  obtain ⟨f, fd, ps, hm, hk, hb, F⟩ := C.wd.defs x D hd
  obtain ⟨ds, dvs, hb, hv, hr⟩ := hb (D.dfl.length + (e :: es).length - D.ar) (by omega)
  have F' := F k rfl
  have hst : nost (e :: es) = true := ha.1
  simp only [nost, Bool.and_eq_true] at hst
  refine ⟨fun pins s σ H Q I ⟨ρ, m, S, h, d⟩ => ?_⟩
  refine wpAny_Call_Name_kw (ld_glob I (C.gl hg) hm ?_ (glb_is hg).2)
  have hpa : dEs g c.N.length (e :: es).length as σ H fun vs H1 => spOf X.K X.mg G.excs g.F D.ix D.ar (vs ++ dvs) H1 Q (WE g.W σ) := by
    refine ⟨ρ, m, S, h, Den.mono (Den.bind (show Den g _ ((evs g.F as ρ S).bind fun vs S1 => (g.F D.ix (vs ++ (D.dfl.drop (D.dfl.length + (e :: es).length - D.ar)).map .d) S1).bind fun x S2 => .ok (Vl.d x) S2) m S H _ from d)) fun ls m1 S1 H1 p1 s1 d1 xs hxl rs => ?_⟩
    have hr1 := hr H1
    refine ⟨?_, ls ++ (D.dfl.drop (D.dfl.length + (e :: es).length - D.ar)).map .d, m1, S1, ?_, ?_, ?_⟩
    · rw [List.length_append, hxl, ← hr1.len, List.length_drop]; omega
    · rw [← C.K] at hr1 ⊢; exact rs.app (RVs.data hr1)
    · rw [← C.K]; exact s1
    · have d2 := d1.bind
      rw [← C.K, ← C.mg, ← C.ex]
      generalize g.F D.ix (ls ++ (D.dfl.drop (D.dfl.length + (e :: es).length - D.ar)).map .d) S1 = r at d2
      cases r with
      | no => exact d2.elim
      | ok y S2 => exact fun m2 H2 p2 s2 z rz => d2 m2 H2 p2 s2 m2 H2 .refl s2 z rz
      | ex cn y S2 => exact fun m2 H2 cls dd σ' _ p2 s2 ex => d2 m2 H2 cls dd σ h.len p2 s2 ex
  exact PySem.W.callWith_K (h₀ := X.base) I.ok.mod.kin hk (thn ((ha.2 k X g C).1.run pos pins s σ H _ I hpa) fun us s1 ⟨vs, H1, I1, r, q⟩ => ⟨I1.kIn, run_fnG F' C.rm hb hv (C.tk σ) I1 r q⟩) (plainE_is hst.1 _ _) (nost_is _ _ hst.2)
/-! ### comprehensions -/
theorem wipe_set' {σ : L2.St} {i : Nat} {o o' : Option V} : ∀ vs : List Nat, (L2.wipe (σ.set i o) vs).set i o' = (L2.wipe σ vs).set i o'
  | [] => by unfold L2.wipe; rw [List.set_set]
  | v :: vs => by
    unfold L2.wipe
    by_cases e : i = v
    · subst e
      rw [List.set_set, List.set_set, wipe_set' vs]
    · rw [List.set_comm _ _ (Ne.symm e), wipe_set' vs, List.set_comm _ _ e]
theorem wipe_wipe {σ : L2.St} : ∀ vs : List Nat, L2.wipe (L2.wipe σ vs) vs = L2.wipe σ vs
  | [] => rfl
  | v :: vs => by
    show (L2.wipe ((L2.wipe σ vs).set v Option.none) vs).set v Option.none = (L2.wipe σ vs).set v Option.none
    rw [wipe_set' vs, wipe_wipe vs]
/-- the block of a comprehension -/
def Cc.blk (c : Cc) (scope : Scope) : Cc := ⟨c.N, relS scope c.sc, fun x => scope.names.lookup x == some .cell⟩
def Gx.calm (g : Gx) : Gx := ⟨g.K, g.mg, fun _ _ _ _ => False, g.F, g.ex⟩
theorem Ctx.blk (C : Ctx G c X g k) (scope : Scope) (s : Shared) (H : Hp) (Ca : Addr) (cl : List (Str × Addr)) (fp : List Addr) : Ctx G (c.blk scope) (X.blk s H scope (compEnvC scope cl Ca X.env) fp) g.calm k where
  N := C.N
  nd := C.nd
  sc := by
    show relS scope X.env.scope = relS scope c.sc
    rw [C.sc]
  K := C.K
  mg := C.mg
  ex := C.ex
  calm := C.calm
  rm := C.rm
  wd := C.wd
  st := fun x h => h
  tk := fun σ pins H' s' e s'' I q => by
    obtain ⟨_, _, _, _, _, _, _, _, _, _, _, _, z⟩ := q
    exact z.elim
theorem keeps_side {H : Hp} {D : Addr} {u : HO} (h : (∃ xs, H D = some (.lst xs)) ∨ ∃ xs, H D = some (.dK xs)) : Keeps H (upd H D u) := by
  refine ⟨fun b xs e => ?_, fun b o xs e => ?_⟩ <;>
  · by_cases hb : b = D
    · subst hb
      rcases h with ⟨ys, h⟩ | ⟨ys, h⟩ <;> (rw [h] at e; cases e)
    · rw [upd_ne hb]; exact e
theorem Sok.side {K : Frag} {m : Mp} {S : Sto} {H : Hp} {D : Addr} {u : HO} (s : Sok K m S H) (h : (∃ xs, H D = some (.lst xs)) ∨ ∃ xs, H D = some (.dK xs)) (ne : ∀ n, n < S.length → m n ≠ D) : Sok K m S (upd H D u) :=
  ⟨fun n cc e => (s.at_ n cc e).keep (keeps_side h) fun v hv => by rw [upd_ne (ne n (List.getElem?_eq_some_iff.mp e).1)]; exact hv, s.inj⟩
theorem Post.side {m m' : Mp} {S S' : Sto} {H H' : Hp} {D : Addr} {u : HO} (p : Post m S H m' S' H') (h : H D = none) : Post m S H m' S' (upd H' D u) :=
  ⟨⟨fun b xs e => by rw [upd_ne (ne_of_none e h)]; exact p.k.t b xs e, fun b o xs e => by rw [upd_ne (ne_of_none e h)]; exact p.k.f b o xs e⟩, p.len, p.map, p.new, fun b v e hb => by rw [upd_ne (ne_of_none e h)]; exact p.obj b v e hb⟩
theorem Post.apart {m m' : Mp} {S S' : Sto} {H H' : Hp} {D : Addr} {u : HO} (p : Post m S H m' S' H') (h : H D = some u) (ne : ∀ n, n < S.length → m n ≠ D) : H' D = some u ∧ ∀ n, n < S'.length → m' n ≠ D := by
  refine ⟨p.obj D u h ne, fun n hn e => ?_⟩
  by_cases hs : n < S.length
  · rw [p.map n hs] at e; exact ne n hs e
  · have := p.new n (Nat.le_of_not_lt hs) hn
    rw [e, h] at this; cases this
def STs (G : Glo) (c : Cc) (ifs : List Expr) (cs : Es) : Prop := ∀ k X g, Ctx G c X g k → PTs X ifs fun σ H Q => ∃ ρ m S, At g c.N.length σ H ρ m S ∧ Den g c.N.length (evt g.F cs ρ S) m S H fun b _ _ H' => Q b H'
theorem sts_nil : STs G c [] .nil := fun k X g C => ⟨fun pins s σ H Q I ⟨ρ, m, S, h, d⟩ => pts_nil.run pins s σ H Q I (d m H .refl h.sok)⟩
theorem sts_one {e : Expr} {a : E} (h : ST G c e a) : STs G c [e] (.cons a .nil) := fun k X g C => ⟨fun pins s σ H Q I ⟨ρ, m, S, h0, d⟩ => (pts_one (h k X g C)).run pins s σ H Q I ⟨ρ, m, S, h0, d⟩⟩
theorem lc_t {elt tg iter : Expr} {ifs : List Expr} {scope : Scope} {pos : Pos} {it : It} {t : T} {cs : Es} {a : E} {ws : List Nat} {wi : TI} (C : Ctx G c X g k) (hsl' : ∀ i ∈ slT t, i ∈ ws) (hwi : wi = dI g c.N.length it) : ∀ σ H (Q Qx : VK), (∀ z H1, (∃ a u, z = .ref a ∧ H1 a = some u ∧ Mut (some u) ∧ ∀ o, Q z (upd H1 a (.frz o u))) → Qx z H1) → dE g c.N.length (.lc ws t it cs a) σ H Q →
    tLc wi (gG X.K t) (fun σ H Q => ∃ ρ m S, At g.calm c.N.length σ H ρ m S ∧ Den g.calm c.N.length (evt g.F cs ρ S) m S H fun b _ _ H1 => Q b H1) (dP g.calm c.N.length a) ws σ H Qx := by
  intro σ H Q Qx hx ⟨ρ, m, S, h, d⟩
  subst hwi
  simp only [ev] at d
  refine ⟨ρ, m, S, h, d.bind.mono fun p m1 S1 H1 p1 s1 d1 J wk D hD => ?_⟩
  obtain ⟨xs, gs⟩ := p
  have a1 := h.to p1 s1
  clear d h p1
  have d2 := (d1.bind.calm g.calm rfl c.N.length)
  clear d1
  obtain ⟨Gd, Y, w, hGd, hY⟩ := wk
  rw [C.K] at s1 hGd hY
  dsimp only at w hGd hY d2 hD
  refine lc_it (g := gG X.K t) (te := dP g.calm c.N.length a) (tt := fun σ H Q => ∃ ρ m S, At g.calm c.N.length σ H ρ m S ∧ Den g.calm c.N.length (evt g.F cs ρ S) m S H fun b _ _ H1 => Q b H1) (vs := ws) (σ := σ) w (fun i H' => ∃ m' S' acc accv, Post m1 S1 H1 m' S' H' ∧ Sok X.K m' S' H' ∧ (∀ n, n < S'.length → m' n ≠ D) ∧ H' D = some (.lst accv) ∧ RPs X.K H' acc accv ∧ chk gs S1 S' = true ∧
    Den g.calm c.N.length (lcL (chk gs S1) (fun x => put t x (wipe ρ ws)) (fun ρ' S' => (evt g.F cs ρ' S').calm) (fun ρ' S' => ((ev g.F a ρ' S').bind fun v S2 => shut S2 v).calm) (xs.drop i) acc S') m1 S1 H1 fun ys m2 S2 H2 => Den g c.N.length (.ok (.d (.list ys)) S2) m2 S2 H2 (QV g Q)) ?_ ?_ ?_ ?_
  · have n1 : ∀ n, n < S1.length → m1 n ≠ D := fun n hn e => by
      obtain ⟨u, hu⟩ := s1.there hn
      rw [e, hD] at hu; cases hu
    exact ⟨m1, S1, [], [], post_new hD, s1.new hD, n1, upd_same, .nil, chk_same _ _, d2⟩
  · rintro i H' hi ⟨m', S', acc, accv, p', s', _, _, _, ck, _⟩
    exact hGd m' S' H' p' s' ck
  · rintro i x H' H'' hi ⟨m', S', acc, accv, p', s', ne, hHD, racc, ck, dd⟩ y
    obtain ⟨d, e1, ext, rd⟩ := hY i x m' S' H' H'' hi p' s' ck y
    have p2 : Post m' S' H' m' S' H'' := ext.post
    have s2 : Sok X.K m' S' H'' := ext.sok s'
    have hi' : i < xs.length := hi
    have ed : xs.drop i = d :: xs.drop (i + 1) := by
      rw [List.drop_eq_getElem_cons hi']
      congr 1
      rw [List.getElem?_eq_getElem hi'] at e1
      exact Option.some.inj e1
    rw [ed] at dd
    simp only [lcL] at dd
    cases ep : put t d (wipe ρ ws) with
    | none => rw [ep] at dd; exact dd.elim
    | some ρ' =>
      rw [ep] at dd
      simp only at dd
      have re : Renv X.K m' S' H'' (wipe ρ ws) (L2.wipe σ ws) := by
        have := a1.env
        rw [C.K] at this
        exact ((this.post p').post p2).wipe ws
      refine ⟨d, wipe ρ ws, ρ', m', S', rd, re, ep, fun σ2 l2 r2 w2 => ⟨(w2 ws hsl').trans (wipe_wipe ws), ?_⟩⟩
      have hl2 : σ2.length = c.N.length := by rw [l2, wipe_length]; exact a1.len
      have a2 : At g.calm c.N.length σ2 H'' ρ' m' S' := ⟨hl2, by show Renv g.K _ _ _ _ _; rw [C.K]; exact r2, by show Sok g.K _ _ _; rw [C.K]; exact s2⟩
      obtain ⟨hHD2, ne2⟩ := p2.apart hHD ne
      have q2 := p'.trans s' p2
      cases ec : evt g.F cs ρ' S' with
      | no => rw [ec] at dd; exact dd.elim
      | ex _ _ _ => rw [ec] at dd; exact dd.elim
      | ok b S3 =>
        rw [ec] at dd
        simp only [R.calm_ok, R.bind_ok] at dd
        refine ⟨ρ', m', S', a2, ?_⟩
        show Den _ _ (evt g.F cs ρ' S') _ _ _ _
        rw [ec]
        intro m3 H3 p3 s3
        have s3' : Sok X.K m3 S3 H3 := by rw [← C.K]; exact s3
        obtain ⟨hHD3, ne3⟩ := p3.apart hHD2 ne2
        have q3 := q2.trans s2 p3
        have racc3 := RPs.keep p3.k _ _ (RPs.keep p2.k _ _ racc)
        cases b with
        | false =>
          simp only [Bool.false_eq_true, if_false] at dd ⊢
          split at dd
          · rename_i ck3
            exact ⟨m3, S3, acc, accv, q3, s3', ne3, hHD3, racc3, ck3, dd⟩
          · exact dd.elim
        | true =>
          simp only [if_true] at dd ⊢
          have a3 : At g.calm c.N.length σ2 H3 ρ' m3 S3 := a2.to p3 s3
          cases ee : (ev g.F a ρ' S3).bind fun v S2 => shut S2 v with
          | no => rw [ee] at dd; exact dd.elim
          | ex _ _ _ => rw [ee] at dd; exact dd.elim
          | ok yd S4 =>
            rw [ee] at dd
            simp only [R.calm_ok, R.bind_ok] at dd
            refine ⟨ρ', m3, S3, a3, ?_⟩
            show Den _ _ ((ev g.F a ρ' S3).bind fun v S2 => shut S2 v) _ _ _ _
            rw [ee]
            intro m4 H4 p4 s4 z rz
            have s4' : Sok X.K m4 S4 H4 := by rw [← C.K]; exact s4
            have rz' : RP X.K H4 yd z := by rw [← C.K]; exact rz
            obtain ⟨hHD4, ne4⟩ := p4.apart hHD3 ne3
            have q4 := q3.trans s3' p4
            have racc4 := RPs.keep p4.k _ _ racc3
            split at dd
            · rename_i hck
              simp only [Bool.and_eq_true, decide_eq_true_eq] at hck
              have ks := keeps_side (u := .lst (accv ++ [z])) (.inl ⟨_, hHD4⟩)
              exact ⟨accv, hHD4, by rw [← racc4.len, sizeLine_eq]; exact hck.1, m4, S4, acc ++ [yd], accv ++ [z], q4.side hD, s4'.side (.inl ⟨_, hHD4⟩) ne4, ne4, upd_same, RPs.keep ks _ _ (racc4.app (.one rz')), hck.2, dd⟩
            · exact dd.elim
  · rintro H' ⟨m', S', acc, accv, p', s', ne, hHD, racc, ck, dd⟩
    have en : xs.drop xs.length = [] := List.drop_length
    rw [en] at dd
    refine hx _ _ ⟨D, .lst accv, rfl, hHD, trivial, fun o => ?_⟩
    have ks := keeps_side (u := .frz o (.lst accv)) (.inl ⟨_, hHD⟩)
    have s5 : Sok X.K m' S' (upd H' D (.frz o (.lst accv))) := s'.side (.inl ⟨_, hHD⟩) ne
    exact dd m' _ (p'.side hD) (by show Sok g.K _ _ _; rw [C.K]; exact s5) m' _ .refl (by rw [C.K]; exact s5) _ (by show RP g.K _ _ _; rw [C.K]; exact .lst ⟨o, upd_same⟩ (RPs.keep ks _ _ racc))
theorem s_lc {elt tg iter : Expr} {ifs : List Expr} {scope : Scope} {own : List (Str × Nat)} {pos : Pos} {it : It} {t : T} {cs : Es} {a : E} (hok : blkC c.N c.sc scope own = true) (hi : SI G c tg iter it) (hg : SG G (c.blk scope) tg t) (hsl : (slT t).all (fun i => (own.map (·.2)).contains i) = true)
    (ht : STs G (c.blk scope) ifs cs) (he : SE G (c.blk scope) elt a) : SE G c (.ListComp elt [⟨tg, iter, ifs, 0⟩] scope pos) (.lc (own.map (·.2)) t it cs a) := fun k X g C => by
  have ok : BlkOk X.N X.env.scope scope own := blkOk_by (by rw [C.N, C.sc]; exact hok)
  have h1 := pe_lc (pos := pos) (g := gG X.K t) (te := dP g.calm c.N.length a) (tt := fun σ H Q => ∃ ρ m S, At g.calm c.N.length σ H ρ m S ∧ Den g.calm c.N.length (evt g.F cs ρ S) m S H fun b _ _ H1 => Q b H1) C.calm (by rw [C.N]; exact C.nd) (hi.2 k X g C) ok (fun s H Ca cl fp => hg k _ _ (C.blk scope s H Ca cl fp)) (fun s H Ca cl fp => ht k _ _ (C.blk scope s H Ca cl fp)) (fun s H Ca cl fp => p_of (C.blk scope s H Ca cl fp) (he k _ _ (C.blk scope s H Ca cl fp))) (fun x => noSet_it hi.1 _ x)
  have hsl' : ∀ i ∈ slT t, i ∈ own.map (·.2) := fun i hi => by
    have := List.all_eq_true.mp hsl i hi
    simpa using this
  refine ⟨fun pins s σ H Q I hd => ?_⟩
  exact thn (h1.run pins s σ H (fun z H1 => ∃ a u, z = .ref a ∧ H1 a = some u ∧ Mut (some u) ∧ ∀ o, Q z (upd H1 a (.frz o u))) I (lc_t (elt := elt) (tg := tg) (iter := iter) (ifs := ifs) (scope := scope) (pos := pos) C hsl' rfl σ H Q _ (fun _ _ z => z) hd)) fun _ _ e => ep_lock e
end
end In
/-! part InJ -/
set_option Elab.async false
set_option linter.all false
set_option maxRecDepth 100000
set_option maxHeartbeats 1000000
/-! Comprehensions of dicts. -/
namespace In
open PySem PySem.Spec PyProof.Rows L2
section
variable {G : Glo} {c : Cc} {X : Cx} {g : Gx} {k : Nat}
theorem RP.key {K : Frag} {H : Hp} {d : PyData} {v : V} (r : RP K H d v) {q : Key} (h : keyOf d = some q) : v = kV q := by
  cases r with
  | int i => cases h; rfl
  | str i => cases h; rfl
  | _ => cases h
theorem putK_len (kvs : List (Key × V)) (k : Key) (v : V) : (putK kvs k v).length ≤ kvs.length + 1 := length_putK kvs k v
theorem s_dc {kx vx tg iter : Expr} {scope : Scope} {own : List (Str × Nat)} {pos : Pos} {it : It} {t : T} {a b : E} (hok : blkC c.N c.sc scope own = true) (hi : SI G c tg iter it) (hg : SG G (c.blk scope) tg t) (hsl : (slT t).all (fun i => (own.map (·.2)).contains i) = true)
    (hk : SE G (c.blk scope) kx a) (he : SE G (c.blk scope) vx b) : SE G c (.DictComp kx vx [⟨tg, iter, [], 0⟩] scope pos) (.dc (own.map (·.2)) t it a b) := fun k X g C => by
  have ok : BlkOk X.N X.env.scope scope own := blkOk_by (by rw [C.N, C.sc]; exact hok)
  have h1 := pe_dc (pos := pos) (g := gG X.K t) (tk := dP g.calm c.N.length a) (tv := dP g.calm c.N.length b) (tt := tYes) C.calm (by rw [C.N]; exact C.nd) (hi.2 k X g C) ok (fun s H Ca cl fp => hg k _ _ (C.blk scope s H Ca cl fp)) (fun s H Ca cl fp => pts_nil)
    (fun s H Ca cl fp => p_of (C.blk scope s H Ca cl fp) (hk k _ _ (C.blk scope s H Ca cl fp))) (fun s H Ca cl fp => p_of (C.blk scope s H Ca cl fp) (he k _ _ (C.blk scope s H Ca cl fp))) (fun x => noSet_it hi.1 _ x)
  have hsl' : ∀ i ∈ slT t, i ∈ own.map (·.2) := fun i hi => by
    have := List.all_eq_true.mp hsl i hi
    simpa using this
  generalize own.map (·.2) = ws at h1 hsl' ⊢
  refine ⟨fun pins s σ H Q I ⟨ρ, m, S, h, d⟩ => ?_⟩
  refine thn (h1.run pins s σ H (fun z H1 => ∃ a u, z = .ref a ∧ H1 a = some u ∧ Mut (some u) ∧ ∀ o, Q z (upd H1 a (.frz o u))) I ?_) fun _ _ e => ep_lock e
  simp only [ev] at d
  refine ⟨ρ, m, S, h, d.bind.mono fun p m1 S1 H1 p1 s1 d1 J wk D hD => ?_⟩
  obtain ⟨xs, gs⟩ := p
  have a1 := h.to p1 s1
  clear d h p1
  have d2 := (d1.bind.calm g.calm rfl c.N.length)
  clear d1
  obtain ⟨Gd, Y, w, hGd, hY⟩ := wk
  rw [C.K] at s1 hGd hY
  dsimp only at w hGd hY d2 hD
  have main : ∃ Pv : Nat → Hp → Prop, Pv 0 (upd H1 D (.dK [])) ∧ (∀ i H, i ≤ xs.length → Pv i H → Gd H) ∧
      (∀ i x H H', i < xs.length → Pv i H → Y i H x H' → gG X.K t x (L2.wipe σ ws) H' fun σ2 H2 => L2.wipe σ2 ws = L2.wipe σ ws ∧
        dP g.calm c.N.length a σ2 H2 fun y H4 => dP g.calm c.N.length b σ2 H4 fun z H5 => ∃ kvs k, y = kV k ∧ H5 D = some (.dK kvs) ∧ kvs.length < sizeLine ∧ Pv (i + 1) (upd H5 D (.dK (putK kvs k z)))) ∧
      ∀ H, Pv xs.length H → ∃ a u, V.ref D = .ref a ∧ H a = some u ∧ Mut (some u) ∧ ∀ o, Q (.ref D) (upd H a (.frz o u)) := by
    refine ⟨fun i H' => ∃ m' S' acc accv, Post m1 S1 H1 m' S' H' ∧ Sok X.K m' S' H' ∧ (∀ n, n < S'.length → m' n ≠ D) ∧ H' D = some (.dK accv) ∧ RPd X.K H' acc accv ∧ chk gs S1 S' = true ∧
      Den g.calm c.N.length (dcL (chk gs S1) (fun x => put t x (wipe ρ ws)) (fun ρ' S' => (((ev g.F a ρ' S').bind fun v S2 => shut S2 v).bind fun kx S2 => ((ev g.F b ρ' S2).bind fun v S3 => shut S3 v).bind fun vx S3 => .ok (kx, vx) S3).calm) (xs.drop i) acc S') m1 S1 H1 fun ys m2 S2 H2 => Den g c.N.length (.ok (.d (.dict ys)) S2) m2 S2 H2 (QV g Q), ?_, ?_, ?_, ?_⟩
    · have n1 : ∀ n, n < S1.length → m1 n ≠ D := fun n hn e => by
        obtain ⟨u, hu⟩ := s1.there hn
        rw [e, hD] at hu; cases hu
      exact ⟨m1, S1, [], [], post_new hD, s1.new hD, n1, upd_same, .nil, chk_same _ _, d2⟩
    · rintro i H' hi ⟨m', S', acc, accv, p', s', _, _, _, ck, _⟩
      exact hGd m' S' H' p' s' ck
    · rintro i x H' H'' hi ⟨m', S', acc, accv, p', s', ne, hHD, racc, ck, dd⟩ y
      obtain ⟨d, e1, ext, rd⟩ := hY i x m' S' H' H'' hi p' s' ck y
      have p2 : Post m' S' H' m' S' H'' := ext.post
      have s2 : Sok X.K m' S' H'' := ext.sok s'
      have hi' : i < xs.length := hi
      have ed : xs.drop i = d :: xs.drop (i + 1) := by
        rw [List.drop_eq_getElem_cons hi']
        congr 1
        rw [List.getElem?_eq_getElem hi'] at e1
        exact Option.some.inj e1
      rw [ed] at dd
      simp only [dcL] at dd
      cases ep : put t d (wipe ρ ws) with
      | none => rw [ep] at dd; exact dd.elim
      | some ρ' =>
        rw [ep] at dd
        simp only at dd
        have re : Renv X.K m' S' H'' (wipe ρ ws) (L2.wipe σ ws) := by
          have := a1.env
          rw [C.K] at this
          exact ((this.post p').post p2).wipe ws
        refine ⟨d, wipe ρ ws, ρ', m', S', rd, re, ep, fun σ2 l2 r2 w2 => ⟨(w2 ws hsl').trans (wipe_wipe ws), ?_⟩⟩
        have hl2 : σ2.length = c.N.length := by rw [l2, wipe_length]; exact a1.len
        have a2 : At g.calm c.N.length σ2 H'' ρ' m' S' := ⟨hl2, by show Renv g.K _ _ _ _ _; rw [C.K]; exact r2, by show Sok g.K _ _ _; rw [C.K]; exact s2⟩
        obtain ⟨hHD2, ne2⟩ := p2.apart hHD ne
        have q2 := p'.trans s' p2
        cases ec : (ev g.F a ρ' S').bind fun v S2 => shut S2 v with
        | no => rw [ec] at dd; exact dd.elim
        | ex _ _ _ => rw [ec] at dd; exact dd.elim
        | ok kd S3 =>
          rw [ec] at dd
          simp only [R.bind_ok] at dd
          refine ⟨ρ', m', S', a2, ?_⟩
          show Den _ _ ((ev g.F a ρ' S').bind fun v S2 => shut S2 v) _ _ _ _
          rw [ec]
          intro m3 H3 p3 s3 zk rk
          have s3' : Sok X.K m3 S3 H3 := by rw [← C.K]; exact s3
          have rk' : RP X.K H3 kd zk := by rw [← C.K]; exact rk
          obtain ⟨hHD3, ne3⟩ := p3.apart hHD2 ne2
          have q3 := q2.trans s2 p3
          have racc3 := RPd.keep p3.k _ _ (RPd.keep p2.k _ _ racc)
          have a3 : At g.calm c.N.length σ2 H3 ρ' m3 S3 := a2.to p3 s3
          cases ee : (ev g.F b ρ' S3).bind fun v S2 => shut S2 v with
          | no => rw [ee] at dd; exact dd.elim
          | ex _ _ _ => rw [ee] at dd; exact dd.elim
          | ok yd S4 =>
            rw [ee] at dd
            simp only [R.calm_ok, R.bind_ok] at dd
            refine ⟨ρ', m3, S3, a3, ?_⟩
            show Den _ _ ((ev g.F b ρ' S3).bind fun v S2 => shut S2 v) _ _ _ _
            rw [ee]
            intro m4 H4 p4 s4 z rz
            have s4' : Sok X.K m4 S4 H4 := by rw [← C.K]; exact s4
            have rz' : RP X.K H4 yd z := by rw [← C.K]; exact rz
            obtain ⟨hHD4, ne4⟩ := p4.apart hHD3 ne3
            have q4 := q3.trans s3' p4
            have racc4 := RPd.keep p4.k _ _ racc3
            split at dd
            · rename_i hck
              simp only [Bool.and_eq_true, decide_eq_true_eq] at hck
              obtain ⟨q, eq⟩ := scalarKey_of hck.1.2
              have ks := keeps_side (u := .dK (putK accv q z)) (.inr ⟨_, hHD4⟩)
              exact ⟨accv, q, rk'.key eq, hHD4, by rw [← racc4.len, sizeLine_eq]; exact hck.1.1, m4, S4, kStore acc kd yd, putK accv q z, q4.side hD, s4'.side (.inr ⟨_, hHD4⟩) ne4, ne4, upd_same, RPd.keep ks _ _ (racc4.store eq rz'), hck.2, dd⟩
            · exact dd.elim
    · rintro H' ⟨m', S', acc, accv, p', s', ne, hHD, racc, ck, dd⟩
      have en : xs.drop xs.length = [] := List.drop_length
      rw [en] at dd
      refine ⟨D, .dK accv, rfl, hHD, trivial, fun o => ?_⟩
      have ks := keeps_side (u := .frz o (.dK accv)) (.inr ⟨_, hHD⟩)
      have s5 : Sok X.K m' S' (upd H' D (.frz o (.dK accv))) := s'.side (.inr ⟨_, hHD⟩) ne
      exact dd m' _ (p'.side hD) (by show Sok g.K _ _ _; rw [C.K]; exact s5) m' _ .refl (by rw [C.K]; exact s5) _ (by show RP g.K _ _ _; rw [C.K]; exact .dct upd_same (RPd.keep ks _ _ racc))
  obtain ⟨Pv, h0, hG, hs, hd⟩ := main
  refine ⟨fun i m H => m = xs.length - i ∧ i ≤ xs.length ∧ Pv i H, ⟨xs.length, by simp, Nat.zero_le _, h0⟩, ?_⟩
  rintro i m H ⟨rfl, hi, p⟩
  have q := hG i H hi p
  by_cases hlt : i < xs.length
  · refine .inr ⟨w.goes i H hlt q, Pv (i + 1), fun H' p' => ⟨xs.length - (i + 1), by omega, rfl, hlt, p'⟩, fun x H' y => ?_⟩
    have z := hs i x H H' hlt p (w.yields i H x H' hlt q y)
    simpa only [tYes, if_true] using z
  · have e : i = xs.length := by omega
    subst e
    exact .inl ⟨w.stops H q, hd H p⟩
end
end In
/-! part InK -/
set_option Elab.async false
set_option linter.all false
set_option maxRecDepth 100000
set_option maxHeartbeats 1000000
/-! Statements. -/
namespace In
open PySem PySem.Spec PyProof.Rows L2
/-- a context of a def's own statements -/
structure CtxS (X : Cx) (g : Gx) : Prop where
  own : PassesOwn (model X.prog X.w) X.A X.env X.xe
  tk : Takes X g.W
  stk : X.stack = X.env :: X.outer
  fr : X.env.frame = some X.env.locals
def QF (g : Gx) (n : Nat) (D : Ends) : Fl → Mp → Sto → Hp → Prop
  | .nx ρ, m, S, H => ∀ σ : L2.St, σ.length = n → Renv g.K m S H ρ σ → D.nx σ H
  | .rt x, m, S, H => ∀ v, RP g.K H x v → D.rt v H
  | .bk ρ, m, S, H => ∀ σ : L2.St, σ.length = n → Renv g.K m S H ρ σ → D.bk σ H
  | .ct ρ, m, S, H => ∀ σ : L2.St, σ.length = n → Renv g.K m S H ρ σ → D.ct σ H
def dS (g : Gx) (n W : Nat) (a : C) : TS := fun D σ H => ∃ ρ m S, At g n σ H ρ m S ∧ Den g n (x1 g.F W a ρ S) m S H (QF g n D)
def dSs (g : Gx) (n W : Nat) (a : Cs) : TS := fun D σ H => ∃ ρ m S, At g n σ H ρ m S ∧ Den g n (xs g.F W a ρ S) m S H (QF g n D)
def SS (G : Glo) (c : Cc) (W : Nat) (st : Stmt) (a : C) : Prop := ∀ k X g, Ctx G c X g k → CtxS X g → PS X st (dS g c.N.length W a)
def SSs (G : Glo) (c : Cc) (W : Nat) (st : List Stmt) (a : Cs) : Prop := ∀ k X g, Ctx G c X g k → CtxS X g → PSs X st (dSs g c.N.length W a)
theorem _root_.L2.PS.imp {X : Cx} {e : Stmt} {t t' : TS} (h : PS X e t) (q : ∀ D σ H, t' D σ H → t D σ H) : PS X e t' := ⟨fun pins s σ H D I z => h.run pins s σ H D I (q D σ H z)⟩
theorem _root_.L2.PSs.imp {X : Cx} {e : List Stmt} {t t' : TS} (h : PSs X e t) (q : ∀ D σ H, t' D σ H → t D σ H) : PSs X e t' := ⟨fun pins s σ H D I z => h.run pins s σ H D I (q D σ H z)⟩
section
variable {G : Glo} {c : Cc} {X : Cx} {g : Gx} {k : Nat} {W : Nat}
theorem ss_nil : SSs G c W [] .nil := fun k X g C S => pss_nil.imp fun D σ H ⟨ρ, m, S, h, d⟩ => d m H .refl h.sok σ h.len h.env
theorem ss_cons {st : Stmt} {sts : List Stmt} {a : C} {as : Cs} (h1 : SS G c W st a) (h2 : SSs G c W sts as) : SSs G c W (st :: sts) (.cons a as) := fun k X g C CS =>
  (pss_cons (h1 k X g C CS) (h2 k X g C CS)).imp fun D σ H ⟨ρ, m, S, h, d⟩ => by
    simp only [xs] at d
    refine ⟨ρ, m, S, h, d.bind.mono fun fl m1 S1 H1 p1 s1 d1 => ?_⟩
    cases fl with
    | nx ρ1 => exact fun σ1 l1 r1 => ⟨ρ1, m1, S1, ⟨l1, r1, s1⟩, d1⟩
    | rt x => exact d1 m1 H1 .refl s1
    | bk ρ1 => exact d1 m1 H1 .refl s1
    | ct ρ1 => exact d1 m1 H1 .refl s1
/-! ### assignments -/
/-- which expression is a comprehension -/
def noComp : Expr → Bool
  | .ListComp _ _ _ _ => false
  | .SetComp _ _ _ _ => false
  | .DictComp _ _ _ _ _ => false
  | _ => true
theorem noComp_is {e : Expr} (h : noComp e = true) (t : Option Expr) (l : Nat) (env : PySem.Env) : swapsWith e t l env = pure false := by
  cases e with
  | ListComp _ _ _ _ => cases h
  | SetComp _ _ _ _ => cases h
  | DictComp _ _ _ _ _ => cases h
  | _ => rfl
def noTup : Expr → Bool
  | .Tuple _ _ _ => false
  | .List _ _ => false
  | _ => true
theorem noTup_l {t e : Expr} (h : noTup t = true) (env : PySem.Env) : swappedStores [t] e env = pure none := by
  cases t with
  | Tuple _ _ _ => cases h
  | List _ _ => cases h
  | _ => rfl
theorem noTup_r {t e : Expr} (h : noTup e = true) (env : PySem.Env) : swappedStores [t] e env = pure none := by
  cases e with
  | Tuple _ _ _ => cases h
  | List _ _ => cases h
  | _ => cases t <;> rfl
theorem asg_d {n : Nat} {e : Expr} {a : E} {t : T} {D : Ends} {σ : L2.St} {H : Hp} {ρ : Env} {m : Mp} {S : Sto} (C : Ctx G c X g k) (h : At g n σ H ρ m S) (d : Den g n (x1 g.F W (.asg t a) ρ S) m S H (QF g n D)) :
    dP g n a σ H fun x H1 => gG X.K t x σ H1 D.nx := by
  simp only [x1] at d
  refine ⟨ρ, m, S, h, d.bind.mono fun y m1 S1 H1 p1 s1 d1 x rx => ?_⟩
  obtain ⟨fl, e1, q⟩ := d1.opt s1
  obtain ⟨ρ', e2, rfl⟩ := Option.map_eq_some_iff.mp e1
  rw [← C.K]
  exact ⟨y, ρ, ρ', m1, S1, rx, h.env.post p1, e2, fun σ' l' r' _ => q σ' (l'.trans h.len) r'⟩
theorem s_asg {tg e : Expr} {t : T} {a : E} {pos : Pos} (hg : SG G c tg t) (he : SE G c e a) (p1 : noComp e = true) (p2 : (noTup tg || noTup e) = true) (p3 : plainE tg = true) : SS G c W (.Assign [tg] e pos) (.asg t a) := fun k X g C CS => by
  have hw : swappedStores [tg] e X.env = pure none := by
    rcases Bool.or_eq_true_iff.mp p2 with q | q
    · exact noTup_l q _
    · exact noTup_r q _
  have h1 : (assignEach [tg] X.env).map (·.2) = [assign tg X.env] := by
    cases tg with
    | Starred _ _ => cases p3
    | _ => rfl
  exact (ps_asg (p_of C (he k X g C)) (hg k X g C) (noComp_is p1 _ _ _) hw h1).imp fun D σ H ⟨ρ, m, S, h, d⟩ => asg_d (e := e) C h d
/-- name = [.. for ..] on one line -/
theorem lc_data {F : Fns} {ws : List Nat} {t : T} {it : It} {cs : Es} {a : E} {ρ : Env} {S : Sto} (v : Vl) (S' : Sto) (e : ev F (.lc ws t it cs a) ρ S = .ok v S') : ∃ y, v = .d y := by
  simp only [ev] at e
  cases e1 : evI F it ρ S with
  | no => rw [e1] at e; cases e
  | ex _ _ _ => rw [e1] at e; cases e
  | ok p S1 =>
    rw [e1] at e
    simp only [R.bind_ok] at e
    revert e
    generalize R.calm (lcL _ _ _ _ _ _ _) = r
    intro e
    cases r with
    | no => cases e
    | ex _ _ _ => cases e
    | ok ys S2 => cases e; exact ⟨_, rfl⟩
theorem s_setLc {y : Str} {i : Nat} {py : Pos} {elt tg iter : Expr} {ifs : List Expr} {scope : Scope} {own : List (Str × Nat)} {pos spos : Pos} {it : It} {t : T} {cs : Es} {a : E} (hy : c.N[i]? = some y) (hyl : c.sc.names.lookup y = some .local)
    (hl : (py.line == pos.line) = true) (hno : (scope.names.any fun (n, k) => n == y && (k == .local || k == .cell)) = false)
    (hok : blkC c.N c.sc scope own = true) (hi : SI G c tg iter it) (hg : SG G (c.blk scope) tg t) (hsl : (slT t).all (fun i => (own.map (·.2)).contains i) = true)
    (ht : STs G (c.blk scope) ifs cs) (he : SE G (c.blk scope) elt a) : SS G c W (.Assign [.Name y py] (.ListComp elt [⟨tg, iter, ifs, 0⟩] scope pos) spos) (.asg (.nm i) (.lc (own.map (·.2)) t it cs a)) := fun k X g C CS => by
  have ok : BlkOk X.N X.env.scope scope own := blkOk_by (by rw [C.N, C.sc]; exact hok)
  have hsl' : ∀ i ∈ slT t, i ∈ own.map (·.2) := fun i hi => by
    have := List.all_eq_true.mp hsl i hi
    simpa using this
  refine ⟨fun pins s σ H D I ⟨ρ, m, S, h, d⟩ => ?_⟩
  have h1 := ps_setLc (py := py) (pos := pos) (spos := spos) (y := y) (i := i) (g := gG X.K t) (te := dP g.calm c.N.length a) (tt := fun σ H Q => ∃ ρ m S, At g.calm c.N.length σ H ρ m S ∧ Den g.calm c.N.length (evt g.F cs ρ S) m S H fun b _ _ H1 => Q b H1) C.calm (by rw [C.N]; exact C.nd) (by rw [C.N]; exact hy) (by rw [C.sc]; exact hyl)
    (sw_true I.ok.kind (by rw [C.sc]; exact hyl) hl hno) (hi.2 k X g C) ok (fun s H Ca cl fp => hg k _ _ (C.blk scope s H Ca cl fp)) (fun s H Ca cl fp => ht k _ _ (C.blk scope s H Ca cl fp)) (fun s H Ca cl fp => p_of (C.blk scope s H Ca cl fp) (he k _ _ (C.blk scope s H Ca cl fp))) (fun x => noSet_it hi.1 _ x)
  have key := lc_t (elt := elt) (tg := tg) (iter := iter) (ifs := ifs) (scope := scope) (pos := pos) C hsl' rfl σ H (fun x H1 => D.nx (σ.set i (some x)) H1) (fun x H1 => ∃ a u, H1 a = some u ∧ Mut (some u) ∧ ∀ o, D.nx (σ.set i (some x)) (upd H1 a (.frz o u))) (fun z H1 ⟨a, u, _, q⟩ => ⟨a, u, q⟩) (by
    refine ⟨ρ, m, S, h, ?_⟩
    have d1 := Den.bind (Den.bind (by simp only [x1] at d; exact d))
    have dat : ∀ v S', ev g.F (.lc (own.map (·.2)) t it cs a) ρ S = .ok v S' → ∃ y, v = .d y := lc_data
    generalize ev g.F (.lc (own.map (·.2)) t it cs a) ρ S = r at d1 dat
    cases r with
    | no => exact d1
    | ex _ _ _ => exact d1
    | ok v S1 =>
      obtain ⟨y, rfl⟩ := dat v S1 rfl
      intro m1 H1 p1 s1 x rx
      obtain ⟨fl, e1, q⟩ := Den.opt (d1 m1 H1 p1 s1 m1 H1 .refl s1) s1
      obtain ⟨ρ', e2, rfl⟩ := Option.map_eq_some_iff.mp e1
      cases e2
      exact q _ (by simpa using h.len) ((h.env.post p1).set (show RV g.K m1 S1 H1 (.d y) x from rx)))
  refine thn (h1.run pins s σ H { D with nx := fun σ' H' => ∃ a u, H' a = some u ∧ Mut (some u) ∧ ∀ o, D.nx σ' (upd H' a (.frz o u)) } I key) fun f s' q => ?_
  cases f with
  | next =>
    obtain ⟨σ', H', I', a, u, e, mu, q⟩ := q
    obtain ⟨od, I2⟩ := I'.lock e mu
    exact ⟨_, _, I2, q od⟩
  | brk => exact q
  | cont => exact q
  | ret v => exact q
end
end In
/-! part InL -/
set_option Elab.async false
set_option linter.all false
set_option maxRecDepth 100000
set_option maxHeartbeats 1000000
/-! Statements, the rest. -/
namespace In
open PySem PySem.Spec PyProof.Rows L2
section
variable {G : Glo} {c : Cc} {X : Cx} {g : Gx} {k : Nat} {W : Nat}
/-! ### new containers -/
theorem born_post {K : Frag} {m : Mp} {S : Sto} {H : Hp} {p : Addr} {u : HO} {ob : MO} (s : Sok K m S H) (hp : H p = none) (hu : ObOk K H u ob) :
    ∃ m2, Post m S H m2 (S ++ [⟨true, ob⟩]) (upd H p u) ∧ Sok K m2 (S ++ [⟨true, ob⟩]) (upd H p u) ∧ m2 S.length = p := by
  have ne : ∀ n, n < S.length → m n ≠ p := fun n hn e => by
    obtain ⟨v, hv⟩ := s.there hn
    rw [e, hp] at hv; cases hv
  refine ⟨fun n => if n = S.length then p else m n, ⟨keeps_new hp, by simp, fun n hn => if_neg (Nat.ne_of_lt hn), fun n h1 h2 => ?_, fun b v e _ => by rw [upd_ne (ne_of_none e hp)]; exact e⟩, (s.new hp).born upd_same ne (hu.keep' (keeps_new hp)), if_pos rfl⟩
  have e : n = S.length := by simp at h2; omega
  simp only [e, if_true]
  exact hp
def dV (g : Gx) (n : Nat) (nw : Bool) (a : E) : TE := fun σ H Q => ∃ ρ m S, At g n σ H ρ m S ∧ Den g n ((ev g.F a ρ S).bind fun v S1 => liveIf nw S1 v) m S H (QV g Q)
def SV (G : Glo) (c : Cc) (nw : Bool) (e : Expr) (a : E) : Prop := ∀ k X g, Ctx G c X g k → PE X e (dV g c.N.length nw a)
theorem sv_of {e : Expr} {a : E} (h : SE G c e a) : SV G c false e a := fun k X g C => (h k X g C).imp fun σ H Q ⟨ρ, m, S, h, d⟩ => by
  refine ⟨ρ, m, S, h, ?_⟩
  have e : ((ev g.F a ρ S).bind fun v S1 => liveIf false S1 v) = ev g.F a ρ S := by cases ev g.F a ρ S <;> rfl
  rw [e] at d; exact d
/-- a new list, by what a rule tells of new lists -/
theorem live_new {n : Nat} {m : Mp} {S : Sto} {H : Hp} {p : Addr} {vs : List V} {ds : List PyData} {Q : VK} (s : Sok g.K m S H) (hp : H p = none) (r : RPs g.K H ds vs) (d : Den g n (live S (.d (.list ds))) m S H (QV g Q)) : Q (.ref p) (upd H p (.lst vs)) := by
  obtain ⟨m2, p2, s2, e2⟩ := born_post (ob := .lst ds) s hp ⟨vs, rfl, r⟩
  exact d m2 _ p2 s2 (.ref p) ⟨by rw [e2], by simp⟩
theorem sv_lst {es : List Expr} {as : Es} {pos : Pos} (h : SA G c es as) (hl : decide (es.length ≤ 1000) = true) : SV G c true (.List es pos) (.lst as) := fun k X g C =>
  (pe_lst (pos := pos) (h.2 k X g C).2).imp fun σ H Q ⟨ρ, m, S, h, d⟩ => by
    simp only [ev, R.bind_assoc, R.bind_ok] at d
    exact ⟨ρ, m, S, h, d.bind.mono fun ds m1 S1 H1 p1 s1 d1 xs el rs => ⟨by rw [el]; exact len_line hl, fun p hp => live_new s1 hp rs d1⟩⟩
/-- a new container by a built-in: list(x), sorted(x), dict(x) -/
theorem sv_u1 {op : U1} {e : Expr} {a : E} {x : Str} {p pos : Pos} {f : Value} (hc : ∀ X : Cx, X.calm = true → CallR X f (rU1 X.K (u1 op))) (hv : (∃ id, f = .builtin id) ∨ ∃ T, f = .type T) (hb : bootBuiltins x = some f) (hn : x ≠ "__name__") (hf : x ∈ G.free) (hg : glb c.sc x = true) (ha : SE G c e a) (pl : plainE e = true) :
    SV G c true (.Call (.Name x p) [e] [] pos) (.u1 op a) := fun k X g C => by
  have hm := C.wd.free x hf
  have hgl := C.gl hg
  have pa := pa1 (ha k X g C) pl
  have hst := plainE_is pl [] X.env
  have fin : ∀ σ H Q, dV g c.N.length true (.u1 op a) σ H Q → tCB (rU1 X.K (u1 op)) (fun σ H Q => dE g c.N.length a σ H fun x H1 => Q [x] H1) σ H Q := fun σ H Q ⟨ρ, m, S, h, d⟩ => by
    simp only [ev, R.bind_assoc] at d
    refine dE_of h d.bind fun v m1 S1 H1 p1 s1 d1 x rx => ?_
    obtain ⟨u, e1, d2⟩ := Den.opt d1.bind s1
    obtain ⟨dx, e2, e3⟩ := Option.bind_eq_some_iff.mp e1
    obtain ⟨dz, e4, rfl⟩ := Option.map_eq_some_iff.mp e3
    have rt := rx.rt s1 e2
    rw [C.K] at rt
    refine ⟨x, dx, dz, rfl, rt, e4, fun q u ob eo hq hu => ?_⟩
    rw [← C.K] at hu
    subst eo
    obtain ⟨m2, p2, s2, e5⟩ := born_post s1 hq hu
    cases ob with
    | lst ys => exact d2 m2 _ p2 s2 (.ref q) ⟨by rw [e5], by simp⟩
    | dct ys => exact d2 m2 _ p2 s2 (.ref q) ⟨by rw [e5], by simp⟩
  rcases hv with ⟨id, rfl⟩ | ⟨T, rfl⟩
  · exact (pe_callB (hc X C.calm) hgl hm hb pa hn (glb_is hg).2 hst).imp fin
  · exact (pe_callTy (hc X C.calm) hgl hm hb pa hn (glb_is hg).2 hst).imp fin
/-- name = a new container -/
theorem s_new {y : Str} {i : Nat} {py pos : Pos} {e : Expr} {a : E} (hi : c.N[i]? = some y) (hx : sto c y = true) (he : SV G c true e a) (p : noComp e = true) : SS G c W (.Assign [.Name y py] e pos) (.new i a) := fun k X g C CS =>
  (ps_set (by rw [C.N]; exact C.nd) (by rw [C.N]; exact hi) (by rw [C.sc]; exact sto_loc hx) (he k X g C) (noComp_is p _ _ _) (C.sto hx)).imp fun D σ H ⟨ρ, m, S, h, d⟩ => by
    simp only [x1, ← R.bind_assoc] at d
    refine ⟨ρ, m, S, h, d.bind.mono fun v m1 S1 H1 p1 s1 d1 x rx => ?_⟩
    exact d1 m1 H1 .refl s1 _ (by simpa using h.len) ((h.env.post p1).set rx)
/-- two names at once -/
theorem s_par {y z : Str} {i j : Nat} {e e' : Expr} {a b : E} {n1 n2 : Bool} {px py pt pos : Pos} {kt k2 : Nat} {pt2 : Pos} (hi : c.N[i]? = some y) (hj : c.N[j]? = some z) (hij : decide (i ≠ j) = true) (hx : c.sc.names.lookup y = some .local) (hy : c.sc.names.lookup z = some .local)
    (ha : SV G c n1 e a) (hb : SV G c n2 e' b) (pl : plainE e = true) (pl' : plainE e' = true)
    (hw : ∀ env : PySem.Env, env.scope = c.sc → swappedStores [.Tuple [.Name y px, .Name z py] kt pt] (.Tuple [e, e'] k2 pt2) env = pure (some [y, z])) :
    SS G c W (.Assign [.Tuple [.Name y px, .Name z py] kt pt] (.Tuple [e, e'] k2 pt2) pos) (.par i j n1 n2 a b) := fun k X g C CS =>
  (ps_par C.calm (by rw [C.N]; exact C.nd) (by rw [C.N]; exact hi) (by rw [C.N]; exact hj) (of_decide_eq_true hij) (by rw [C.sc]; exact hx) (by rw [C.sc]; exact hy) (pa_cons (ha k X g C) (pa_cons (hb k X g C) pa_nil (plainE_is pl' _ _)) (plainE_is pl _ _)) (hw _ C.sc)).imp fun D σ H ⟨ρ, m, S, h, d⟩ => by
    simp only [x1, ← R.bind_assoc] at d
    simp only [R.bind_assoc] at d
    rw [← R.bind_assoc] at d
    refine ⟨ρ, m, S, h, d.bind.mono fun v m1 S1 H1 p1 s1 d1 x rx => ?_⟩
    rw [← R.bind_assoc] at d1
    refine ⟨ρ, m1, S1, h.to p1 s1, d1.bind.mono fun w m2 S2 H2 p2 s2 d2 x' rx' => ⟨x, x', rfl, ?_⟩⟩
    exact d2 m2 H2 .refl s2 _ (by simpa using h.len) ((((h.env.post p1).post p2).set (rx.post p2)).set rx')
/-! ### items, append -/
theorem lstAt_is {K : Frag} {m : Mp} {S : Sto} {H : Hp} {v : Vl} {x : V} {n : Nat} {xs : List PyData} (h : lstAt S v = some (n, xs)) (r : RV K m S H v x) (s : Sok K m S H) :
    ∃ vs, x = .ref (m n) ∧ H (m n) = some (.lst vs) ∧ RPs K H xs vs ∧ S[n]? = some ⟨true, .lst xs⟩ := by
  cases v with
  | d y => cases h
  | loc i =>
    simp only [lstAt] at h
    split at h
    · rename_i ys e
      cases h
      obtain ⟨u, h1, h2⟩ := s.at_ _ _ e
      obtain ⟨vs, rfl, rr⟩ := h1
      rw [if_pos rfl] at h2
      exact ⟨vs, r.1, h2, rr, e⟩
    · cases h
theorem s_six {o i e : Expr} {a b d : E} {tpos pos : Pos} (ho : SE G c o a) (hi : SE G c i b) (he : SE G c e d) (p : noComp e = true) (px : plainX i = true) : SS G c W (.Assign [.Subscript o i tpos] e pos) (.six a b d) := fun k X g C CS =>
  (ps_asg (tg := .Subscript o i tpos) (pos := pos) (p_of C (he k X g C)) (pg_sub (ho k X g C) (p_of C (hi k X g C)) set_list (by cases i with | Slice _ _ _ _ => cases px | _ => intro _; rfl)) (noComp_is p (some (.Subscript o i tpos)) pos.line X.env) (noTup_l rfl _)).imp fun D σ H ⟨ρ, m, S, h, de⟩ => by
    simp only [x1] at de
    refine ⟨ρ, m, S, h, de.bind.mono fun y m1 S1 H1 p1 s1 d1 x rx => ?_⟩
    have a1 := h.to p1 s1
    refine dE_of a1 d1.bind fun ov m2 S2 H2 p2 s2 d2 ox rox => ?_
    have a2 := a1.to p2 s2
    refine ⟨ρ, m2, S2, a2, d2.bind.mono fun ky m3 S3 H3 p3 s3 d3 kx rkx => ?_⟩
    have a3 := a2.to p3 s3
    have d4 := d3.bind
    have rox3 := rox.post p3
    unfold setAt at d4
    split at d4
    · rename_i n xs el
      obtain ⟨vs, rfl, hH, rr, hS⟩ := lstAt_is el rox3 s3
      split at d4
      · rename_i kk
        split at d4
        · rename_i j hj
          cases rkx
          refine ⟨m3 n, vs, kk, j, rfl, rfl, hH, by rw [← rr.len]; exact hj, ?_⟩
          have rv := RP.keep p3.k _ _ (RP.keep p2.k _ _ rx)
          obtain ⟨s5, p5⟩ := s3.write (u := .lst (vs.set j x)) (ob := .lst (xs.set j y)) hS rfl ⟨_, rfl, rr.set j rv⟩
          exact d4 m3 _ p5 s5 m3 _ .refl s5 σ h.len (a3.env.post p5)
        · exact d4.elim
      · exact d4.elim
    · exact d4.elim
def noCall : Expr → Bool
  | .Call _ _ _ _ => false
  | _ => true
theorem noCall_is {o : Expr} (h : noCall o = true) (n : Str) (env : PySem.Env) (x : Sem Value) : attributeBase o n env x = x := by
  cases o with
  | Call _ _ _ _ => cases h
  | _ => rfl
theorem s_app {o e : Expr} {a d : E} {apos cpos pos : Pos} (ho : SE G c o a) (he : SE G c e d) (pl : plainE e = true) (pc : noCall o = true) (hl : (apos.endLine == cpos.line) = true) : SS G c W (.Expr (.Call (.Attribute o "append" apos) [e] [] cpos) pos) (.app a d) := fun k X g C CS =>
  (ps_expr (pe_bm F.plainAttrs_list F.slot_list_append F.type_list_append mt_append (ho k X g C) (pa_cons (p_of C (he k X g C)) pa_nil (plainE_is pl _ _)) (noCall_is pc _ _ _) (by rw [plainE_is pl]; rfl) hl (plainE_is pl _ _)) rfl).imp fun D σ H ⟨ρ, m, S, h, de⟩ => by
    simp only [x1] at de
    refine dE_of h de.bind fun ov m1 S1 H1 p1 s1 d1 ox rox => ?_
    have a1 := h.to p1 s1
    obtain ⟨q, el, d2⟩ := Den.opt d1.bind s1
    obtain ⟨n, xs⟩ := q
    obtain ⟨vs, e1, hH, rr, hS⟩ := lstAt_is el rox s1
    refine ⟨by rw [e1]; exact .inl ⟨rfl, vs, .of hH⟩, ⟨ρ, m1, S1, a1, d2.bind.mono fun y m2 S2 H2 p2 s2 d3 x rx => ?_⟩⟩
    have a2 := a1.to p2 s2
    have rox2 := rox.post p2
    split at d3
    · rename_i n' xs' el2
      obtain ⟨vs', e2, hH2, rr2, hS2⟩ := lstAt_is el2 rox2 s2
      split at d3
      · rename_i hlen
        obtain ⟨s5, p5⟩ := s2.write (u := .lst (vs' ++ [x])) (ob := .lst (xs' ++ [y])) hS2 rfl ⟨_, rfl, rr2.app (.one rx)⟩
        exact ⟨m2 n', vs', x, e2, rfl, hH2, by rw [← rr2.len, sizeLine_eq]; exact hlen, d3 m2 _ p5 s5 σ h.len (a2.env.post p5)⟩
      · exact d3.elim
    · exact d3.elim
theorem s_drop {e : Expr} {a : E} {pos : Pos} (he : SE G c e a) (p : noComp e = true) : SS G c W (.Expr e pos) (.drop a) := fun k X g C CS =>
  (ps_expr (he k X g C) (noComp_is p _ _ _)).imp fun D σ H ⟨ρ, m, S, h, d⟩ => by
    simp only [x1] at d
    exact dE_of h d.bind fun v m1 S1 H1 p1 s1 d1 x rx => d1 m1 H1 .refl s1 σ h.len (h.env.post p1)
/-- name += e, name -= e, of ints -/
theorem s_augI {y : Str} {i : Nat} {op : B2} {e : Expr} {a : E} {py pos : Pos} (f : Int → Int → Int) (hf : ∀ i j, binop op (.int i) (.int j) = some (.int (f i j))) (hp : ∀ X, PIp X (opOf op) (ipI f)) (hi : c.N[i]? = some y) (hx : sto c y = true) (he : SE G c e a) :
    SS G c W (.AugAssign (.Name y py) (opOf op) e pos) (.aug i op a) := fun k X g C CS => by
  refine (ps_aug (by rw [C.N]; exact C.nd) (by rw [C.N]; exact hi) (by rw [C.sc]; exact sto_loc hx) (he k X g C) (hp X) (C.sto hx)).imp fun D σ H ⟨ρ, m, S, h, d⟩ => ?_
  simp only [x1] at d
  split at d
  · rename_i v ev'
    obtain ⟨x, e1, rx⟩ := h.env.at_ i v ev'
    refine ⟨x, e1, dE_of h d.bind fun w m1 S1 H1 p1 s1 d1 z rz => ?_⟩
    cases v with
    | loc n => exact d1.elim
    | d u =>
      have d2 := Den.bind d1
      simp only [augment] at d2
      split at d2
      · rename_i p q e2
        cases rx
        have e3 := (rz.rt s1 e2).int
        subst e3
        rw [hf] at d2
        exact ⟨p, q, rfl, rfl, d2 m1 H1 .refl s1 m1 H1 .refl s1 _ (by simpa using h.len) ((h.env.post p1).set (show RV g.K m1 S1 H1 (.d (.int (f p q))) (.int (f p q)) from .int _))⟩
      · exact d2.elim
  · exact d.elim
theorem s_augAdd {y : Str} {i : Nat} {e : Expr} {a : E} {py pos : Pos} (hi : c.N[i]? = some y) (hx : sto c y = true) (he : SE G c e a) : SS G c W (.AugAssign (.Name y py) .Add e pos) (.aug i .add a) :=
  s_augI (op := .add) (fun i j => i + j) (fun _ _ => rfl) (fun _ => ip_add) hi hx he
theorem s_augSub {y : Str} {i : Nat} {e : Expr} {a : E} {py pos : Pos} (hi : c.N[i]? = some y) (hx : sto c y = true) (he : SE G c e a) : SS G c W (.AugAssign (.Name y py) .Sub e pos) (.aug i .sub a) :=
  s_augI (op := .sub) (fun i j => i - j) (fun _ _ => rfl) (fun _ => ip_sub) hi hx he
/-! ### if, for, while -/
theorem s_ifS {e : Expr} {p q : List Stmt} {a : E} {b d : Cs} {pos : Pos} (he : ST G c e a) (hp : SSs G c W p b) (hq : SSs G c W q d) : SS G c W (.If e p q pos) (.ite a b d) := fun k X g C CS =>
  (ps_if (he k X g C) (hp k X g C CS) (hq k X g C CS)).imp fun D σ H ⟨ρ, m, S, h, de⟩ => by
    simp only [x1, ← R.bind_assoc] at de
    refine ⟨ρ, m, S, h, de.bind.mono fun t m1 S1 H1 p1 s1 d1 => ?_⟩
    cases t with
    | true => exact ⟨ρ, m1, S1, h.to p1 s1, d1⟩
    | false => exact ⟨ρ, m1, S1, h.to p1 s1, d1⟩
theorem s_loop {tg iter : Expr} {body : List Stmt} {t : T} {it : It} {b : Cs} {pos : Pos} (hg : SG G c tg t) (hi : SI G c tg iter it) (hb : SSs G c W body b) : SS G c W (.For tg iter body [] pos) (.loop t it b) := fun k X g C CS =>
  (ps_for CS.own C.calm (hi.2 k X g C) (hg k X g C) (hb k X g C CS) (fun x => noSet_it hi.1 _ x)).imp fun D σ H ⟨ρ, m, S, h, d⟩ => by
    simp only [x1] at d
    refine ⟨ρ, m, S, h, d.bind.mono fun p m1 S1 H1 p1 s1 d1 J wk => ?_⟩
    obtain ⟨xs, gs⟩ := p
    obtain ⟨Gd, Y, w, hGd, hY⟩ := wk
    have a1 := h.to p1 s1
    clear d h p1
    dsimp only at w hGd hY d1
    refine for_it w (fun i σ' H' => ∃ ρ' m' S', At g c.N.length σ' H' ρ' m' S' ∧ Post m1 S1 H1 m' S' H' ∧ chk gs S1 S' = true ∧ Den g c.N.length (forL (chk gs S1) (fun x ρ => put t x ρ) (fun ρ S => In.xs g.F W b ρ S) (xs.drop i) ρ' S') m' S' H' (QF g c.N.length D)) ?_ ?_ ?_ ?_
    · exact ⟨ρ, m1, S1, a1, .refl, chk_same _ _, d1⟩
    · rintro i σ' H' hi ⟨ρ', m', S', a', p', ck, _⟩
      exact hGd m' S' H' p' a'.sok ck
    · rintro i x σ' H' H'' hi ⟨ρ', m', S', a', p', ck, dd⟩ y
      obtain ⟨d, e1, ext, rd⟩ := hY i x m' S' H' H'' hi p' a'.sok ck y
      have p2 : Post m' S' H' m' S' H'' := ext.post
      have s2 : Sok g.K m' S' H'' := ext.sok a'.sok
      have a2 := a'.to p2 s2
      have hi' : i < xs.length := hi
      have ed : xs.drop i = d :: xs.drop (i + 1) := by
        rw [List.drop_eq_getElem_cons hi']
        congr 1
        rw [List.getElem?_eq_getElem hi'] at e1
        exact Option.some.inj e1
      rw [ed] at dd
      simp only [forL] at dd
      cases ep : put t d ρ' with
      | none => rw [ep] at dd; exact dd.elim
      | some ρ1 =>
        rw [ep] at dd
        simp only at dd
        rw [← C.K]
        refine ⟨d, ρ', ρ1, m', S', rd, a2.env, ep, fun σ2 l2 r2 _ => ?_⟩
        have a3 : At g c.N.length σ2 H'' ρ1 m' S' := ⟨l2.trans a2.len, r2, s2⟩
        have q2 := p'.trans a'.sok p2
        refine ⟨ρ1, m', S', a3, (Den.from p2 s2 dd).bind.mono fun fl m3 S3 H3 p3 s3 d3 => ?_⟩
        have q3 := q2.trans s2 p3
        cases fl with
        | nx ρ2 =>
          simp only at d3
          split at d3
          · rename_i ck3
            exact fun σ3 l3 r3 => ⟨ρ2, m3, S3, ⟨l3, r3, s3⟩, q3, ck3, d3⟩
          · exact d3.elim
        | ct ρ2 =>
          simp only at d3
          split at d3
          · rename_i ck3
            exact fun σ3 l3 r3 => ⟨ρ2, m3, S3, ⟨l3, r3, s3⟩, q3, ck3, d3⟩
          · exact d3.elim
        | bk ρ2 => exact d3 m3 H3 .refl s3
        | rt x => exact d3 m3 H3 .refl s3
    · rintro σ' H' ⟨ρ', m', S', a', p', ck, dd⟩
      have en : xs.drop xs.length = [] := List.drop_length
      rw [en] at dd
      exact dd m' H' .refl a'.sok σ' a'.len a'.env
theorem s_whl {e : Expr} {body : List Stmt} {a : E} {b : Cs} {pos : Pos} (he : ST G c e a) (hb : SSs G c W body b) : SS G c W (.While e body [] pos) (.whl a b) := fun k X g C CS =>
  (ps_while CS.own (he k X g C) (hb k X g C CS)).imp fun D σ H ⟨ρ, m, S, h, d⟩ => by
    simp only [x1] at d
    refine ⟨fun n σ' H' => ∃ ρ' m' S', At g c.N.length σ' H' ρ' m' S' ∧ Den g c.N.length (whlL (fun ρ S => (ev g.F a ρ S).bind fun v S1 => test S1 v) (fun ρ S => xs g.F W b ρ S) n ρ' S') m' S' H' (QF g c.N.length D), ⟨W, ρ, m, S, h, d⟩, ?_⟩
    rintro n σ' H' ⟨ρ', m', S', a', dd⟩
    cases n with
    | zero => exact dd.elim
    | succ n =>
      simp only [whlL] at dd
      refine ⟨ρ', m', S', a', dd.bind.mono fun t m1 S1 H1 p1 s1 d1 => ?_⟩
      have a1 := a'.to p1 s1
      cases t with
      | false => exact d1 m1 H1 .refl s1 σ' a1.len a1.env
      | true =>
        simp only [if_true] at d1 ⊢
        refine ⟨_, fun σ2 H2 z => ⟨n, Nat.lt_succ_self n, z⟩, ρ', m1, S1, a1, d1.bind.mono fun fl m3 S3 H3 p3 s3 d3 => ?_⟩
        cases fl with
        | nx ρ2 => exact fun σ3 l3 r3 => ⟨ρ2, m3, S3, ⟨l3, r3, s3⟩, d3⟩
        | ct ρ2 => exact fun σ3 l3 r3 => ⟨ρ2, m3, S3, ⟨l3, r3, s3⟩, d3⟩
        | bk ρ2 => exact d3 m3 H3 .refl s3
        | rt x => exact d3 m3 H3 .refl s3
/-! ### return, raise, pass, break, continue -/
theorem s_ret {e : Expr} {a : E} {pos : Pos} (he : SE G c e a) : SS G c W (.Return (some e) pos) (.ret a) := fun k X g C CS =>
  (ps_ret (p_of C (he k X g C))).imp fun D σ H ⟨ρ, m, S, h, d⟩ => by
    simp only [x1] at d
    exact ⟨ρ, m, S, h, d.bind.mono fun y m1 S1 H1 p1 s1 d1 x rx => d1 m1 H1 .refl s1 x rx⟩
theorem s_retN {pos : Pos} : SS G c W (.Return none pos) .retN := fun k X g C CS => ps_retN.imp fun D σ H ⟨ρ, m, S, h, d⟩ => d m H .refl h.sok _ .non
theorem s_pass {pos : Pos} : SS G c W (.Pass pos) .pass := fun k X g C CS => ps_pass.imp fun D σ H ⟨ρ, m, S, h, d⟩ => d m H .refl h.sok σ h.len h.env
theorem s_brk {pos : Pos} : SS G c W (.Break pos) .brk := fun k X g C CS => ps_break.imp fun D σ H ⟨ρ, m, S, h, d⟩ => d m H .refl h.sok σ h.len h.env
theorem s_cont {pos : Pos} : SS G c W (.Continue pos) .cont := fun k X g C CS => ps_continue.imp fun D σ H ⟨ρ, m, S, h, d⟩ => d m H .refl h.sok σ h.len h.env
theorem s_raise {cn : Str} {e : Expr} {a : E} {p cpos pos : Pos} (hc : cn ∈ G.excs) (hg : glb c.sc cn = true) (he : SE G c e a) (pl : plainE e = true) : SS G c W (.Raise (some (.Call (.Name cn p) [e] [] cpos)) none pos) (.raise cn a) := fun k X g C CS =>
  (ps_raise C.calm CS.tk (C.wd.excs.make cn hc X rfl rfl rfl rfl rfl C.calm (C.rm.mono (Nat.zero_le _)) (C.gl hg) (glb_is hg).2 e _ p cpos (p_of C (he k X g C)) fun es env => plainE_is pl es env)).imp fun D σ H ⟨ρ, m, S, h, d⟩ => by
    simp only [x1] at d
    refine ⟨ρ, m, S, h, d.bind.mono fun y m1 S1 H1 p1 s1 d1 x rx Ca dd H2 hm ext hd => ?_⟩
    have ex : Ext H1 H2 := ⟨ext⟩
    exact d1 m1 H2 _ _ σ h.len ex.post (ex.sok s1) ⟨Ca, dd, x, by rw [C.ex]; exact hc, rfl, by rw [C.mg]; exact hm, rfl, hd, RP.keep ex.keeps _ _ rx⟩
/-! ### try: .. except x as n: return ('tag', n.reason) -/
theorem Ctx.tr (C : Ctx G c X g k) {W' : WX} (pn : List (Addr × Obj)) (xe : Value → Shared → Prop) (tk : Takes (X.tr pn xe) W') : Ctx G c (X.tr pn xe) ⟨g.K, g.mg, W', g.F, g.ex⟩ k :=
  ⟨C.N, C.nd, C.sc, C.K, C.mg, C.ex, C.calm, C.rm, C.wd, C.st, fun σ => passAt tk σ⟩
theorem s_try {x n tag : Str} {i j1 j2 : Nat} {np ep ap tp rp pos' pos p1 : Pos} {body : List Stmt} {b : Cs} (hc : x ∈ G.excs) (hg : glb c.sc x = true) (hi : c.N[i]? = some n) (hn : c.sc.names.lookup n = some .local) (h3 : (n == ("__debug__" : Str)) = false) (h4 : (n == ("__classdict__" : Str)) = false) (hb : SSs G c W body b) :
    SS G c W (.Try body [.ExceptHandler (some (.Name x np)) (some n) [.Return (some (.Tuple [.Constant (.str tag) j1 p1, .Attribute (.Name n ep) "reason" ap] j2 tp)) rp] pos'] [] [] pos) (.tryS b [(x, tag)]) := fun k X g C CS => by
  obtain ⟨Ca, hm, T, hno⟩ := C.wd.excs.cls x hc
  have hN : X.N[i]? = some n := by rw [C.N]; exact hi
  have hnl : X.env.scope.names.lookup n = some .local := by rw [C.sc]; exact hn
  have h1 := ps_try_as (pos := pos) (pos' := pos') (np := np) (body := body) (b₀ := .Return (some (.Tuple [.Constant (.str tag) j1 p1, .Attribute (.Name n ep) "reason" ap] j2 tp)) rp) (suite := []) (X := X) CS.stk CS.fr (by rw [C.N]; exact C.nd) hN (c := .ref Ca) hnl ⟨C.gl hg, (glb_is hg).2, .inl hm⟩ CS.tk
    (tb := fun W' => dSs ⟨g.K, g.mg, W', g.F, g.ex⟩ c.N.length W b) (fun W' pn xe tk po => hb k _ _ (C.tr pn xe tk) ⟨po, tk, CS.stk, CS.fr⟩)
    (ts := fun a cls d => tRet (tTup (tCons (tC (.str tag)) (tCons (tXf a cls d Ca "reason" (tVar i)) tNil))))
    (fun a oe cls d pn hz hf => pss_one (ps_ret (pe_tup (pa_cons pe_str (pa_cons (pe_xf T hno hz hf (pe_var (X := X.suite a ((a, oe) :: pn)) hN (.inl hnl) h3 h4)) pa_nil)))))
  refine h1.imp fun D σ H ⟨ρ, m, S, h, d⟩ => ⟨ρ, m, S, ⟨h.len, h.env, h.sok⟩, ?_⟩
  simp only [x1] at d
  cases e : xs g.F W b ρ S with
  | no => rw [e] at d; exact d.elim
  | ok fl S1 =>
    rw [e] at d
    intro m1 H1 p1 s1
    have d1 := d m1 H1 p1 s1
    cases fl <;> exact d1
  | ex cn y S1 =>
    rw [e] at d
    simp only at d
    intro m1 H1 cls dd σ' hl p1 s1 exc
    obtain ⟨C0, dx, v, hcn, rfl, hm0, rfl, hdx, rv⟩ := id exc
    rw [C.mg] at hm0
    rw [C.ex] at hcn
    refine ⟨decide (cn = x), C.wd.excs.one cn hcn x hc C0 Ca hm0 hm, fun hb a na => ?_, fun hb => ?_⟩
    · have ecx : cn = x := of_decide_eq_true hb
      subst ecx
      have eC : C0 = Ca := by rw [hm0] at hm; cases hm; rfl
      subst eC
      have d1 : Den g c.N.length (R.ok (.rt (.tuple [.str tag, y])) S1) m S H (QF g c.N.length D) := by
        have e2 : caught [(cn, tag)] cn y S1 = R.ok (.rt (.tuple [.str tag, y])) S1 := by
          unfold caught
          rw [show List.lookup cn [(cn, tag)] = some tag from by simp [List.lookup]]
        rw [← e2]; exact d
      have hil : i < σ'.length := by
        rw [hl]
        exact (List.getElem?_eq_some_iff.mp hi).1
      refine ⟨.ref a, List.getElem?_set_self hil, rfl, rfl, dx, _, v, rfl, hdx, by simp [List.lookup], ?_⟩
      show 2 ≤ sizeLine ∧ _
      refine ⟨by decide, fun p hp => ?_⟩
      have pn : Post m1 S1 H1 m1 S1 (upd H1 p (.tup [.str tag, v])) := post_new hp
      exact d1 m1 _ (p1.trans s1 pn) (s1.new hp) (.ref p) (.tup (SqT.of upd_same) (.cons (.str _) (.cons (RP.keep (keeps_new hp) _ _ rv) .nil)))
    · have ncx : ¬ cn = x := of_decide_eq_false hb
      have e2 : caught [(x, tag)] cn y S1 = R.ex cn y S1 := by
        unfold caught
        rw [show List.lookup cn [(x, tag)] = none from by simp only [List.lookup_cons, beq_eq_false_iff_ne.mpr ncx]; rfl]
      rw [e2] at d
      exact d m1 H1 _ _ σ' hl p1 s1 exc
end
end In
/-! part InM -/
set_option Elab.async false
set_option linter.all false
set_option maxRecDepth 100000
set_option maxHeartbeats 2000000
/-! Defs keep their promises; the law's end. -/
namespace In
open PySem PySem.Spec PyProof.Rows L2
section
variable {P : Program} {w : World} {K : Frag} {mg : Str → Option Value} {base : Heap}
theorem fnG_of {k : Nat} {f : Addr} {name qual : Str} {params : Arguments} {body : List Stmt} {scope : Scope} {dV kV doc pm cdv ct oc : Value} {an od : Option Addr}
    {osl : Array (Option Value)} {N ps : List Str} {sp : Sp} (lk : K.lookup f = some ⟨oc, od, .func (PySem.W.fnOf name qual params body scope dV kV doc pm an cdv ct), osl⟩) (hcd : PySem.W.codeIn K cdv qual = true) (S : FnScope N ps scope)
    (len : ∀ vs H Q E, sp vs H Q E → vs.length = ps.length)
    (hbody : ∀ (A : Around) (outer : List PySem.Env) (s : Shared) (H : Hp) (vs : List V) (Q : VK) (E : XK), RoomG k (A.deeper (envOfC qual scope s.heap.objs.size f cdv)) → sp vs H Q E →
      ∃ t, PSs (cxOf (L2.CX P w) P w K mg base N qual scope f cdv A outer s H E) body t ∧ t { nx := fun _ H' => Q .non H', rt := Q } (L2.start N vs) H) :
    FnG P w K mg base (k + 1) f (PySem.W.fnOf name qual params body scope dV kV doc pm an cdv ct) ps sp := by
  refine ⟨len, fun A outer s H args us vs Q E hr e0 hb r hsp => ?_⟩
  have KX : K.In s.heap := e0.mod.kin.keeps fun b o e => (e0.bs b o e).1
  have hkind : ∀ y ∈ ps.zip us, scope.names.lookup y.1 = some .local ∨ (scope.names.lookup y.1 = some .cell ∧ ((cellsFrom (s.heap.objs.size + 1) scope.names []).lookup y.1).isSome = true) := fun ⟨n, v⟩ hy =>
    (S.par n (List.of_mem_zip hy).1).imp id fun q => ⟨q, PySem.W.cellsFrom_some _ _ _ (.inl q)⟩
  refine codeAny_call_function hr.rm.depth (KX _ _ lk) rfl S.co S.gen rfl (PySem.W.codeRec_of KX hcd) (hb _ _ _ _ ?_)
  refine wpAny_newFunctionEnv_cells S.kind hkind fun env he s1 x => ?_
  subst he
  refine ⟨(e0.mod.nolimit.keeps fun b o e => (e0.bs b o e).1).keeps x.toInCall.keep, codeAny_func ?_⟩
  obtain ⟨t, ht, hq⟩ := hbody A outer s H vs Q E (hr.deeper _) hsp
  have I := inv_start (CX := L2.CX P w) (E := E) S hr.rm.hd e0 (len _ _ _ _ hsp) r x
  refine wpAny_mono (ht.run [] s1 (L2.start N vs) H _ I hq) (fun fl s' hs => ?_) fun e s' hs => hs
  cases fl with
  | ret u =>
    obtain ⟨v, σ', H', J, rv, q⟩ := hs
    exact ⟨v, H', J.os, J.bare, J.base, J.hok, rv, q⟩
  | next =>
    obtain ⟨σ', H', J, q⟩ := hs
    exact ⟨V.non, H', J.os, J.bare, J.base, J.hok, rfl, q⟩
  | brk =>
    obtain ⟨_, _, _, q⟩ := hs
    exact q.elim
  | cont =>
    obtain ⟨_, _, _, q⟩ := hs
    exact q.elim
/-- the text of a def, and its reading -/
structure DefOk (G : Glo) (W : Nat) (K : Frag) (mg : Str → Option Value) (fns : List Fn) (x : Str) (D : Dfn) (f : Addr) (fd : FuncData) (ps : List Str) : Prop where
  g : mg x = some (.ref f)
  kp : PySem.W.keepIn K (.ref f) = true
  bind : ∀ n, n ≤ D.dfl.length → ∃ ds dvs, Binds K fd ps ds ∧ Vals dvs ds ∧ ∀ H, RPs K H (D.dfl.drop n) dvs
  txt : ∃ (name qual : Str) (params : Arguments) (body : List Stmt) (scope : Scope) (dV kV doc pm cdv ct oc : Value) (an od : Option Addr) (osl : Array (Option Value)) (N : List Str) (fn : Fn),
    fd = PySem.W.fnOf name qual params body scope dV kV doc pm an cdv ct ∧ K.lookup f = some ⟨oc, od, .func fd, osl⟩ ∧ PySem.W.codeIn K cdv qual = true ∧ FnScope N ps scope ∧ fns[D.ix]? = some fn ∧ fn.ar = D.ar ∧ fn.sz = N.length ∧ ps.length = D.ar ∧
      SSs G ⟨N, scope, fun _ => true⟩ W body fn.body
/-- what stands without the defs -/
structure Wd0 (G : Glo) (P : Program) (w : World) (K : Frag) (mg : Str → Option Value) (base : Heap) : Prop where
  free : ∀ x ∈ G.free, mg x = none
  vals : ∀ x d, G.vals.lookup x = some d → ∃ v u, mg x = some u ∧ RelV v u ∧ ∀ H, RP K H d v
  excs : ExW P w K mg base G.excs
theorem RVs.vals {m : Mp} {S : Sto} {H : Hp} : ∀ {ls : List Vl} {vs : List V}, RVs K m S H ls vs → ∀ (i : Nat) (v : Vl), (ls.map some)[i]? = some (some v) → ∃ x, (vs.map some)[i]? = some (some x) ∧ RV K m S H v x
  | _, _, .nil, _, _, e => by simp at e
  | _, _, .cons h r, 0, v, e => by simp at e; subst e; exact ⟨_, rfl, h⟩
  | _, _, .cons h r, i + 1, v, e => by
    obtain ⟨x, h1, h2⟩ := RVs.vals r i v (by simpa using e)
    exact ⟨x, by simpa using h1, h2⟩
theorem start_env {m : Mp} {S : Sto} {H : Hp} {N : List Str} {ls : List Vl} {vs : List V} (r : RVs K m S H ls vs) (hl : vs.length ≤ N.length) : Renv K m S H (ls.map some ++ List.replicate (N.length - ls.length) none) (L2.start N vs) := by
  have el := r.len
  refine ⟨by unfold L2.start; simp [el], fun i v e => ?_⟩
  by_cases hi : i < ls.length
  · rw [List.getElem?_append_left (by simpa using hi)] at e
    obtain ⟨x, h1, h2⟩ := r.vals i v e
    refine ⟨x, ?_, h2⟩
    unfold L2.start
    rw [List.getElem?_append_left (by rw [List.length_map, ← el]; exact hi)]
    exact h1
  · rw [List.getElem?_append_right (by simpa using Nat.le_of_not_lt hi)] at e
    rw [List.getElem?_replicate] at e
    split at e <;> cases e
theorem defs_ok {G : Glo} {W : Nat} {fns : List Fn} (Z : Wd0 G P w K mg base) (hd : ∀ x D, G.defs.lookup x = some D → ∃ f fd ps, DefOk G W K mg fns x D f fd ps) : ∀ k, Wd G P w K mg base (k + 1) (callAt fns W k) := by
  have key : ∀ k, ∀ x D f fd ps, G.defs.lookup x = some D → DefOk G W K mg fns x D f fd ps → FnG P w K mg base k f fd ps (spOf K mg G.excs (callAt fns W k) D.ix D.ar) := by
    intro k
    induction k with
    | zero =>
      intro x D f fd ps hx T
      obtain ⟨_, _, _, _, _, _, _, _, _, _, _, _, _, _, _, N, fn, _, _, _, _, _, _, _, hp, _⟩ := T.txt
      refine ⟨fun vs H Q E h => h.1.trans hp.symm, fun A outer s H args us vs Q E hr e0 hb r hsp => ?_⟩
      obtain ⟨_, ls, m, S, _, _, d⟩ := hsp
      exact False.elim d
    | succ k ih =>
      intro x D f fd ps hx T
      obtain ⟨name, qual, params, body, scope, dV, kV, doc, pm, cdv, ct, oc, an, od, osl, N, fn, rfl, lk, hcd, FS, hfn, har, hsz, hp, hbody⟩ := T.txt
      have wd : Wd G P w K mg base (k + 1) (callAt fns W k) := ⟨Z.free, Z.vals, Z.excs, fun y D' hy => by
        obtain ⟨f', fd', ps', T'⟩ := hd y D' hy
        exact ⟨f', fd', ps', T'.g, T'.kp, T'.bind, fun j hj => by cases hj; exact ih y D' f' fd' ps' hy T'⟩⟩
      refine fnG_of lk hcd FS (fun vs H Q E h => h.1.trans hp.symm) fun A outer s H vs Q E hr hsp => ?_
      obtain ⟨hlen, ls, m, S, rvs, sk, d⟩ := hsp
      have Ct : Ctx G ⟨N, scope, fun _ => true⟩ (cxOf (L2.CX P w) P w K mg base N qual scope f cdv A outer s H E) ⟨K, mg, fun cls d _ H' => E cls d H', callAt fns W k, G.excs⟩ k :=
        ⟨rfl, FS.nd, rfl, rfl, rfl, rfl, rfl, hr, wd, fun _ _ => rfl, fun σ => passAt (takes_of rfl rfl rfl rfl) σ⟩
      have CS : CtxS (cxOf (L2.CX P w) P w K mg base N qual scope f cdv A outer s H E) ⟨K, mg, fun cls d _ H' => E cls d H', callAt fns W k, G.excs⟩ :=
        ⟨passes_of rfl, takes_of rfl rfl rfl rfl, rfl, rfl⟩
      refine ⟨_, hbody k _ _ Ct CS, ?_⟩
      have hpN : ps.length ≤ N.length := by
        have := congrArg List.length FS.pre
        rw [List.length_take] at this
        omega
      have hvN : vs.length ≤ N.length := by rw [hlen, ← hp]; exact hpN
      have hls : ls.length = fn.ar := by rw [rvs.len, hlen, har]
      refine ⟨ls.map some ++ List.replicate (N.length - ls.length) none, m, S, ⟨?_, start_env rvs hvN, sk⟩, ?_⟩
      · show (L2.start N vs).length = N.length
        unfold L2.start
        rw [List.length_append, List.length_map, List.length_replicate]
        omega
      · have e1 : callAt fns W (k + 1) D.ix ls S = fin S.length (xs (callAt fns W k) W fn.body (ls.map some ++ List.replicate (fn.sz - fn.ar) none) S) := by
          simp only [callAt, hfn, hls, if_true]
        rw [e1, hsz, ← hls] at d
        generalize xs (callAt fns W k) W fn.body (ls.map some ++ List.replicate (N.length - ls.length) none) S = r at d
        show Den _ _ r _ _ _ _
        cases r with
        | no => exact d
        | ex cn y S1 => exact fun m1 H1 cls dd σ' _ p1 s1 ex => d m1 H1 cls dd [] rfl p1.cut s1.cut ex
        | ok fl S1 =>
          cases fl with
          | nx ρ => exact fun m1 H1 p1 s1 σ' _ _ => d m1 H1 p1.cut s1.cut .non .non
          | rt y => exact fun m1 H1 p1 s1 v rv => d m1 H1 p1.cut s1.cut v rv
          | bk ρ => exact False.elim d
          | ct ρ => exact False.elim d
  intro k
  refine ⟨Z.free, Z.vals, Z.excs, fun y D' hy => ?_⟩
  obtain ⟨f', fd', ps', T'⟩ := hd y D' hy
  exact ⟨f', fd', ps', T'.g, T'.kp, T'.bind, fun j hj => by cases hj; exact key k y D' f' fd' ps' hy T'⟩
end
end In
/-! part InO -/
set_option Elab.async false
set_option linter.all false
set_option maxRecDepth 100000
set_option maxHeartbeats 2000000
/-! The law's end. -/
namespace In
open PySem PySem.Spec PyProof.Rows L2
/-- the law, called from without: the script is known, nothing else is tracked -/
theorem law_in {P : Program} {w : World} {K : Frag} {mg mb : Str → Option Value} {G : Glo} {W k : Nat} {fns : List Fn} {fa a : Addr} {lawN : Str} {D : Dfn} {s₁ : Shared} {vs : List Value} {ns : List Int}
    (KX : K.In s₁.heap) (hns : s₁.heap.Ns mainGlobals mg) (hb : s₁.heap.Ns builtinsNs mb) (hbb : ∀ x : Str, x ≠ "__name__" → mb x = bootBuiltins x) (hlim : s₁.heap.NoLimit) (hg : s₁.gens = #[])
    (ha : s₁.heap.get? a = some { cls := .type "list", data := .seq vs.toArray }) (hi : IntsAre vs ns) (hl : ns.length ≤ sizeLine) (hr : RoomG k callerA) (hK : ∀ b o, K.lookup b = some o → o.cls ≠ .type "list")
    (hmg : mg lawN = some (.ref fa)) (hD : G.defs.lookup lawN = some D) (hDa : D.ar = 1) (hDd : D.dfl = [])
    (hz : ∀ base : Heap, K.In base → base.Ns mainGlobals mg → Wd0 G P w K mg base) (hd : ∀ x D, G.defs.lookup x = some D → ∃ f fd ps, DefOk G W K mg fns x D f fd ps)
    (hlaw : ∃ S, callAt fns W k D.ix [.d (.list (ns.map .int))] [] = .ok (.bool true) S) :
    codeAny (model P w) callerA (.call (.ref fa) ⟨[.ref a], []⟩) (fun r s' => r = .ok (.ret (.bool true)) ∧ OldK s₁.heap s'.heap ∧ s'.os = s₁.os ∧ AllBare s'.gens) s₁ := by
  have rv : Vals (ns.map V.int) vs := vals_ints hi
  obtain ⟨S, hlaw⟩ := hlaw
  have Hp0 : ∃ H : Hp, H = fun b => if b = a then some (.frz { cls := .type "list", data := .seq vs.toArray } (.lst (ns.map V.int))) else none := ⟨_, rfl⟩
  obtain ⟨H, hH⟩ := Hp0
  have Ha : H a = some (.frz { cls := .type "list", data := .seq vs.toArray } (.lst (ns.map V.int))) := by rw [hH]; exact if_pos rfl
  have Hn : ∀ b, b ≠ a → H b = none := fun b hb => by rw [hH]; exact if_neg hb
  have hok : HOk P w H s₁.heap := fun b u z => by
    by_cases hb : b = a
    · subst hb
      rw [Ha] at z
      cases z
      exact ⟨ha, by rw [List.length_map]; exact hl, vs, _, rv, ha⟩
    · rw [Hn b hb] at z; cases z
  have base_of : ∀ {b : Addr} {o : Obj}, s₁.heap.get? b = some o → H b = none → (hidT s₁.heap H).get? b = some o := fun e n => hidT_get e n
  have nsK : ∀ {b : Addr} {m : Str → Option Value}, s₁.heap.Ns b m → (hidT s₁.heap H).Ns b m := fun {b m} ⟨o, es, ep, e, d, r⟩ => ⟨o, es, ep, base_of e (Hn b fun q => by
    subst q
    rw [ha] at e
    cases e
    cases d), d, r⟩
  have hKb : K.In (hidT s₁.heap H) := fun b o e => base_of (KX b o e) (Hn b fun q => by
    subst q
    have e2 := KX _ _ e
    rw [ha] at e2
    cases e2
    exact hK _ _ e rfl)
  have hM : Mod K mg (hidT s₁.heap H) := ⟨hKb, nsK hns, ⟨mb, nsK hb, hbb⟩, let ⟨mc, h1, h2⟩ := hlim; ⟨mc, nsK h1, h2⟩⟩
  have e0 : Env0 P w K mg (hidT s₁.heap H) callerA [] s₁ H := ⟨rfl, hM, fun b o e => of_hidT e, Nat.le_of_eq (hidT_size _ _), trivial, fun b hb => absurd (show b ∈ ([] : List Addr) from hb) (by simp), hok, .of_eq hg⟩
  obtain ⟨f, fd', ps, T⟩ := hd lawN D hD
  have ef : f = fa := by
    have := T.g
    rw [hmg] at this
    cases this
    rfl
  subst ef
  have wd := defs_ok (P := P) (w := w) (base := hidT s₁.heap H) (hz _ hKb (nsK hns)) hd k
  obtain ⟨f', fd2, ps2, g2, _, b2, F⟩ := wd.defs lawN D hD
  rw [hmg] at g2
  cases g2
  have F := F k rfl
  obtain ⟨ds, dvs, hbd, hvd, hrd⟩ := b2 0 (Nat.zero_le _)
  have hdvs := hrd H
  rw [hDd] at hdvs
  cases hdvs
  cases hvd
  have hsp : spOf K mg G.excs (callAt fns W k) D.ix D.ar [.ref a] H (fun v _ => v = .bl true) fun _ _ _ => False := by
    refine ⟨hDa.symm, [.d (.list (ns.map .int))], fun _ => 0, [], .cons (.lst ⟨_, Ha⟩ (RPs.ofInts ns)) .nil, ⟨fun n c e => by simp at e, fun i j h => absurd h (by simp)⟩, ?_⟩
    rw [hlaw]
    intro m' H' p' s' z rz
    cases rz
    rfl
  have hlen : ps2.length = 1 := by
    have := F.len _ _ _ _ hsp
    simpa using this.symm
  have bnd := hbd s₁ [.ref a] KX (by simp [hlen])
  refine codeAny_mono (F.run callerA [] s₁ H ⟨[.ref a], []⟩ [.ref a] [.ref a] _ _ hr e0 (by simpa using bnd) (.cons rfl .nil) hsp) fun r s' h => ?_
  cases r with
  | error e =>
    obtain ⟨_, _, _, _, _, _, _, _, _, _, _, _, z⟩ := (show L2.CX P w [] H s₁ (fun _ _ _ => False) e s' from h)
    exact z.elim
  | ok fl =>
    cases fl with
    | next => exact False.elim h
    | brk => exact False.elim h
    | cont => exact False.elim h
    | ret u =>
      obtain ⟨v, H', os, bare, un, hok', r', q⟩ := h
      have q' : v = .bl true := q
      subst q'
      obtain rfl : u = Value.bool true := r'
      refine ⟨rfl, OldK.of_keep fun b o e => ?_, os, bare⟩
      by_cases hb : b = a
      · subst hb
        obtain ⟨e1, _⟩ := hok _ _ Ha
        obtain ⟨e2, _⟩ := hok' _ _ (un.frzs _ _ _ Ha)
        rw [e] at e1
        cases e1
        exact e2
      · exact un.keep b o e (Hn b hb) (by intro z; exact absurd (show b ∈ ([] : List Addr) from z) (by simp)) (by simp)
theorem walk_in {l : PySem.W.OpenLaw} {n k W : Nat} {q : Program} {loose : List Str} {XP : (Str → Option Value) → Heap → Prop} {YP : World → Heap → Prop} {d : DefRec} {G : Glo} {fns : List Fn} {D : Dfn}
    (hn : l.most = some n) (hn2 : n ≤ sizeLine) (hdf : d.params.defaults = []) (hr : RoomG k callerA) (hD : G.defs.lookup d.name = some D) (hDa : D.ar = 1) (hDd : D.dfl = [])
    (F : ∀ (w : World) (mg : Str → Option Value) (fa : Addr) (h : Heap), YP w h → h.Ns mainGlobals mg → mg d.name = some (.ref fa) →
      ∃ K : Frag, K.In h ∧ (∀ b o, K.lookup b = some o → o.cls ≠ .type "list") ∧ (∀ base : Heap, K.In base → base.Ns mainGlobals mg → Wd0 G l.prog w K mg base) ∧ ∀ x D, G.defs.lookup x = some D → ∃ f fd ps, DefOk G W K mg fns x D f fd ps)
    (hlaw : ∀ ns : List Int, ns.length ≤ n → (∀ z ∈ ns, Builtin.Int.intBits z ≤ 1048576) → ∃ S, callAt fns W k D.ix [.d (.list (ns.map .int))] [] = .ok (.bool true) S) :
    PySem.W.WalkO q loose XP YP l.row.toRowW d [] (fun f vs => PySem.call f vs) := by
  refine Att.attach_callB hn hdf fun w s₀ s₁ mg mb fa o pm cd doc a vs ns Gr Y ho hd hcd hmg hobj hints hlen hbits hg => ?_
  obtain ⟨K, KX, hK, hz, hdefs⟩ := F w mg fa _ Y Gr.T.g hmg
  exact law_in KX Gr.T.g Gr.T.b Gr.T.builtins Gr.T.nolimit hg hobj hints (Nat.le_trans hlen hn2) hr hK hmg hD hDa hDd hz hdefs (hlaw ns hlen hbits)
end In
/-! part InX -/
set_option Elab.async false
set_option linter.all false
set_option maxRecDepth 100000
set_option maxHeartbeats 2000000
/-! An own error: made by super().__init__(reason); self.reason = reason in a class above. -/
namespace PySem
namespace InX
open PySem.W PySem.Calls PyProof.Rows PySem.HandSPX
def iA (p1 p2 : Pos) : Arguments := { posonlyargs := [], args := [{ arg := "self", annotation := none, pos := p1 }, { arg := "reason", annotation := none, pos := p2 }], vararg := none, kwonlyargs := [], kw_defaults := [], kwarg := none, defaults := [] }
def iB (p0 p1 ap p2 cp ep q1 q2 q3 q4 : Pos) : List Stmt := [.Expr (.Call (.Attribute (.Call (.Name "super" p0) [] [] p1) "__init__" ap) [.Name "reason" p2] [] cp) ep, .Assign [.Attribute (.Name "self" q1) "reason" q2] (.Name "reason" q3) q4]
/-- what the written part says of the class at C; its __init__, at fI, stands in the class at D -/
structure RTxt (P : Program) (K : Frag) (mg : Str → Option Value) (cn : Str) (C D fI : Addr) : Prop where
  gC : mg cn = some (.ref C)
  gS : mg "super" = none
  cls : ∃ nm q N bs bm sn sub ab col dd k0 k1 k2 k3 k5, K.lookup C = some (excClassObj nm q C N bs bm true sn sub ab col dd k0 k1 k2 k3 k5 "ValueError.__new__") ∧ refsVE bm = true
  sa : findIn K (.ref C) "__setattr__" = some (some (.builtin "object.__setattr__"))
  noN : findIn K (.ref C) "reason" = some none
  iC : findIn K (.ref C) "__init__" = some (some (.ref fI))
  tC : typeIn K (.ref fI) = some (.type "function")
  kC : keepIn K (.ref C) = true
  exC : subIn K (.ref C) (.type "BaseException") = some true
  tyC : typeIn K (.ref C) = some (.type "type")
  veC : subIn K (.ref C) (.type "ValueError") = some true
  op : nsIn K cStatics "thirdparty.any" = some none
  sup : ks_superIn K C D "__init__" = some (some (.builtin "ValueError.__init__"))
  cD : ∃ cdD, clsIn K D = some cdD
  mD : mroIn K C (.ref D) = some true
  top : (P.main.scope.names.lookup ("super" : Str)).isSome = false
  fn : ∃ (oc : Value) (od : Option Addr) (qual : Str) (sc : Scope) (doc pm : Value) (an : Option Addr) (cda cc : Addr) (ct : Value) (osl : Array (Option Value)) (a1 a2 p0 p1 ap p2 cp ep q1 q2 q3 q4 : Pos),
    K.lookup fI = some ⟨oc, od, .func (ksFn "__init__" qual (iA a1 a2) (iB p0 p1 ap p2 cp ep q1 q2 q3 q4) sc .none .none doc pm an (.ref cda) ct cc), osl⟩ ∧ codeIn K (.ref cda) qual = true ∧
    sc = { kind := .function, names := [("self", .local), ("reason", .local), ("__class__", .free), ("super", .globalImplicit)], isGenerator := false, isCoroutine := false, more := sc.more } ∧ (ap.endLine == cp.line) = true ∧
    (∃ cl cld csl, K.lookup cc = some ⟨cl, cld, .cell (some (.ref D)), csl⟩) ∧ ∃ ccl cdd ccs vs file tf, K.lookup cda = some ⟨ccl, cdd, .fields vs, ccs⟩ ∧ vs[2]? = some (.str file tf) ∧ ((P.main.file : Str) == file) = true
theorem one_size (v : Value) : [v].length ≤ sizeLine := by
  rw [sizeLine_eq]
  exact (by decide : 1 ≤ 16777216)
section
variable {prog : Program} {w : World} {A : Around} {E : Value → Shared → Prop} {h : Heap} {g : Array GenState} {d : Drawn} {t : Nat} {os : OsState}
/-- ValueError.__init__ bound to the object, called -/
theorem ve_call {nm q : Str} {C N : Addr} {bs bm : List Value} {hdct : Bool} {sn : List Str} {sub : List Value} {ab : Bool} {col : Option Bool} {dd : Option Addr} {k0 k1 k2 k3 k5 : Option Value} {u x t0 : Addr} {rest : List Value} {Q : Value → Shared → Prop}
    (hC : h.get? C = some (excClassObj nm q C N bs bm hdct sn sub ab col dd k0 k1 k2 k3 k5 "ValueError.__new__")) (he : h.get? x = some (excO C t0)) (hu : h.get? u = some (kxs_mw "ValueError.__init__" x)) (hz : rest.length ≤ sizeLine)
    (hq : ∀ h' t1, (∀ b o, b ≠ x → h.get? b = some o → h'.get? b = some o) → h'.get? x = some (excO C t1) → Q .none ⟨h', g, d, t, os⟩) :
    wpAny (model prog w) A (call (.ref u) rest) Q E ⟨h, g, d, t, os⟩ := by
  refine wpAny_call (codeAny_of_tree ?_)
  show wpAny _ A.in1 (callAny (.ref u) ⟨rest, []⟩) _ _ _
  simp only [callAny]
  refine wpAny_bind (wpAny_load hu ?_)
  simp only [kxs_mw, show (Value.type "method-wrapper" == Value.type "method" || Value.type "method-wrapper" == Value.type "builtin_function_or_method" || Value.type "method-wrapper" == Value.type "method-wrapper") = true by decide, if_true]
  refine KFB.if_so (by decide) ?_
  refine wpAny_bind (check_bound_init F.excBase_ValueError.toExcCallFacts hC he rfl ?_)
  refine wpAny_bind (wpAny_pure (wpAny_pure ?_))
  refine ⟨plainId_quiet F.excBase_ValueError.init.plain _, codeAny_builtin F.excBase_ValueError.initEntry ?_⟩
  exact exc_init_tree (cls := .ref C) (t0 := t0) (dv := none) (c2 := .none) (c3 := .none) (b4 := .bool false) he hz fun h' k e' _ => hq h' h.objs.size k e'
end
/-- what __init__ leaves of a fresh exception at x -/
structure InitEnd (h h' : Heap) (x C dx t1 : Addr) (v : Value) : Prop where
  keep : ∀ b o, b ≠ x → h.get? b = some o → h'.get? b = some o
  obj : h'.get? x = some { cls := .ref C, dict := some dx, data := .fields #[.ref t1, .none, .none, .none, .bool false, .none] }
  dbig : h.objs.size ≤ dx
  dne : dx ≠ x
  ns : h'.Ns1 dx (fun y => if y = "reason" then some v else none)
structure Made (h h' : Heap) (e C d : Addr) (v : Value) : Prop where
  keep : ∀ b o, h.get? b = some o → h'.get? b = some o
  new : h.objs.size ≤ e
  obj : ∃ oe vs, h'.get? e = some oe ∧ oe.cls = .ref C ∧ oe.dict = some d ∧ oe.data = .fields vs ∧ vs[1]? = some .none
  dbig : h.objs.size ≤ d
  dne : d ≠ e
  ns : h'.Ns1 d (fun y => if y = "reason" then some v else none)
section
variable {prog : Program} {w : World} {A : Around} {E : Value → Shared → Prop} {R : Result → Shared → Prop} {s : Shared} {K : Frag} {mg mb : Str → Option Value} {C D fI : Addr} {cn : Str}
theorem init_ok (T : RTxt prog K mg cn C D fI) {x t0 : Addr} {v : Value} (X : K.In s.heap) (hlim : s.heap.NoLimit) (hG : s.heap.Ns mainGlobals mg) (hB : s.heap.Ns builtinsNs mb) (hbb : mb "super" = bootBuiltins "super") (hx : s.heap.get? x = some (excO C t0)) (hnx : K.lookup x = none) (hxg : x ≠ mainGlobals) (hxb : x ≠ builtinsNs) (hroom : A.depth < recursionLimit)
    (hq : ∀ h' tk dx t1, InitEnd s.heap h' x C dx t1 v → R (.ok (.ret .none)) { s with heap := h', toks := tk }) :
    codeAny (model prog w) A (.call (.ref fI) ⟨[.ref x, v], []⟩) R s := by
  obtain ⟨oc, od, qual, sc, doc, pm, an, cda, cc, ct, osl, a1, a2, p0, p1, ap, p2, cp, ep, q1, q2, q3, q4, ho, hcd, hsc, hline, ⟨cl, cld, csl, hcell⟩, ccl, cdd, ccs, vs, file, tf, hcode, hvs, hfile⟩ := T.fn
  obtain ⟨nm, q, N, bs, bm, sn, sub, ab, col, dd, k0, k1, k2, k3, k5, hC, hbm⟩ := T.cls
  obtain ⟨cdD, hD⟩ := T.cD
  have hcl : clsIn K C = some { name := nm, bases := bs, mro := .ref C :: bm, ns := N, qualname := q, hasDict := true, slotNames := sn, subclasses := sub, abstract := ab, collection := col, hasDel := false } := by unfold clsIn; rw [hC] <;> rfl
  generalize hmore : sc.more = more at hsc
  subst hsc
  have hbind : ∀ s : Shared, BindsTo s (ksFn "__init__" qual (iA a1 a2) (iB p0 p1 ap p2 cp ep q1 q2 q3 q4) { kind := .function, names := [("self", .local), ("reason", .local), ("__class__", .free), ("super", .globalImplicit)], isGenerator := false, isCoroutine := false, more := more } .none .none doc pm an (.ref cda) ct cc) ⟨[.ref x, v], []⟩ [("self", .ref x), ("reason", v)] :=
    fun s => BindsTo.of_eq (by first | rfl | with_unfolding_all rfl)
  refine ks_codeAny_call_defAt (binds := [("self", .ref x), ("reason", v)]) hroom (X _ _ ho) rfl hlim (codeRec_of X hcd) rfl (hbind _) ?_ ?_ (fun h₁ hns k => ?_) rfl rfl rfl
  · intro y hy
    have hy' : y ∈ ([("self", .local), ("reason", .local), ("__class__", .free), ("super", .globalImplicit)] : List (Str × NameKind)) := hy
    simp only [List.mem_cons, List.not_mem_nil, or_false] at hy'
    rcases hy' with rfl | rfl | rfl | rfl <;> (intro z; cases z)
  · intro y hy
    simp only [List.mem_cons, List.not_mem_nil, or_false] at hy
    rcases hy with rfl | rfl <;> rfl
  have hxL : s.heap.objs.size ≠ x := Nat.ne_of_gt (Heap.lt_size hx)
  have X₁ : K.In h₁ := X.keeps k
  have hx₁ := k _ _ hx
  have hG₁ : h₁.Ns mainGlobals mg := let ⟨o, es, ep', e, dd', r⟩ := hG; ⟨o, es, ep', k _ _ e, dd', r⟩
  have hB₁ : h₁.Ns builtinsNs mb := let ⟨o, es, ep', e, dd', r⟩ := hB; ⟨o, es, ep', k _ _ e, dd', r⟩
  have z : s.heap.objs.size < h₁.objs.size := hns.lt
  obtain ⟨oD, hD1, hD2⟩ : ∃ oD, h₁.get? D = some oD ∧ oD.data = .cls cdD := by
    unfold clsIn at hD
    split at hD
    · rename_i c d cd' sl ho
      cases hD
      exact ⟨_, X₁ _ _ ho, rfl⟩
    · cases hD
  have I₁ : InstAt h₁ x (excO C t0) C none := ⟨hx₁, rfl, rfl, trivial⟩
  -- super().__init__(reason)
  refine ks_wpAt_execs_cons (ks_wpAt_Expr_any ?_ rfl rfl)
  refine ks_wpAt_MethodCall (pl := L2.plainOf (.Call (.Name "super" p0) [] [] p1) (callEnv (ksFn "__init__" qual (iA a1 a2) (iB p0 p1 ap p2 cp ep q1 q2 q3 q4) { kind := .function, names := [("self", .local), ("reason", .local), ("__class__", .free), ("super", .globalImplicit)], isGenerator := false, isCoroutine := false, more := more } .none .none doc pm an (.ref cda) ct cc) s.heap.objs.size fI)) ?_ ?_
  · refine ks_wpAt_super_base (env := ksEnv qual _ s.heap.objs.size fI (.ref cda) cc) rfl rfl rfl rfl (X₁ _ _ ho) rfl rfl rfl (X₁ _ _ hcode) rfl hvs hfile T.top ?_
    refine ks_loadName_global rfl rfl (loadGlobal_builtin (env := ksEnv qual _ s.heap.objs.size fI (.ref cda) cc) hG₁ T.gS hB₁ (hbb.trans (by rfl)) ⟨rfl, ?_⟩)
    refine wpAny_loadName_free rfl rfl rfl ⟨_, X₁ _ _ hcell, rfl⟩ ?_
    refine wpAny_loadName_local (name := "self") rfl rfl hns (v := .ref x) (by first | rfl | with_unfolding_all rfl | kernel_rfl) ?_
    refine ks_wpAny_isType_cls hD1 hD2 ⟨rfl, ?_⟩
    refine ks_wpAny_call_super hD1 hD2 hx₁ rfl (fun c e => by cases e) (looks_mroIn X₁ T.mD) (fun h₂ e₂ k₂ => ?_)
    have X₂ : K.In h₂ := X₁.keeps k₂
    have hsup := T.sup
    unfold ks_superIn at hsup
    rw [hcl] at hsup
    refine kxs_getMethod kxs_ValueError e₂ (looks_opaque X₂ T.op) (l₀ := .ref C :: bm) ?_ rfl X₂ hsup ((show InstAt h₂ x (excO C t0) C none from ⟨k₂ _ _ hx₁, rfl, rfl, trivial⟩).type.andThen (looks_subIn X₂ T.veC)) (ks_ne X₁ I₁ hcl) rfl ?_
    · exact fun A Q E s k q => wpAny_bind ((looks_clsIn X₂ hcl) A _ E s k (wpAny_pure q))
    -- the wrapper called
    have k3 : ∀ b o, h₂.get? b = some o → (h₂.push (kxs_mw "ValueError.__init__" x)).get? b = some o := fun b o e => Heap.get?_push_of_some _ e
    have hu : (h₂.push (kxs_mw "ValueError.__init__" x)).get? h₂.objs.size = some (kxs_mw "ValueError.__init__" x) := Heap.get?_push_at rfl rfl
    refine kxs_callWith (i := "ValueError.__init__") (x := x) rfl ?_
    refine evalArgs_plain (Calls.spliced_cons ?_)
    have hns3 : (h₂.push (kxs_mw "ValueError.__init__" x)).Ns s.heap.objs.size (fun y => ([("self", Value.ref x), ("reason", v)] : List (Str × Value)).reverse.lookup y) := let ⟨o, es, ep', e, dd', r⟩ := hns; ⟨o, es, ep', k3 _ _ (k₂ _ _ e), dd', r⟩
    have hx3 := k3 _ _ (k₂ _ _ hx₁)
    refine wpAny_Name (wpAny_loadName_local (name := "reason") rfl rfl hns3 (v := v) (by first | rfl | with_unfolding_all rfl | kernel_rfl) ?_) (by decide)
    refine Calls.spliced_nil ⟨hu, ?_⟩
    refine ve_call (hC := k3 _ _ (k₂ _ _ (X₁ _ _ hC))) hx3 hu (one_size v) fun h₄ t1 k₄ hx₄ => ?_
    -- self.reason = reason
    have kk : ∀ b o, b ≠ x → h₁.get? b = some o → h₄.get? b = some o := fun b o hb e => k₄ b o hb (k3 _ _ (k₂ _ _ e))
    have X₄ : K.In h₄ := fun a o e => kk a o (fun q => by rw [q, hnx] at e; cases e) (X₁ a o e)
    have hns4 : h₄.Ns s.heap.objs.size (fun y => ([("self", Value.ref x), ("reason", v)] : List (Str × Value)).reverse.lookup y) := let ⟨o, es, ep', e, dd', r⟩ := hns; ⟨o, es, ep', kk _ _ hxL e, dd', r⟩
    refine wpAt_of_wpAny (wpAny_execs_cons (plainObj_wpAny_Assign_Attribute ?_))
    refine wpAny_Name (wpAny_loadName_local (name := "reason") rfl rfl hns4 (v := v) (by first | rfl | with_unfolding_all rfl | kernel_rfl) ?_) (by decide)
    refine wpAny_Name (wpAny_loadName_local (name := "self") rfl rfl hns4 (v := .ref x) (by first | rfl | with_unfolding_all rfl | kernel_rfl) ?_) (by decide)
    refine set_plain X₄ (ox := excO C t1) (od := none) ⟨hx₄, rfl, rfl, trivial⟩ T.sa ?_
    refine exc_osa X₄ hx₄ hcl (show refsVE (.ref C :: bm) = true from hbm) rfl T.noN (fun h₅ tk₅ dx k₅ dn dne hx₅ hn₅ => ?_)
    show wpAny _ _ (execs _ _) _ _ _
    have z4 : s.heap.objs.size < h₄.objs.size := hns4.lt
    exact wpAny_execs_nil (hq h₅ tk₅ dx t1 ⟨fun b o hb e => k₅ b o hb (kk b o hb (k b o e)), hx₅, Nat.le_of_lt (Nat.lt_of_lt_of_le z4 dn), dne, hn₅⟩)
  · show eval _ _ = _
    rw [arm_eval_Call]
    refine congrArg (fun kk => attributeBase _ _ _ _ >>= kk) (funext fun ov => congrArg (fun kk => standAt _ >>= kk) (funext fun _ => ?_))
    exact L2.mcall_line rfl hline
theorem made_ok (T : RTxt prog K mg cn C D fI) {v : Value} (X : K.In s.heap) (hlim : s.heap.NoLimit) (hG : s.heap.Ns mainGlobals mg) (hB : s.heap.Ns builtinsNs mb) (hbb : mb "super" = bootBuiltins "super") (hroom : A.depth + 1 < recursionLimit)
    (hq : ∀ h' tk e d, Made s.heap h' e C d v → R (.ok (.ret (.ref e))) { s with heap := h', toks := tk }) :
    codeAny (model prog w) A (.call (.ref C) ⟨[v], []⟩) R s := by
  obtain ⟨nm, q, N, bs, bm, sn, sub, ab, col, dd, k0, k1, k2, k3, k5, hC, hbm⟩ := T.cls
  obtain ⟨hp, g, dr, tk, os⟩ := s
  have k : ∀ b o, hp.get? b = some o → ((hp.push (kdv_tup [v])).push (excO C hp.objs.size)).get? b = some o := fun b o e => Heap.get?_push_of_some _ (Heap.get?_push_of_some _ e)
  have hget : ((hp.push (kdv_tup [v])).push (excO C hp.objs.size)).get? (hp.objs.size + 1) = some (excO C hp.objs.size) := by heap_get
  have big : ∀ b o, hp.get? b = some o → hp.objs.size + 1 ≠ b := fun b o e z => by
    have := Heap.lt_size e
    rw [← z] at this
    exact absurd this (Nat.not_lt.mpr (Nat.le_succ _))
  have hnx : K.lookup (hp.objs.size + 1) = none := by
    cases e : K.lookup (hp.objs.size + 1) with
    | none => rfl
    | some o => exact absurd rfl (big _ _ (X _ _ e))
  have nsk : ∀ {b : Addr} {m : Str → Option Value}, hp.Ns b m → ((hp.push (kdv_tup [v])).push (excO C hp.objs.size)).Ns b m := fun ⟨o, es, ep', e, dd', r⟩ => ⟨o, es, ep', k _ _ e, dd', r⟩
  have hg1 : hp.objs.size + 1 ≠ mainGlobals := let ⟨o, _, _, e, _⟩ := hG; big _ _ e
  have hb1 : hp.objs.size + 1 ≠ builtinsNs := let ⟨o, _, _, e, _⟩ := hB; big _ _ e
  refine call_own F.excBase_ValueError (fun X => refsVE_contains X bm hbm) (X _ _ hC) (looks_findIn X T.iC) (fun self => bind_fn X self T.tC) (one_size v) ?_
  refine init_ok (s := ⟨(hp.push (kdv_tup [v])).push (excO C hp.objs.size), g, dr, tk, os⟩) T (X.keeps k) (hlim.keeps k) (nsk hG) (nsk hB) hbb hget hnx hg1 hb1 ?_ fun h' tk' dx t1 ⟨k', hx, dn, dne, hns⟩ => ?_
  · show A.depth + 1 < recursionLimit
    exact hroom
  · have old : ∀ b o, hp.get? b = some o → h'.get? b = some o := fun b o e => k' b o (Nat.ne_of_lt (Nat.lt_succ_of_lt (Heap.lt_size e))) (k b o e)
    have z : hp.objs.size + 1 + 1 ≤ dx := by
      first
        | (simpa only [Heap.size_push] using dn)
        | exact dn
        | (have q := dn; rw [Heap.size_push, Heap.size_push] at q; exact q)
    exact ⟨rfl, hq h' tk' (hp.objs.size + 1) dx ⟨old, Nat.le_succ _, ⟨_, _, hx, rfl, rfl, rfl, rfl⟩, Nat.le_trans (Nat.le_trans (Nat.le_succ _) (Nat.le_succ _)) z, dne, hns⟩⟩
end
end InX
end PySem
namespace In
open PySem PySem.Spec PyProof.Rows L2
theorem relO_reason {v : V} {v' : Value} (r : RelV v v') (f : Str) : RelO (List.lookup f [(("reason" : Str), v)]) (if f = "reason" then some v' else none) := by
  by_cases hw : f = "reason"
  · subst hw
    rw [if_pos rfl]
    have q : List.lookup ("reason" : Str) [(("reason" : Str), v)] = some v := by simp [List.lookup]
    rw [q]
    exact r
  · rw [if_neg hw]
    have qw : (f == ("reason" : Str)) = false := by simpa using hw
    have q2 : List.lookup f [(("reason" : Str), v)] = none := by simp [List.lookup, qw]
    rw [q2]
    trivial
/-- cn(e) -/
theorem pmk_reason {X : Cx} {cn : Str} {C D fI : Addr} {e : Expr} {te : TE} {p pos : Pos} (T : PySem.InX.RTxt X.prog X.K X.mg cn C D fI) (hr : X.A.depth + 2 < recursionLimit) (he : PE X e te) (hg : Gl X cn) (hdb : (cn == ("__debug__" : Str)) = false)
    (hs : ∀ es env, starEach (e :: es) env = (false, eval e env) :: starEach es env) : PMk X (.Call (.Name cn p) [e] [] pos) (mkX X.mg cn te) := by
  intro pins s σ H Q I h
  refine wpAny_Call_Name_kw (ld_glob I hg T.gC ?_ hdb)
  refine PySem.W.callWith_K (h₀ := X.base) I.ok.mod.kin T.kC (thn ((pa_cons he pa_nil (hs _ _)).run pos pins s σ H (fun vs H1 => ∃ v, vs = [v] ∧ ∀ C dd H2, X.mg cn = some (.ref C) → (∀ b u, H1 b = some u → H2 b = some u) → H2 dd = some (.xd [(("reason" : Str), v)]) → Q (.ref C) (some dd) H2) I ?_) fun us s1 hh => ?_) (hs _ _) rfl
  · have h' : te σ H fun v H1 => ∀ C dd H2, X.mg cn = some (.ref C) → (∀ b u, H1 b = some u → H2 b = some u) → H2 dd = some (.xd [(("reason" : Str), v)]) → Q (.ref C) (some dd) H2 := h
    show te σ H fun x H1 => ∃ v, [x] = [v] ∧ _
    have key : (fun (v : V) (H1 : Hp) => ∀ (C dd : Addr) (H2 : Hp), X.mg cn = some (.ref C) → (∀ b u, H1 b = some u → H2 b = some u) → H2 dd = some (.xd [(("reason" : Str), v)]) → Q (.ref C) (some dd) H2) = fun (x : V) (H1 : Hp) => ∃ v, ([x] : List V) = [v] ∧ ∀ (C dd : Addr) (H2 : Hp), X.mg cn = some (.ref C) → (∀ b u, H1 b = some u → H2 b = some u) → H2 dd = some (.xd [(("reason" : Str), v)]) → Q (.ref C) (some dd) H2 := by
      funext x H1
      apply propext
      constructor
      · exact fun q => ⟨x, rfl, q⟩
      · rintro ⟨v, e, q⟩
        cases e
        exact q
    rw [← key]
    exact h'
  obtain ⟨vs, H1, I1, r1, v, ev, q1⟩ := hh
  subst ev
  refine ⟨I1.kIn, ?_⟩
  cases r1 with
  | cons rv rn =>
    rename_i v' us'
    cases rn
    show wpAny _ _ (call (.ref C) [v']) _ _ _
    have hlim := I1.nolimit
    have hG : s1.heap.Ns mainGlobals X.mg := let ⟨o, es, ep, e, dd, r⟩ := I1.mod.glob; ⟨o, es, ep, I1.bk _ _ e, dd, r⟩
    obtain ⟨mb, ⟨o, es, ep, e, dd, r⟩, hbb⟩ := I1.mod.blt
    have hB : s1.heap.Ns builtinsNs mb := ⟨o, es, ep, I1.bk _ _ e, dd, r⟩
    obtain ⟨hp, g, dr, tk, os⟩ := s1
    refine wpAny_call (PySem.InX.made_ok T I1.kIn hlim hG hB (hbb _ (by decide)) (by omega) fun h' tk' e d M => ?_)
    show MkP X pins σ Q (.ref e) ⟨h', g, dr, tk', os⟩
    obtain ⟨oe, fv, hoe, hc, hd, hdat, h1⟩ := M.obj
    have hns := M.ns
    obtain ⟨G', g1, g2⟩ := restrict h' fun b => decide (b ≠ e)
    have gk : ∀ b, b ≠ e → G'.get? b = h'.get? b := fun b hb => g1 b (decide_eq_true hb)
    have ge : G'.get? e = none := g2 e (by simp)
    have old : ∀ b o, hp.get? b = some o → G'.get? b = some o := fun b o q => (gk b (Nat.ne_of_lt (Nat.lt_of_lt_of_le (Heap.lt_size q) M.new))).trans (M.keep b o q)
    have ob : ObjOk X.prog X.w (upd H1 d (.xd [(("reason" : Str), v)])) G' d (.xd [(("reason" : Str), v)]) :=
      ⟨_, hns.at (fun o q => (gk d M.dne).trans q), fun f => relO_reason rv f⟩
    have J : Inv X pins σ (upd H1 d (.xd [(("reason" : Str), v)])) ⟨G', g, dr, tk', os⟩ := I1.laid (t' := tk') old M.dbig ob
    have dn : H1 d = none := I1.hok.fresh M.dbig
    refine ⟨e, oe, fv, ⟨G', g, dr, tk', os⟩, _, .ref C, some d, rfl, J, fun b o q => ?_, ge, hoe, ⟨hc, hd⟩, hdat, h1, ?_, rfl, I1.bare, raises_own T.exC T.tyC, q1 C d _ T.gC (fun b u hb => by rw [upd_ne (ne_of_none hb dn)]; exact hb) upd_same⟩
    · by_cases hb : b = e
      · have q' : G'.get? b = some o := q
        rw [hb, ge] at q'; cases q'
      · exact (gk b hb).symm.trans q
    · rw [upd_ne (Ne.symm M.dne)]
      exact I1.hok.fresh M.new
end In
/-! part InQ -/
set_option Elab.async false
set_option linter.all false
set_option maxRecDepth 100000
set_option maxHeartbeats 2000000
/-! What the written part holds, looked up by the kernel. -/
namespace In
open PySem PySem.Spec PyProof.Rows L2
/-! ### constants -/
mutual
def datB (K : Frag) : PyData → Value → Bool
  | .none, .none => true
  | .bool b, .bool c => b == c
  | .int i, .int j _ => decide (i = j)
  | .str x, .str y _ => decide (x = y)
  | .tuple xs, .ref a => (match K.lookup a with
    | some ⟨.type c, _, .seq its _, _⟩ => decide (c = "tuple") && (decide (its.size ≤ sizeLine) && datBs K xs its.toList)
    | _ => false)
  | _, _ => false
def datBs (K : Frag) : List PyData → List Value → Bool
  | [], [] => true
  | x :: xs, u :: us => datB K x u && datBs K xs us
  | _, _ => false
end
mutual
theorem datB_ok {K : Frag} : ∀ {d : PyData} {u : Value}, datB K d u = true → ∃ v, RelV v u ∧ ∀ H, RP K H d v
  | .none, u, h => by
    cases u with
    | none => exact ⟨.non, rfl, fun _ => .non⟩
    | _ => simp [datB] at h
  | .bool b, u, h => by
    cases u with
    | bool c =>
      have e : b = c := by simpa [datB] using h
      exact ⟨.bl b, by rw [e]; rfl, fun _ => .bl b⟩
    | _ => simp [datB] at h
  | .int i, u, h => by
    cases u with
    | int j t =>
      have e : i = j := by simpa [datB] using h
      exact ⟨.int i, ⟨t, by rw [e]⟩, fun _ => .int i⟩
    | _ => simp [datB] at h
  | .str x, u, h => by
    cases u with
    | str y t =>
      have e : x = y := by simpa [datB] using h
      exact ⟨.str x, ⟨t, by rw [e]⟩, fun _ => .str x⟩
    | _ => simp [datB] at h
  | .list _, u, h => by cases u <;> simp [datB] at h
  | .dict _, u, h => by cases u <;> simp [datB] at h
  | .tuple xs, u, h => by
    cases u with
    | ref a =>
      cases q : K.lookup a with
      | none => simp [datB, q] at h
      | some o =>
        obtain ⟨oc, od, dt, osl⟩ := o
        cases oc with
        | type c =>
          cases dt with
          | seq its n =>
            simp only [datB, q, Bool.and_eq_true, decide_eq_true_eq] at h
            obtain ⟨h1, h2, h3⟩ := h
            obtain ⟨vs, rv, rr⟩ := datBs_ok h3
            exact ⟨.ref a, rfl, fun H => .tup (.inr ⟨_, its, n, q, congrArg Value.type h1, rfl, h2, rv⟩) (rr H)⟩
          | _ => simp [datB, q] at h
        | _ => simp [datB, q] at h
    | _ => simp [datB] at h
theorem datBs_ok {K : Frag} : ∀ {ds : List PyData} {us : List Value}, datBs K ds us = true → ∃ vs, Vals vs us ∧ ∀ H, RPs K H ds vs
  | [], [], _ => ⟨[], .nil, fun _ => .nil⟩
  | [], _ :: _, h => by simp [datBs] at h
  | _ :: _, [], h => by simp [datBs] at h
  | d :: ds, u :: us, h => by
    simp only [datBs, Bool.and_eq_true] at h
    obtain ⟨v, r1, q1⟩ := datB_ok h.1
    obtain ⟨vs, r2, q2⟩ := datBs_ok h.2
    exact ⟨v :: vs, .cons r1 r2, fun H => .cons (q1 H) (q2 H)⟩
end
/-- the module's name x holds d -/
def valB (K : Frag) (x : Str) (d : PyData) : Bool := match PySem.W.nsIn K mainGlobals x with
  | some (some u) => datB K d u
  | _ => false
theorem valB_ok {K : Frag} {h : Heap} {mg : Str → Option Value} (X : K.In h) (G : h.Ns mainGlobals mg) {x : Str} {d : PyData} (c : valB K x d = true) : ∃ v u, mg x = some u ∧ RelV v u ∧ ∀ H, RP K H d v := by
  unfold valB at c
  cases e : PySem.W.nsIn K mainGlobals x with
  | none => rw [e] at c; cases c
  | some o =>
    cases o with
    | none => rw [e] at c; cases c
    | some u =>
      rw [e] at c
      obtain ⟨v, r, q⟩ := datB_ok c
      exact ⟨v, u, PySem.W.mg_of X G e, r, q⟩
/-! ### no list stands in the written part -/
def noL : Value → Bool
  | .type n => !decide (n = "list")
  | _ => true
def nolB (K : Frag) : Bool := K.all fun p => noL p.2.cls
theorem mem_lk {β : Type} : ∀ {l : List (Addr × β)} {b : Addr} {o : β}, l.lookup b = some o → (b, o) ∈ l
  | [], _, _, e => by cases e
  | (a, x) :: l, b, o, e => by
    rw [List.lookup_cons] at e
    cases q : (b == a) with
    | true =>
      rw [q] at e
      have e' : x = o := Option.some.inj e
      rw [← e', eq_of_beq q]
      exact List.mem_cons_self
    | false =>
      rw [q] at e
      exact List.mem_cons_of_mem _ (mem_lk e)
theorem nolB_ok {K : Frag} (h : nolB K = true) (b : Addr) (o : Obj) (e : K.lookup b = some o) : o.cls ≠ .type "list" := by
  intro z
  have := List.all_eq_true.mp h (b, o) (mem_lk e)
  rw [show ((b, o) : Addr × Obj).2.cls = Value.type "list" from z] at this
  simp [noL] at this
/-! ### the error classes -/
def xcB (K : Frag) (C : Addr) : Bool := match K.lookup C with
  | some ⟨.type t, _, .cls cd, sl⟩ => (match cd.mro, sl.toList with
    | .ref C' :: bm, [_, _, _, _, some (.builtin n), _] => decide (t = "type") && decide (C' = C) && decide (n = "ValueError.__new__") && !cd.hasDel && cd.hasDict && HandSPX.refsVE bm
    | _, _ => false)
  | _ => false
theorem xcB_ok {K : Frag} {C : Addr} (q : xcB K C = true) : ∃ nm q N bs bm sn sub ab col dd k0 k1 k2 k3 k5, K.lookup C = some (excClassObj nm q C N bs bm true sn sub ab col dd k0 k1 k2 k3 k5 "ValueError.__new__") ∧ HandSPX.refsVE bm = true := by
  unfold xcB at q
  split at q
  · rename_i t dd cd sl ho
    split at q
    · rename_i C' bm k0 k1 k2 k3 n k5 hm hs
      simp only [Bool.and_eq_true, decide_eq_true_eq, Bool.not_eq_true'] at q
      obtain ⟨⟨⟨⟨⟨rfl, rfl⟩, rfl⟩, hdel⟩, hdi⟩, ht⟩ := q
      obtain ⟨nm, bs, mro, ns, qn, hd, sn, sub, ab, col, del⟩ := cd
      dsimp only at hm hdel hdi
      subst hm hdel hdi
      have hsl : sl = #[k0, k1, k2, k3, some (.builtin "ValueError.__new__"), k5] := by
        rw [← Array.toArray_toList (xs := sl), hs]
      subst hsl
      exact ⟨nm, qn, ns, bs, bm, sn, sub, ab, col, dd, k0, k1, k2, k3, k5, ho, ht⟩
    · cases q
  · cases q
def isIA : Arguments → Bool
  | ⟨[], [⟨a, none, _⟩, ⟨b, none, _⟩], none, [], [], none, []⟩ => decide (a = "self") && decide (b = "reason")
  | _ => false
theorem isIA_ok {a : Arguments} (h : isIA a = true) : ∃ p1 p2, a = PySem.InX.iA p1 p2 := by
  unfold isIA at h
  split at h
  · simp only [Bool.and_eq_true, decide_eq_true_eq] at h
    obtain ⟨rfl, rfl⟩ := h
    exact ⟨_, _, rfl⟩
  · cases h
def isIB : List Stmt → Bool
  | [.Expr (.Call (.Attribute (.Call (.Name s _) [] [] _) i ap) [.Name r _] [] cp) _, .Assign [.Attribute (.Name s2 _) r2 _] (.Name r3 _) _] =>
    decide (s = "super") && decide (i = "__init__") && decide (r = "reason") && decide (s2 = "self") && decide (r2 = "reason") && decide (r3 = "reason") && (ap.endLine == cp.line)
  | _ => false
theorem isIB_ok {b : List Stmt} (h : isIB b = true) : ∃ p0 p1 ap p2 cp ep q1 q2 q3 q4, b = PySem.InX.iB p0 p1 ap p2 cp ep q1 q2 q3 q4 ∧ (ap.endLine == cp.line) = true := by
  unfold isIB at h
  split at h
  · simp only [Bool.and_eq_true, decide_eq_true_eq] at h
    obtain ⟨⟨⟨⟨⟨⟨rfl, rfl⟩, rfl⟩, rfl⟩, rfl⟩, rfl⟩, hl⟩ := h
    exact ⟨_, _, _, _, _, _, _, _, _, _, rfl, hl⟩
  · cases h
/-- the class in whose text the function at f stands -/
def dOf (K : Frag) (f : Addr) : Addr := match K.lookup f with
  | some ⟨_, _, .func fd, _⟩ => (match fd.closure with
    | [(_, cc)] => (match K.lookup cc with
      | some ⟨_, _, .cell (some (.ref D)), _⟩ => D
      | _ => 0)
    | _ => 0)
  | _ => 0
def cellB (K : Frag) (cc D : Addr) : Bool := match K.lookup cc with
  | some ⟨_, _, .cell (some (.ref D')), _⟩ => decide (D' = D)
  | _ => false
def fileB (P : Program) (K : Frag) (cda : Addr) : Bool := match K.lookup cda with
  | some ⟨_, _, .fields vs, _⟩ => (match (vs[2]? : Option Value) with
    | some (.str file _) => (P.main.file : Str) == file
    | _ => false)
  | _ => false
def initSc (sc : Scope) : Bool := decide (sc = { kind := .function, names := [("self", .local), ("reason", .local), ("__class__", .free), ("super", .globalImplicit)], isGenerator := false, isCoroutine := false, more := sc.more })
def initB (P : Program) (K : Frag) (f D : Addr) : Bool := match K.lookup f with
  | some ⟨_, _, .func fd, _⟩ => (match fd.closure, fd.code, fd.body, fd.defaults, fd.kwdefaults with
    | [(nm, cc)], .ref cda, .stmts b, .none, .none => decide (nm = "__class__") && decide (fd.name = "__init__") && decide (fd.globals = mainGlobals) && decide (fd.builtins = builtinsNs) && isIA fd.params && isIB b && initSc fd.scope && PySem.W.codeIn K (.ref cda) fd.qualname && cellB K cc D && fileB P K cda
    | _, _, _, _, _ => false)
  | _ => false
theorem initB_ok {P : Program} {K : Frag} {f D : Addr} (h : initB P K f D = true) : ∃ (oc : Value) (od : Option Addr) (qual : Str) (sc : Scope) (doc pm : Value) (an : Option Addr) (cda cc : Addr) (ct : Value) (osl : Array (Option Value)) (a1 a2 p0 p1 ap p2 cp ep q1 q2 q3 q4 : Pos),
    K.lookup f = some ⟨oc, od, .func (PySem.W.ksFn "__init__" qual (PySem.InX.iA a1 a2) (PySem.InX.iB p0 p1 ap p2 cp ep q1 q2 q3 q4) sc .none .none doc pm an (.ref cda) ct cc), osl⟩ ∧ PySem.W.codeIn K (.ref cda) qual = true ∧
    sc = { kind := .function, names := [("self", .local), ("reason", .local), ("__class__", .free), ("super", .globalImplicit)], isGenerator := false, isCoroutine := false, more := sc.more } ∧ (ap.endLine == cp.line) = true ∧
    (∃ cl cld csl, K.lookup cc = some ⟨cl, cld, .cell (some (.ref D)), csl⟩) ∧ ∃ ccl cdd ccs vs file tf, K.lookup cda = some ⟨ccl, cdd, .fields vs, ccs⟩ ∧ vs[2]? = some (.str file tf) ∧ ((P.main.file : Str) == file) = true := by
  unfold initB at h
  split at h
  · rename_i oc od fd osl ho
    split at h
    · rename_i nm cc cda b e1 e2 e3 e4 e5
      simp only [Bool.and_eq_true, decide_eq_true_eq] at h
      obtain ⟨⟨⟨⟨⟨⟨⟨⟨⟨h1, h2⟩, h3⟩, h4⟩, h5⟩, h6⟩, h7⟩, h8⟩, h9⟩, h10⟩ := h
      obtain ⟨n1, n2, n3, n4, n5, n6, n7, n8, n9, n10, n11, n12, n13, n14, n15⟩ := fd
      dsimp only at e1 e2 e3 e4 e5 h1 h2 h3 h4 h5 h6 h7 h8
      subst e1 e2 e3 e4 e5 h1 h2 h3 h4
      obtain ⟨a1, a2, rfl⟩ := isIA_ok h5
      obtain ⟨p0, p1, ap, p2, cp, ep, q1, q2, q3, q4, rfl, hl⟩ := isIB_ok h6
      refine ⟨oc, od, n2, n5, n10, n11, n12, cda, cc, n14, osl, a1, a2, p0, p1, ap, p2, cp, ep, q1, q2, q3, q4, ho, h8, of_decide_eq_true h7, hl, ?_, ?_⟩
      · unfold cellB at h9
        split at h9
        · rename_i cl cld D' csl ho2
          have e := of_decide_eq_true h9
          subst e
          exact ⟨cl, cld, csl, ho2⟩
        · cases h9
      · unfold fileB at h10
        split at h10
        · rename_i ccl cdd vs ccs ho2
          split at h10
          · rename_i file tf ho3
            exact ⟨ccl, cdd, ccs, vs, file, tf, ho2, ho3, h10⟩
          · cases h10
        · cases h10
    · cases h
  · cases h
def rtB (P : Program) (K : Frag) (cn : Str) : Bool :=
  let C := He.ga K cn
  let f := He.ma K C "__init__"
  let D := dOf K f
  He.eqO (PySem.W.nsIn K mainGlobals cn) (some (some (.ref C))) && He.eqO (PySem.W.nsIn K mainGlobals "super") (some none) && xcB K C && He.eqO (PySem.W.findIn K (.ref C) "__setattr__") (some (some (.builtin "object.__setattr__"))) &&
  He.eqO (PySem.W.findIn K (.ref C) "reason") (some none) && He.eqO (PySem.W.findIn K (.ref C) "__init__") (some (some (.ref f))) && decide (PySem.W.typeIn K (.ref f) = some (.type "function")) && PySem.W.keepIn K (.ref C) &&
  decide (PySem.W.subIn K (.ref C) (.type "BaseException") = some true) && decide (PySem.W.typeIn K (.ref C) = some (.type "type")) && decide (PySem.W.subIn K (.ref C) (.type "ValueError") = some true) && He.eqO (PySem.W.nsIn K cStatics "thirdparty.any") (some none) &&
  He.eqO (PySem.W.ks_superIn K C D "__init__") (some (some (.builtin "ValueError.__init__"))) && (PySem.W.clsIn K D).isSome && decide (PySem.W.mroIn K C (.ref D) = some true) && !(P.main.scope.names.lookup ("super" : Str)).isSome && initB P K f D && xfB K C
theorem rtB_ok {P : Program} {K : Frag} {h : Heap} {mg : Str → Option Value} {cn : Str} (X : K.In h) (G : h.Ns mainGlobals mg) (c : rtB P K cn = true) : PySem.InX.RTxt P K mg cn (He.ga K cn) (dOf K (He.ma K (He.ga K cn) "__init__")) (He.ma K (He.ga K cn) "__init__") ∧ XfC K (He.ga K cn) := by
  unfold rtB at c
  simp only [Bool.and_eq_true, decide_eq_true_eq, Bool.not_eq_true'] at c
  obtain ⟨⟨⟨⟨⟨⟨⟨⟨⟨⟨⟨⟨⟨⟨⟨⟨⟨c1, c2⟩, c3⟩, c4⟩, c5⟩, c6⟩, c7⟩, c8⟩, c9⟩, c10⟩, c11⟩, c12⟩, c13⟩, c14⟩, c15⟩, c16⟩, c17⟩, c18⟩ := c
  exact ⟨⟨PySem.W.mg_of X G (He.eqO_ok c1), PySem.W.mg_none_of X G (He.eqO_ok c2), xcB_ok c3, He.eqO_ok c4, He.eqO_ok c5, He.eqO_ok c6, c7, c8, c9, c10, c11, He.eqO_ok c12, He.eqO_ok c13, Option.isSome_iff_exists.mp c14, c15, c16, initB_ok c17⟩, xfB_ok c18⟩
/-- one error class is the other only if it is it -/
def oneB (K : Frag) (ex : List Str) : Bool := ex.all fun c => ex.all fun c' => decide (PySem.W.exmOne K (.ref (He.ga K c)) (.ref (He.ga K c')) = some (decide (c = c')))
theorem exw_of {P : Program} {w : World} {K : Frag} {mg : Str → Option Value} {base : Heap} {ex : List Str} (X : K.In base) (G : base.Ns mainGlobals mg) (h1 : ex.all (rtB P K) = true) (h2 : oneB K ex = true) : ExW P w K mg base ex where
  cls := fun c hc => by
    obtain ⟨T, xf⟩ := rtB_ok X G (List.all_eq_true.mp h1 c hc)
    exact ⟨_, T.gC, xf, T.noN⟩
  one := fun c hc c' hc' C C' e e' => by
    obtain ⟨T, _⟩ := rtB_ok X G (List.all_eq_true.mp h1 c hc)
    obtain ⟨T', _⟩ := rtB_ok X G (List.all_eq_true.mp h1 c' hc')
    have q := of_decide_eq_true (List.all_eq_true.mp (List.all_eq_true.mp h2 c hc) c' hc')
    have e1 := T.gC.symm.trans e
    have e2 := T'.gC.symm.trans e'
    cases e1
    cases e2
    exact q
  make := fun c hc Y hP hw hK hm hb hcalm hr hg hd e te p pos he hs => by
    subst hP hw hK hm hb
    obtain ⟨T, _⟩ := rtB_ok X G (List.all_eq_true.mp h1 c hc)
    exact pmk_reason T (by have := hr.rm.dp; omega) he hg hd hs
/-! ### the hook -/
def ckB (G : Glo) (P : Program) (K : Frag) : Bool := nolB K && (G.free.all fun x => He.eqO (PySem.W.nsIn K mainGlobals x) (some none)) && (G.vals.all fun p => valB K p.1 p.2) && G.excs.all (rtB P K) && oneB K G.excs && G.defs.all fun p => He.eqO (PySem.W.nsIn K mainGlobals p.1) (some (some (.ref (He.ga K p.1))))
abbrev AlX : Type := Bool × He.AlD
def obsX (G : Glo) (P : Program) (fn : List He.DefD) (K : Frag) : AlX := (ckB G P K, He.obsD [] fn K)
def valX (fn : List He.DefD) : AlX := (true, He.valD fn)
def obsXG (n : Nat) (G : Glo) (P : Program) (fn : List He.DefD) (g : Addr → Option Obj) : AlX := obsX G P fn (He.frG g (He.asD g n ++ [cStatics]))
def SaysX (G : Glo) (P : Program) (fn : List He.DefD) (K : Frag) : Prop := ckB G P K = true ∧ He.SaysD [] fn K
def hookX (n : Nat) (G : Glo) (P : Program) (fn : List He.DefD) : PySem.W.Hook where
  α := AlX
  obs := fun s => obsXG n G P fn s.heap.get?
  val := fun _ => valX fn
  says := fun _ h => ∃ K : Frag, K.In h ∧ SaysX G P fn K
  of := fun _ _ e => ⟨_, He.frG_in, congrArg (fun z : AlX => z.1) e, congrArg (fun z : AlX => z.2) e⟩
  keeps := fun _ _ _ ⟨K, hK, c⟩ k => ⟨K, PySem.W.Frag.In.keeps hK k, c⟩
theorem obsXG_eq {n : Nat} {G : Glo} {P : Program} {fn : List He.DefD} {g : Addr → Option Obj} {s : Shared} (h : ∀ a, g a = s.heap.get? a) : obsXG n G P fn g = (hookX n G P fn).obs s := by
  have e : g = s.heap.get? := funext h
  rw [e] <;> rfl
section
variable {G : Glo} {P : Program} {fn : List He.DefD} {K : Frag} {h : Heap} {mg : Str → Option Value}
theorem SaysX.parts (c : SaysX G P fn K) : nolB K = true ∧ (∀ x ∈ G.free, He.eqO (PySem.W.nsIn K mainGlobals x) (some none) = true) ∧ (∀ p ∈ G.vals, valB K p.1 p.2 = true) ∧ G.excs.all (rtB P K) = true ∧ oneB K G.excs = true ∧ ∀ p ∈ G.defs, He.eqO (PySem.W.nsIn K mainGlobals p.1) (some (some (.ref (He.ga K p.1)))) = true := by
  have c1 := c.1
  unfold ckB at c1
  simp only [Bool.and_eq_true] at c1
  obtain ⟨⟨⟨⟨⟨c1, c2⟩, c3⟩, c4⟩, c5⟩, c6⟩ := c1
  exact ⟨c1, List.all_eq_true.mp c2, List.all_eq_true.mp c3, c4, c5, List.all_eq_true.mp c6⟩
theorem SaysX.nol (c : SaysX G P fn K) : ∀ b o, K.lookup b = some o → o.cls ≠ .type "list" := nolB_ok c.parts.1
theorem SaysX.wd0 {w : World} {base : Heap} (c : SaysX G P fn K) (X : K.In base) (Gn : base.Ns mainGlobals mg) : Wd0 G P w K mg base where
  free := fun x hx => PySem.W.mg_none_of X Gn (He.eqO_ok (c.parts.2.1 x hx))
  vals := fun x d hx => valB_ok X Gn (c.parts.2.2.1 (x, d) (PySem.mem_of_lookup hx))
  excs := exw_of X Gn c.parts.2.2.2.1 c.parts.2.2.2.2.1
theorem SaysX.glo (c : SaysX G P fn K) (X : K.In h) (Gn : h.Ns mainGlobals mg) {x : Str} {D : Dfn} (hx : G.defs.lookup x = some D) : mg x = some (.ref (He.ga K x)) := PySem.W.mg_of X Gn (He.eqO_ok (c.parts.2.2.2.2.2 (x, D) (PySem.mem_of_lookup hx)))
end
end In
/-! part InP -/
set_option Elab.async false
set_option linter.all false
set_option maxRecDepth 100000
set_option maxHeartbeats 1000000
/-! More rules: zip, tuple(range(n)), two names at once. -/
namespace In
open PySem PySem.Spec PyProof.Rows L2
section
variable {G : Glo} {c : Cc} {X : Cx} {g : Gx} {k : Nat} {W : Nat}
theorem opt2' {α : Type} {o p : Option PyData} {f : PyData → PyData → Option α} {v : α} (h : (o.bind fun x => p.bind fun y => f x y) = some v) : ∃ x y, o = some x ∧ p = some y ∧ f x y = some v := by
  obtain ⟨x, h1, h⟩ := Option.bind_eq_some_iff.mp h
  obtain ⟨y, h2, h⟩ := Option.bind_eq_some_iff.mp h
  exact ⟨x, y, h1, h2, h⟩
/-- which kind of sequence stands at a -/
theorem sq_kind {K : Frag} {m : Mp} {S : Sto} {H : Hp} {v : Vl} {x : V} {d : PyData} {xs : List PyData} (h : RV K m S H v x) (e : view S v = some d) :
    (d = .list xs → ∃ a, x = .ref a ∧ SqAt K true a xs (guard v) m S H) ∧ (d = .tuple xs → ∃ a, x = .ref a ∧ SqAt K false a xs (guard v) m S H) := by
  cases v with
  | d y =>
    cases e
    constructor
    · rintro rfl
      cases h with
      | lst h r => exact ⟨_, rfl, fun m' S' H' p s _ => ⟨_, (by rw [if_pos rfl]; exact (h.keep p.k).sql), RPs.keep p.k _ _ r⟩⟩
    · rintro rfl
      cases h with
      | tup h r => exact ⟨_, rfl, fun m' S' H' p s _ => ⟨_, (by rw [if_neg Bool.false_ne_true]; exact sqT_keep p.k h), RPs.keep p.k _ _ r⟩⟩
  | loc n =>
    have h0 := h
    obtain ⟨rfl, hl⟩ := h
    have e' : (S[n]?).map (fun c => c.obj.data) = some d := e
    rw [List.getElem?_eq_getElem hl] at e'
    simp only [Option.map_some, Option.some.injEq] at e'
    constructor
    · intro ed
      obtain ⟨l, a, ea, sq⟩ := sq_of (xs := xs) h0 e (by rw [ed]; rfl)
      cases l with
      | true => exact ⟨a, ea, sq⟩
      | false =>
        subst e'
        cases ho : S[n].obj with
        | dct kvs => rw [ho] at ed; cases ed
        | lst ys =>
          rw [ho] at ed
          cases ed
          refine ⟨_, rfl, fun m' S' H' p s ck => ?_⟩
          have ck' : S'[n]? = S[n]? := by
            have := List.all_eq_true.mp ck n (by simp [guard])
            exact of_decide_eq_true this
          rw [List.getElem?_eq_getElem hl] at ck'
          obtain ⟨u, h1, h2⟩ := s.at_ n _ ck'
          rw [ho] at h1
          obtain ⟨vs, rfl, r⟩ := h1
          refine ⟨vs, ?_, r⟩
          rw [if_pos rfl, ← p.map n hl]
          by_cases q : S[n].live = true
          · rw [if_pos q] at h2; exact .inl (.inl h2)
          · rw [if_neg q] at h2; exact .inl (.inr h2)
    · intro ed
      rw [ed] at e'
      cases ho : S[n].obj <;> (rw [ho] at e'; cases e')
theorem si_zip {elts : List Expr} {kk : Nat} {tpos p pos : Pos} {e e' : Expr} {a b : E} (hf : ("zip" : Str) ∈ G.free) (hg : glb c.sc "zip" = true) (ha : SE G c e a) (hb : SE G c e' b) (pl : plainE e = true) (pl' : plainE e' = true) :
    SI G c (.Tuple elts kk tpos) (.Call (.Name "zip" p) [e, e'] [] pos) (.zip a b) := by
  refine ⟨rfl, fun k X g C => (RZ.pi_zipA (C.gl hg) (C.wd.free _ hf) (pa2 (ha k X g C) (hb k X g C) pl pl') (plainE_is pl _ _) (nost_is _ _ (by simp [nost, pl']))).imp fun σ H Rk ⟨ρ, m, S, h, d⟩ => ?_⟩
  refine dE_of h (Den.bind (show Den g _ ((ev g.F a ρ S).bind fun v S1 => (ev g.F b ρ S1).bind fun w S2 => R.opt ((view S2 v).bind fun x => (view S2 w).bind fun y => (zip? x y).map fun zs => (zs, guard v ++ guard w)) S2) m S H _ from d)) fun v m1 S1 H1 p1 s1 d1 x rx => ?_
  refine dE_of (h.to p1 s1) d1.bind fun w m2 S2 H2 p2 s2 d2 y ry => ?_
  obtain ⟨q, e1, d3⟩ := Den.opt d2 s2
  obtain ⟨dx, dy, e2, e3, e4⟩ := opt2' e1
  obtain ⟨zs, e5, rfl⟩ := Option.map_eq_some_iff.mp e4
  have rx2 := rx.post p2
  rw [C.K] at rx2 ry d3 s2
  unfold zip? at e5
  split at e5
  · cases e5
    obtain ⟨a1, rfl, sq1⟩ := (sq_kind rx2 e2).1 rfl
    obtain ⟨a2, rfl, sq2⟩ := (sq_kind ry e3).1 rfl
    obtain ⟨vs, h1, _⟩ := sq1.now s2
    obtain ⟨ws, h2, _⟩ := sq2.now s2
    exact ⟨a1, a2, vs, ws, rfl, .inl ⟨by simpa using h1, by simpa using h2, d3 _ (wk_zip sq1 sq2)⟩⟩
  · cases e5
    obtain ⟨a1, rfl, sq1⟩ := (sq_kind rx2 e2).2 rfl
    obtain ⟨a2, rfl, sq2⟩ := (sq_kind ry e3).2 rfl
    obtain ⟨vs, h1, _⟩ := sq1.now s2
    obtain ⟨ws, h2, _⟩ := sq2.now s2
    exact ⟨a1, a2, vs, ws, rfl, .inr ⟨by simpa using h1, by simpa using h2, d3 _ (wk_zipT sq1 sq2)⟩⟩
  · cases e5
/-! ### tuple(range(n)) -/
theorem upFrom_eq : ∀ (n : Nat) (i : Int), upFrom i n = (List.range n).map fun j => i + (j : Nat)
  | 0, _ => rfl
  | n + 1, i => by
    rw [List.range_succ_eq_map, List.map_cons, List.map_map]
    show i :: upFrom (i + 1) n = _
    rw [upFrom_eq n (i + 1)]
    congr 1
    · simp
    · refine List.map_congr_left fun j _ => ?_
      show i + 1 + (j : Int) = i + ((j + 1 : Nat) : Int)
      omega
theorem rg_rps {K : Frag} {H : Hp} {a b : Int} : RPs K H ((upFrom a (b - a).toNat).map .int) (rgV a b) := by
  have e : rgV a b = (upFrom a (b - a).toNat).map V.int := by
    unfold rgV
    rw [upFrom_eq, List.map_map]
    rfl
  rw [e]
  exact RPs.ofInts _
theorem s_tupRg1 {p p2 pos pos2 : Pos} {e : Expr} {a : E} (hf : ("range" : Str) ∈ G.free) (hg : glb c.sc "range" = true) (hf2 : ("tuple" : Str) ∈ G.free) (hg2 : glb c.sc "tuple" = true) (ha : SE G c e a) (pl : plainE e = true) :
    SE G c (.Call (.Name "tuple" p2) [.Call (.Name "range" p) [e] [] pos] [] pos2) (.seq (.rng1 a)) := fun k X g C =>
  (pe_tupRg C.calm (C.gl hg2) (C.wd.free _ hf2) (prg_1 (C.gl hg) (C.wd.free _ hf) (ha k X g C) (plainE_is pl _ _))).imp fun σ H Q ⟨ρ, m, S, h, d⟩ => by
    simp only [ev, evI, R.bind_assoc] at d
    refine dE_of h d.bind fun v m1 S1 H1 p1 s1 d1 x rx => ?_
    cases v with
    | loc n => exact d1.elim
    | d y =>
      cases y with
      | int i =>
        cases rx
        obtain ⟨q, e1, d2⟩ := Den.opt (Den.bind d1) s1
        obtain ⟨zs, e2, rfl⟩ := Option.map_eq_some_iff.mp e1
        unfold range2 at e2
        split at e2
        · rename_i hr
          cases e2
          simp only [rangeOk, Bool.and_eq_true, decide_eq_true_eq] at hr
          split at d2
          · rename_i hz
            have hz' := of_decide_eq_true hz
            rw [List.length_map, upFrom_len] at hz'
            exact ⟨i, rfl, ⟨hr.1.1, hr.1.2, hr.2.1, hr.2.2, hz'⟩, Rs.tup (Den.data rfl s1 d2) rg_rps⟩
          · exact d2.elim
        · cases e2
      | _ => exact d1.elim
/-! ### a, b = x, y -/
def isStar : Expr → Bool
  | .Starred _ _ => true
  | _ => false
def swapB (c : Cc) (y z : Str) (px py : Pos) (vs : List Expr) : Bool :=
  decide (c.sc.kind = .function) && decide (c.sc.names.lookup y = some .local) && decide (c.sc.names.lookup z = some .local) && (py.line == px.line) && !(z == y) && decide (vs.length = 2) && !(vs.any isStar) && !(vs.all (foldedForSure 8)) && !(vs.all (constantsAlone 8))
theorem swapB_is {y z : Str} {px py pt pt2 : Pos} {kt k2 : Nat} {vs : List Expr} (h : swapB c y z px py vs = true) (env : PySem.Env) (he : env.scope = c.sc) : swappedStores [.Tuple [.Name y px, .Name z py] kt pt] (.Tuple vs k2 pt2) env = pure (some [y, z]) := by
  unfold swapB at h
  simp only [Bool.and_eq_true, decide_eq_true_eq, Bool.not_eq_true'] at h
  obtain ⟨⟨⟨⟨⟨⟨⟨⟨h1, h2⟩, h3⟩, h4⟩, h5⟩, h6⟩, h7⟩, h8⟩, h9⟩ := h
  have b1 : env.blockKind = .function := by unfold Env.blockKind; rw [he, h1]; rfl
  have k1 : env.kindOf y = some .local := by unfold Env.kindOf; rw [he]; exact h2
  have k2' : env.kindOf z = some .local := by unfold Env.kindOf; rw [he]; exact h3
  have hs : (vs.any fun | .Starred .. => true | _ => false) = false := by
    exact (congrArg vs.any (funext fun e => by cases e <;> rfl)).trans h7
  unfold swappedStores
  dsimp only [List.length_cons, List.length_nil, pure_bind]
  rw [if_neg (by simp [b1, h6])]
  refine (if_neg (fun z => Bool.false_ne_true (hs.symm.trans z))).trans ?_
  simp only [List.filterMap_cons, List.filterMap_nil, k1, k2', List.head?_cons, Option.map_some, Option.getD_some, Expr.pos, h4, beq_self_eq_true, Bool.and_self, Bool.true_and, if_true, h8, h9, Bool.false_eq_true, if_false]
  have hd : [y, z].eraseDups = [y, z] := by
    simp [List.eraseDups_cons, h5]
  rw [hd]
  rfl
end
end In
/-! part InN -/
set_option Elab.async false
set_option linter.all false
set_option maxRecDepth 100000
set_option maxHeartbeats 1000000
/-! From a text to the small language, with the reason why it is right. -/
namespace In
open PySem PySem.Spec PyProof.Rows L2
structure RE (G : Glo) (c : Cc) (e : Expr) where
  a : E
  ok : SE G c e a
structure RW (G : Glo) (c : Cc) (e : Expr) where
  a : E
  ok : ST G c e a
structure RA (G : Glo) (c : Cc) (es : List Expr) where
  a : Es
  ok : SA G c es a
structure RG (G : Glo) (c : Cc) (e : Expr) where
  a : T
  ok : SG G c e a
structure RGs (G : Glo) (c : Cc) (es : List Expr) where
  a : Ts
  ok : SGs G c es a
structure RI (G : Glo) (c : Cc) (tg e : Expr) where
  a : It
  ok : SI G c tg e a
structure RO (G : Glo) (c : Cc) (e : Option Expr) where
  a : Es
  ok : SO G c e a
structure RF (G : Glo) (c : Cc) (es : List Expr) where
  a : Es
  ok : STs G c es a
structure RV2 (G : Glo) (c : Cc) (e : Expr) where
  nw : Bool
  a : E
  ok : SV G c nw e a
structure RS (G : Glo) (c : Cc) (W : Nat) (e : Stmt) where
  a : C
  ok : SS G c W e a
structure RSs (G : Glo) (c : Cc) (W : Nat) (es : List Stmt) where
  a : Cs
  ok : SSs G c W es a
structure Cmp (G : Glo) (W : Nat) (mu : List Str) where
  e : ∀ c x, Option (RE G c x)
  t : ∀ c x, Option (RW G c x)
  as : ∀ c x, Option (RA G c x)
  g : ∀ c x, Option (RG G c x)
  gs : ∀ c x, Option (RGs G c x)
  i : ∀ c tg x, Option (RI G c tg x)
  o : ∀ c x, Option (RO G c x)
  f : ∀ c x, Option (RF G c x)
  s : ∀ c x, Option (RS G c W x)
  ss : ∀ c x, Option (RSs G c W x)
def chk? (p : Prop) [Decidable p] : Option (PLift p) := if h : p then some ⟨h⟩ else none
def ixOf (N : List Str) (x : Str) : Nat := N.findIdx (fun y => decide (y = x))
def b2Of : (op : Operator) → Option { o : B2 // opOf o = op }
  | .Add => some ⟨.add, rfl⟩
  | .Sub => some ⟨.sub, rfl⟩
  | .Mult => some ⟨.mul, rfl⟩
  | .FloorDiv => some ⟨.fdiv, rfl⟩
  | .Mod => some ⟨.mod, rfl⟩
  | .Pow => some ⟨.pow, rfl⟩
  | .LShift => some ⟨.shl, rfl⟩
  | .RShift => some ⟨.shr, rfl⟩
  | .BitAnd => some ⟨.band, rfl⟩
  | _ => none
def c2Of : (op : CmpOp) → { o : C2 // cmpOf o = op }
  | .Eq => ⟨.eq, rfl⟩
  | .NotEq => ⟨.ne, rfl⟩
  | .Lt => ⟨.lt, rfl⟩
  | .LtE => ⟨.le, rfl⟩
  | .Gt => ⟨.gt, rfl⟩
  | .GtE => ⟨.ge, rfl⟩
  | .Is => ⟨.is_, rfl⟩
  | .IsNot => ⟨.isnot, rfl⟩
  | .In => ⟨.isin, rfl⟩
  | .NotIn => ⟨.notin, rfl⟩
def ownOf (N : List Str) (sc : Scope) : List (Str × Nat) := sc.names.filterMap fun p => match p.2 with
  | .local => if p.1 ∈ N then some (p.1, ixOf N p.1) else none
  | .cell => if p.1 ∈ N then some (p.1, ixOf N p.1) else none
  | _ => none
section
variable {G : Glo} {W : Nat} {mu : List Str}
def nmE (c : Cc) (id : Str) (pos : Pos) : Option (RE G c (.Name id pos)) :=
  if h : glb c.sc id = true then (match hv : G.vals.lookup id with
    | some d => some ⟨.cst d, s_val hv h⟩
    | none => none)
  else if h : c.N[ixOf c.N id]? = some id ∧ vis c.sc id = true ∧ (id == ("__debug__" : Str)) = false ∧ (id == ("__classdict__" : Str)) = false then some ⟨.var (ixOf c.N id), s_var h.1 h.2.1 h.2.2.1 h.2.2.2⟩
  else none
/-- f(x) -/
def c1E (p : Cmp G W mu) (c : Cc) (f : Str) (pf : Pos) (x : Expr) (pos : Pos) : Option (RE G c (.Call (.Name f pf) [x] [] pos)) :=
  match hd : G.defs.lookup f with
  | some D => if h : glb c.sc f = true ∧ decide ([x].length ≤ D.ar ∧ D.ar ≤ [x].length + D.dfl.length) = true then (p.as c [x]).bind fun r => some ⟨_, s_call hd h.1 h.2 r.ok⟩ else none
  | none => match hb : biOf f with
    | some op => if h : f ∈ G.free ∧ glb c.sc f = true ∧ plainE x = true then (match x with
        | .Call (.Name "range" p2) [y] [] pos2 => if h2 : f = "tuple" ∧ ("range" : Str) ∈ G.free ∧ glb c.sc "range" = true ∧ plainE y = true then (p.e c y).bind fun r => some ⟨.seq (.rng1 r.a), by
            obtain ⟨rfl, h3, h4, h5⟩ := h2
            exact s_tupRg1 h3 h4 h.1 h.2.1 r.ok h5⟩ else none
        | x => (p.e c x).bind fun r => some ⟨.u1 op r.a, s_u1 (biOf_is hb) h.1 h.2.1 r.ok h.2.2⟩) else none
    | none => none
def typeOfName (y : Str) : Option { t : String // bootBuiltins y = some (.type t) ∧ y ≠ "__name__" } :=
  if h : y = "int" then some ⟨"int", by subst h; exact ⟨rfl, by decide⟩⟩
  else if h : y = "bool" then some ⟨"bool", by subst h; exact ⟨rfl, by decide⟩⟩
  else if h : y = "str" then some ⟨"str", by subst h; exact ⟨rfl, by decide⟩⟩
  else if h : y = "tuple" then some ⟨"tuple", by subst h; exact ⟨rfl, by decide⟩⟩
  else none
/-- f(x, y) -/
def c2E (p : Cmp G W mu) (c : Cc) (f : Str) (pf : Pos) (x y : Expr) (pos : Pos) : Option (RE G c (.Call (.Name f pf) [x, y] [] pos)) :=
  match hd : G.defs.lookup f with
  | some D => if h : glb c.sc f = true ∧ decide ([x, y].length ≤ D.ar ∧ D.ar ≤ [x, y].length + D.dfl.length) = true then (p.as c [x, y]).bind fun r => some ⟨_, s_call hd h.1 h.2 r.ok⟩ else none
  | none =>
    if h : f = "max" ∧ ("max" : Str) ∈ G.free ∧ glb c.sc "max" = true ∧ plainE x = true ∧ plainE y = true then (p.e c x).bind fun r => (p.e c y).bind fun q => some ⟨.u2 .max r.a q.a, by
      obtain ⟨rfl, h1, h2, h3, h4⟩ := h
      exact s_max2 h1 h2 r.ok q.ok h3 h4⟩
    else if h : f = "min" ∧ ("min" : Str) ∈ G.free ∧ glb c.sc "min" = true ∧ plainE x = true ∧ plainE y = true then (p.e c x).bind fun r => (p.e c y).bind fun q => some ⟨.u2 .min r.a q.a, by
      obtain ⟨rfl, h1, h2, h3, h4⟩ := h
      exact s_min2 h1 h2 r.ok q.ok h3 h4⟩
    else if hi : f = "isinstance" ∧ ("isinstance" : Str) ∈ G.free ∧ glb c.sc "isinstance" = true ∧ plainE x = true then (match y with
      | .Name y p2 => (typeOfName y).bind fun t => if h' : y ∈ G.free ∧ glb c.sc y = true then (p.e c x).bind fun r => some ⟨.isi r.a t.1, by
          obtain ⟨rfl, h1, h2, h3⟩ := hi
          exact s_isi t.2.1 h1 h2 h'.1 h'.2 t.2.2 r.ok h3⟩ else none
      | _ => none)
    else none
def cE (p : Cmp G W mu) (c : Cc) : (x : Expr) → Option (RE G c x)
  | .Name id pos => nmE c id pos
  | .Constant (.int i) j pos => some ⟨.cst (.int i), s_int⟩
  | .Constant (.str i) j pos => some ⟨.cst (.str i), s_str⟩
  | .Constant (.bool i) j pos => some ⟨.cst (.bool i), s_bl⟩
  | .Constant .none j pos => some ⟨.cst .none, s_non⟩
  | .Tuple es j pos => if h : decide (es.length ≤ 1000) = true then (p.as c es).bind fun r => some ⟨.tup r.a, s_tup r.ok h⟩ else none
  | .List es pos => if h : decide (es.length ≤ 1000) = true then (p.as c es).bind fun r => some ⟨.lst r.a, s_lst r.ok h⟩ else none
  | .BinOp x op y pos => (b2Of op).bind fun o => (p.e c x).bind fun r => (p.e c y).bind fun q => some ⟨.bin o.1 r.a q.a, by
      have := s_bin (pos := pos) o.1 r.ok q.ok
      rw [o.2] at this
      exact this⟩
  | .Compare x [op] [y] pos => if h : noSet y = true then (p.e c x).bind fun r => (p.e c y).bind fun q => some ⟨.cmp (c2Of op).1 r.a q.a, by
      have := s_cmp (pos := pos) (c2Of op).1 r.ok q.ok h
      rw [(c2Of op).2] at this
      exact this⟩ else none
  | .Compare x [op, op'] [y, z] pos => if h : noSet z = true then (p.e c x).bind fun r => (p.e c y).bind fun q => (p.e c z).bind fun u => some ⟨.ch (c2Of op).1 (c2Of op').1 r.a q.a u.a, by
      have := s_ch (pos := pos) (c2Of op).1 (c2Of op').1 r.ok q.ok u.ok h
      rw [(c2Of op).2, (c2Of op').2] at this
      exact this⟩ else none
  | .UnaryOp .USub x pos => (p.e c x).bind fun r => some ⟨.u1 .neg r.a, s_neg r.ok⟩
  | .UnaryOp .Not x pos => (p.e c x).bind fun r => some ⟨.not r.a, s_not r.ok⟩
  | .BoolOp op [x] pos => (p.e c x).bind fun r => some ⟨r.a, s_one r.ok⟩
  | .BoolOp .And (x :: y :: es) pos => (p.e c x).bind fun r => (p.e c (.BoolOp .And (y :: es) pos)).bind fun q => some ⟨.and r.a q.a, s_and r.ok q.ok⟩
  | .BoolOp .Or (x :: y :: es) pos => (p.e c x).bind fun r => (p.e c (.BoolOp .Or (y :: es) pos)).bind fun q => some ⟨.or r.a q.a, s_or r.ok q.ok⟩
  | .IfExp t x y pos => (p.t c t).bind fun r => (p.e c x).bind fun q => (p.e c y).bind fun u => some ⟨.ite r.a q.a u.a, s_ite r.ok q.ok u.ok⟩
  | .Subscript x (.Slice lo hi none p2) pos => (p.e c x).bind fun r => (p.o c lo).bind fun q => (p.o c hi).bind fun u => some ⟨.sl r.a q.a u.a, s_sl r.ok q.ok u.ok⟩
  | .Subscript x y pos => if h : plainX y = true then (p.e c x).bind fun r => (p.e c y).bind fun q => some ⟨.ix r.a q.a, s_ix r.ok q.ok h⟩ else none
  | .Call (.Name f pf) [x] [] pos => c1E p c f pf x pos
  | .Call (.Name f pf) [x, y] [] pos => c2E p c f pf x y pos
  | .Call (.Name f pf) (x :: es) [] pos => (match hd : G.defs.lookup f with
    | some D => if h : glb c.sc f = true ∧ decide ((x :: es).length ≤ D.ar ∧ D.ar ≤ (x :: es).length + D.dfl.length) = true then (p.as c (x :: es)).bind fun r => some ⟨_, s_call hd h.1 h.2 r.ok⟩ else none
    | none => none)
  | .ListComp elt [⟨tg, iter, ifs, 0⟩] scope pos => if h : blkC c.N c.sc scope (ownOf c.N scope) = true then (p.i c tg iter).bind fun r => (p.g (c.blk scope) tg).bind fun q => (p.f (c.blk scope) ifs).bind fun u => (p.e (c.blk scope) elt).bind fun v =>
      if h2 : (slT q.a).all (fun i => ((ownOf c.N scope).map (·.2)).contains i) = true then some ⟨.lc ((ownOf c.N scope).map (·.2)) q.a r.a u.a v.a, s_lc h r.ok q.ok h2 u.ok v.ok⟩ else none else none
  | .DictComp kx vx [⟨tg, iter, [], 0⟩] scope pos => if h : blkC c.N c.sc scope (ownOf c.N scope) = true then (p.i c tg iter).bind fun r => (p.g (c.blk scope) tg).bind fun q => (p.e (c.blk scope) kx).bind fun u => (p.e (c.blk scope) vx).bind fun v =>
      if h2 : (slT q.a).all (fun i => ((ownOf c.N scope).map (·.2)).contains i) = true then some ⟨.dc ((ownOf c.N scope).map (·.2)) q.a r.a u.a v.a, s_dc h r.ok q.ok h2 u.ok v.ok⟩ else none else none
  | _ => none
def wT (p : Cmp G W mu) (c : Cc) : (x : Expr) → Option { a : E // SW G c x a }
  | .BoolOp .And [x] pos => (p.t c x).bind fun r => some ⟨r.a, sw_and1 r.ok⟩
  | .BoolOp .Or [x] pos => (p.t c x).bind fun r => some ⟨r.a, sw_or1 r.ok⟩
  | .BoolOp .And [x, y] pos => (p.t c x).bind fun r => (p.t c y).bind fun q => some ⟨.and r.a q.a, sw_and r.ok (sw_and1 q.ok)⟩
  | .BoolOp .Or [x, y] pos => (p.t c x).bind fun r => (p.t c y).bind fun q => some ⟨.or r.a q.a, sw_or r.ok (sw_or1 q.ok)⟩
  | .BoolOp .And [x, y, z] pos => (p.t c x).bind fun r => (p.t c y).bind fun q => (p.t c z).bind fun u => some ⟨.and r.a (.and q.a u.a), sw_and r.ok (sw_and q.ok (sw_and1 u.ok))⟩
  | .BoolOp .Or [x, y, z] pos => (p.t c x).bind fun r => (p.t c y).bind fun q => (p.t c z).bind fun u => some ⟨.or r.a (.or q.a u.a), sw_or r.ok (sw_or q.ok (sw_or1 u.ok))⟩
  | .BoolOp .And [x, y, z, v] pos => (p.t c x).bind fun r => (p.t c y).bind fun q => (p.t c z).bind fun u => (p.t c v).bind fun w => some ⟨.and r.a (.and q.a (.and u.a w.a)), sw_and r.ok (sw_and q.ok (sw_and u.ok (sw_and1 w.ok)))⟩
  | .BoolOp .Or [x, y, z, v] pos => (p.t c x).bind fun r => (p.t c y).bind fun q => (p.t c z).bind fun u => (p.t c v).bind fun w => some ⟨.or r.a (.or q.a (.or u.a w.a)), sw_or r.ok (sw_or q.ok (sw_or u.ok (sw_or1 w.ok)))⟩
  | _ => none
def cT (p : Cmp G W mu) (c : Cc) : (x : Expr) → Option (RW G c x)
  | .Compare x [op] [y] pos => if h : noSet y = true then (p.e c x).bind fun r => (p.e c y).bind fun q => some ⟨.cmp (c2Of op).1 r.a q.a, by
      have := st_cmp (pos := pos) (c2Of op).1 r.ok q.ok h
      rw [(c2Of op).2] at this
      exact this⟩ else none
  | .Compare x [op, op'] [y, z] pos => if h : noSet z = true then (p.e c x).bind fun r => (p.e c y).bind fun q => (p.e c z).bind fun u => some ⟨.ch (c2Of op).1 (c2Of op').1 r.a q.a u.a, by
      have := st_ch (pos := pos) (c2Of op).1 (c2Of op').1 r.ok q.ok u.ok h
      rw [(c2Of op).2, (c2Of op').2] at this
      exact this⟩ else none
  | .UnaryOp .Not x pos => (p.t c x).bind fun r => some ⟨.not r.a, st_not r.ok⟩
  | .BoolOp op es pos => (wT p c (.BoolOp op es pos)).bind fun r => some ⟨r.1, sw_t r.2⟩
  | x => if h : plainT x = true then (p.e c x).bind fun r => some ⟨r.a, st_of r.ok h⟩ else none
def cAs (p : Cmp G W mu) (c : Cc) : (x : List Expr) → Option (RA G c x)
  | [] => some ⟨.nil, sa_nil⟩
  | x :: es => if h : plainE x = true then (p.e c x).bind fun r => (p.as c es).bind fun q => some ⟨.cons r.a q.a, sa_cons r.ok h q.ok⟩ else none
def cG (p : Cmp G W mu) (c : Cc) : (x : Expr) → Option (RG G c x)
  | .Name id pos => if h : c.N[ixOf c.N id]? = some id ∧ sto c id = true then some ⟨.nm (ixOf c.N id), sg_name h.1 h.2⟩ else none
  | .Tuple es j pos => (p.gs c es).bind fun r => some ⟨.tp r.a, sg_tup r.ok⟩
  | _ => none
def cGs (p : Cmp G W mu) (c : Cc) : (x : List Expr) → Option (RGs G c x)
  | [] => some ⟨.nil, sgs_nil⟩
  | x :: es => if h : plainE x = true then (p.g c x).bind fun r => (p.gs c es).bind fun q => some ⟨.cons r.a q.a, sgs_cons r.ok h q.ok⟩ else none
def cI (p : Cmp G W mu) (c : Cc) (tg : Expr) : (x : Expr) → Option (RI G c tg x)
  | .Call (.Name "range" pf) [x] [] pos => if h : ("range" : Str) ∈ G.free ∧ glb c.sc "range" = true ∧ plainE x = true then (p.e c x).bind fun r => some ⟨.rng1 r.a, si_rng1 h.1 h.2.1 r.ok h.2.2⟩ else none
  | .Call (.Name "range" pf) [x, y] [] pos => if h : ("range" : Str) ∈ G.free ∧ glb c.sc "range" = true ∧ plainE x = true ∧ plainE y = true then (p.e c x).bind fun r => (p.e c y).bind fun q => some ⟨.rng2 r.a q.a, si_rng2 h.1 h.2.1 r.ok q.ok h.2.2.1 h.2.2.2⟩ else none
  | .Call (.Name "enumerate" pf) [x] [] pos => (match tg with
    | .Tuple elts kk tpos => if h : ("enumerate" : Str) ∈ G.free ∧ glb c.sc "enumerate" = true ∧ plainE x = true then (p.e c x).bind fun r => some ⟨.enum r.a, si_enum h.1 h.2.1 r.ok h.2.2⟩ else none
    | _ => none)
  | .Call (.Name "zip" pf) [x, y] [] pos => (match tg with
    | .Tuple elts kk tpos => if h : ("zip" : Str) ∈ G.free ∧ glb c.sc "zip" = true ∧ plainE x = true ∧ plainE y = true then (p.e c x).bind fun r => (p.e c y).bind fun q => some ⟨.zip r.a q.a, si_zip h.1 h.2.1 r.ok q.ok h.2.2.1 h.2.2.2⟩ else none
    | _ => none)
  | x => if h : noSet x = true then (p.e c x).bind fun r => some ⟨.e r.a, si_e r.ok h⟩ else none
def cO (p : Cmp G W mu) (c : Cc) : (x : Option Expr) → Option (RO G c x)
  | none => some ⟨.nil, so_none⟩
  | some x => (p.e c x).bind fun r => some ⟨.cons r.a .nil, so_some r.ok⟩
def cF (p : Cmp G W mu) (c : Cc) : (x : List Expr) → Option (RF G c x)
  | [] => some ⟨.nil, sts_nil⟩
  | [x] => (p.t c x).bind fun r => some ⟨.cons r.a .nil, sts_one r.ok⟩
  | _ => none
/-- a new container -/
def cV (p : Cmp G W mu) (c : Cc) : (x : Expr) → Option { a : E // SV G c true x a }
  | .List es pos => if h : decide (es.length ≤ 1000) = true then (p.as c es).bind fun r => some ⟨.lst r.a, sv_lst r.ok h⟩ else none
  | .Call (.Name f pf) [x] [] pos => if h : f ∈ G.free ∧ glb c.sc f = true ∧ plainE x = true then
      (if h1 : f = "list" then (p.e c x).bind fun r => some ⟨.u1 .list r.a, by subst h1; exact sv_u1 (fun X _ => call_listU) (.inr ⟨_, rfl⟩) rfl (by decide) h.1 h.2.1 r.ok h.2.2⟩
      else if h1 : f = "sorted" then (p.e c x).bind fun r => some ⟨.u1 .sorted r.a, by subst h1; exact sv_u1 (fun X hc => call_sortedU hc) (.inl ⟨_, rfl⟩) rfl (by decide) h.1 h.2.1 r.ok h.2.2⟩
      else if h1 : f = "dict" then (p.e c x).bind fun r => some ⟨.u1 .dict r.a, by subst h1; exact sv_u1 (fun X hc => call_dictU hc) (.inr ⟨_, rfl⟩) rfl (by decide) h.1 h.2.1 r.ok h.2.2⟩
      else none) else none
  | _ => none
def vE (p : Cmp G W mu) (c : Cc) (y : Str) (x : Expr) : Option (RV2 G c x) :=
  if y ∈ mu then (cV p c x).bind fun r => some ⟨true, r.1, r.2⟩ else (p.e c x).bind fun r => some ⟨false, r.a, sv_of r.ok⟩
def cS (p : Cmp G W mu) (c : Cc) : (x : Stmt) → Option (RS G c W x)
  | .Assign [.Name y py] (.ListComp elt [⟨tg, iter, ifs, 0⟩] scope pos) spos =>
    if h : c.N[ixOf c.N y]? = some y ∧ c.sc.names.lookup y = some .local ∧ (py.line == pos.line) = true ∧ (scope.names.any fun (n, k) => n == y && (k == .local || k == .cell)) = false ∧ blkC c.N c.sc scope (ownOf c.N scope) = true then
      (p.i c tg iter).bind fun r => (p.g (c.blk scope) tg).bind fun q => (p.f (c.blk scope) ifs).bind fun u => (p.e (c.blk scope) elt).bind fun v =>
      if h2 : (slT q.a).all (fun i => ((ownOf c.N scope).map (·.2)).contains i) = true then some ⟨.asg (.nm (ixOf c.N y)) (.lc ((ownOf c.N scope).map (·.2)) q.a r.a u.a v.a), s_setLc h.1 h.2.1 h.2.2.1 h.2.2.2.1 h.2.2.2.2 r.ok q.ok h2 u.ok v.ok⟩ else none else none
  | .Assign [.Tuple [.Name y px, .Name z py] kt pt] (.Tuple [x, x'] k2 pt2) pos =>
    if h : swapB c y z px py [x, x'] = true ∧ c.N[ixOf c.N y]? = some y ∧ c.N[ixOf c.N z]? = some z ∧ decide (ixOf c.N y ≠ ixOf c.N z) = true ∧ c.sc.names.lookup y = some .local ∧ c.sc.names.lookup z = some .local ∧ plainE x = true ∧ plainE x' = true then
      (vE p c y x).bind fun r => (vE p c z x').bind fun q => some ⟨.par (ixOf c.N y) (ixOf c.N z) r.nw q.nw r.a q.a, s_par h.2.1 h.2.2.1 h.2.2.2.1 h.2.2.2.2.1 h.2.2.2.2.2.1 r.ok q.ok h.2.2.2.2.2.2.1 h.2.2.2.2.2.2.2 fun env he => swapB_is h.1 env he⟩ else none
  | .Assign [.Subscript o i tpos] x pos => if h : noComp x = true ∧ plainX i = true then (p.e c o).bind fun r => (p.e c i).bind fun q => (p.e c x).bind fun u => some ⟨.six r.a q.a u.a, s_six r.ok q.ok u.ok h.1 h.2⟩ else none
  | .Assign [.Name y py] x pos => if y ∈ mu then (if h : c.N[ixOf c.N y]? = some y ∧ sto c y = true ∧ noComp x = true then (cV p c x).bind fun r => some ⟨.new (ixOf c.N y) r.1, s_new h.1 h.2.1 r.2 h.2.2⟩ else none)
      else if h : noComp x = true then (p.g c (.Name y py)).bind fun r => (p.e c x).bind fun q => some ⟨.asg r.a q.a, s_asg r.ok q.ok h rfl rfl⟩ else none
  | .Assign [tg] x pos => if h : noComp x = true ∧ (noTup tg || noTup x) = true ∧ plainE tg = true then (p.g c tg).bind fun r => (p.e c x).bind fun q => some ⟨.asg r.a q.a, s_asg r.ok q.ok h.1 h.2.1 h.2.2⟩ else none
  | .AugAssign (.Name y py) .Add x pos => if h : c.N[ixOf c.N y]? = some y ∧ sto c y = true then (p.e c x).bind fun r => some ⟨.aug (ixOf c.N y) .add r.a, s_augAdd h.1 h.2 r.ok⟩ else none
  | .AugAssign (.Name y py) .Sub x pos => if h : c.N[ixOf c.N y]? = some y ∧ sto c y = true then (p.e c x).bind fun r => some ⟨.aug (ixOf c.N y) .sub r.a, s_augSub h.1 h.2 r.ok⟩ else none
  | .Expr (.Call (.Attribute o "append" apos) [x] [] cpos) pos => if h : plainE x = true ∧ noCall o = true ∧ (apos.endLine == cpos.line) = true then (p.e c o).bind fun r => (p.e c x).bind fun q => some ⟨.app r.a q.a, s_app r.ok q.ok h.1 h.2.1 h.2.2⟩ else none
  | .Expr x pos => if h : noComp x = true then (p.e c x).bind fun r => some ⟨.drop r.a, s_drop r.ok h⟩ else none
  | .If t x y pos => (p.t c t).bind fun r => (p.ss c x).bind fun q => (p.ss c y).bind fun u => some ⟨.ite r.a q.a u.a, s_ifS r.ok q.ok u.ok⟩
  | .For tg iter b [] pos => (p.g c tg).bind fun r => (p.i c tg iter).bind fun q => (p.ss c b).bind fun u => some ⟨.loop r.a q.a u.a, s_loop r.ok q.ok u.ok⟩
  | .While t b [] pos => (p.t c t).bind fun r => (p.ss c b).bind fun q => some ⟨.whl r.a q.a, s_whl r.ok q.ok⟩
  | .Return (some x) pos => (p.e c x).bind fun r => some ⟨.ret r.a, s_ret r.ok⟩
  | .Return none pos => some ⟨.retN, s_retN⟩
  | .Pass pos => some ⟨.pass, s_pass⟩
  | .Break pos => some ⟨.brk, s_brk⟩
  | .Continue pos => some ⟨.cont, s_cont⟩
  | .Raise (some (.Call (.Name cn p1) [x] [] cpos)) none pos => if h : cn ∈ G.excs ∧ glb c.sc cn = true ∧ plainE x = true then (p.e c x).bind fun r => some ⟨.raise cn r.a, s_raise h.1 h.2.1 r.ok h.2.2⟩ else none
  | .Try b [.ExceptHandler (some (.Name x np)) (some n) [.Return (some (.Tuple [.Constant (.str tag) j1 p1, .Attribute (.Name n' ep) "reason" ap] j2 tp)) rp] pos'] [] [] pos =>
    if h : n' = n ∧ x ∈ G.excs ∧ glb c.sc x = true ∧ c.N[ixOf c.N n]? = some n ∧ c.sc.names.lookup n = some .local ∧ (n == ("__debug__" : Str)) = false ∧ (n == ("__classdict__" : Str)) = false then
      (p.ss c b).bind fun r => some ⟨.tryS r.a [(x, tag)], by
        obtain ⟨rfl, h1, h2, h3, h4, h5, h6⟩ := h
        exact s_try h1 h2 h3 h4 h5 h6 r.ok⟩ else none
  | _ => none
def cSs (p : Cmp G W mu) (c : Cc) : (x : List Stmt) → Option (RSs G c W x)
  | [] => some ⟨.nil, ss_nil⟩
  | x :: es => (p.s c x).bind fun r => (p.ss c es).bind fun q => some ⟨.cons r.a q.a, ss_cons r.ok q.ok⟩
def cmp0 : Cmp G W mu := ⟨fun _ _ => none, fun _ _ => none, fun _ _ => none, fun _ _ => none, fun _ _ => none, fun _ _ _ => none, fun _ _ => none, fun _ _ => none, fun _ _ => none, fun _ _ => none⟩
def cmpN : Nat → Cmp G W mu
  | 0 => cmp0
  | n + 1 => let p := cmpN n
    ⟨cE p, cT p, cAs p, cG p, cGs p, cI p, cO p, cF p, cS p, cSs p⟩
/-- a def's body -/
def body? (G : Glo) (W : Nat) (mu : List Str) (N : List Str) (sc : Scope) (b : List Stmt) : Option Cs := ((cmpN (G := G) (W := W) (mu := mu) 60).ss ⟨N, sc, fun _ => true⟩ b).map (·.a)
theorem body_ok {G : Glo} {W : Nat} {mu N : List Str} {sc : Scope} {b : List Stmt} {a : Cs} (h : body? G W mu N sc b = some a) : SSs G ⟨N, sc, fun _ => true⟩ W b a := by
  obtain ⟨r, _, e⟩ := Option.map_eq_some_iff.mp h
  rw [← e]
  exact r.ok
end
end In
/-! part Tx74 -/
set_option Elab.async false
set_option linter.all false
set_option maxRecDepth 100000
set_option maxHeartbeats 0
/-! The law's text, read. -/
namespace Tx
open PySem PySem.Spec PyProof.Rows L2 In
def top (i : Nat) : Stmt := PySem.Challenge.pw_timewrought_k74_whole_pulses.main.body.getD i (.Pass ⟨0, 0, 0, 0⟩)
def G : Glo where
  free := ["len", "range", "abs", "int", "isinstance", "tuple", "list", "dict", "sorted", "min", "max", "sum", "all", "any", "zip", "enumerate", "repr", "bool", "str"]
  vals := ([("MAX_BEATS", .int 40), ("MAX_MOMENT", .int 1000000), ("WORDS", .tuple [.str "and", .str "or", .str "unlike"])] : List (Str × PyData))
  defs := ([("is_integer", ⟨0, 1, []⟩), ("in_range", ⟨1, 3, []⟩), ("is_signal", ⟨2, 1, []⟩), ("demand_signal", ⟨3, 2, [.str "signal"]⟩), ("value_of", ⟨4, 2, []⟩), ("value_at", ⟨5, 2, []⟩), ("from_values", ⟨6, 2, []⟩), ("turned", ⟨7, 1, []⟩), ("demand_wait", ⟨8, 2, []⟩), ("delayed", ⟨9, 2, []⟩), ("joined", ⟨10, 3, []⟩), ("put", ⟨11, 3, []⟩), ("together", ⟨12, 3, []⟩), ("filtered_of", ⟨13, 2, []⟩), ("filtered", ⟨14, 2, []⟩), ("widened", ⟨15, 2, []⟩), ("turned_widened", ⟨16, 2, []⟩), ("held_on", ⟨17, 2, []⟩), ("held_off", ⟨18, 2, []⟩), ("pulses", ⟨19, 1, []⟩), ("measure", ⟨20, 3, []⟩), ("shortest", ⟨21, 1, []⟩), ("first_unlike", ⟨22, 2, []⟩), ("kept_rises", ⟨23, 3, []⟩), ("_law_draws", ⟨24, 1, []⟩), ("_law_more", ⟨25, 2, []⟩), ("_law_take", ⟨26, 3, []⟩), ("_law_one", ⟨27, 3, []⟩), ("_law_same_as", ⟨28, 2, []⟩), ("_law_signal", ⟨29, 4, []⟩)] : List (Str × Dfn)) ++ ([("_law_value", ⟨30, 2, []⟩), ("_law_spans", ⟨31, 1, []⟩), ("_law_written", ⟨32, 3, []⟩), ("_law_is_held", ⟨33, 3, []⟩), ("_law_held_on", ⟨34, 2, []⟩), ("_law_held_off", ⟨35, 2, []⟩), ("_law_filtered", ⟨36, 2, []⟩), ("_law_put", ⟨37, 3, []⟩), ("_law_joined", ⟨38, 3, []⟩), ("_law_kept", ⟨39, 3, []⟩), ("_law_told", ⟨40, 4, []⟩), ("_law_one_fits", ⟨41, 3, []⟩), ("law", ⟨42, 1, []⟩)] : List (Str × Dfn))
  excs := ["ArgumentError"]

abbrev W : Nat := 1000000000
def N_0 : List Str := ["value"]
/-- is_integer -/
def b_0 : Cs := (.cons (.ret (.and (.isi (.var 0) "int") (.not (.isi (.var 0) "bool")))) .nil)
def N_1 : List Str := ["value", "least", "most"]
/-- in_range -/
def b_1 : Cs := (.cons (.ret (.and (.call 0 (.cons (.var 0) .nil) []) (.ch .le .le (.var 1) (.var 0) (.var 2)))) .nil)
def N_2 : List Str := ["value", "time", "one", "other"]
/-- is_signal -/
def b_2 : Cs := (.cons (.ite (.or (.not (.isi (.var 0) "tuple")) (.or (.cmp .ne (.u1 .len (.var 0)) (.cst (.int 2))) (.not (.call 1 (.cons (.ix (.var 0) (.cst (.int 0))) (.cons (.cst (.int 0)) (.cons (.cst (.int 1)) .nil))) [])))) (.cons (.ret (.cst (.bool false))) .nil) .nil) (.cons (.ite (.or (.not (.isi (.ix (.var 0) (.cst (.int 1))) "tuple")) (.cmp .gt (.u1 .len (.ix (.var 0) (.cst (.int 1)))) (.cst (.int 40)))) (.cons (.ret (.cst (.bool false))) .nil) .nil) (.cons (.ite (.not (.u1 .all (.lc [1] (.nm 1) (.e (.ix (.var 0) (.cst (.int 1)))) .nil (.call 1 (.cons (.var 1) (.cons (.u1 .neg (.cst (.int 1000000))) (.cons (.cst (.int 1000000)) .nil))) [])))) (.cons (.ret (.cst (.bool false))) .nil) .nil) (.cons (.ret (.u1 .all (.lc [2, 3] (.tp (.cons (.nm 2) (.cons (.nm 3) .nil))) (.zip (.sl (.ix (.var 0) (.cst (.int 1))) .nil (.cons (.u1 .neg (.cst (.int 1))) .nil)) (.sl (.ix (.var 0) (.cst (.int 1))) (.cons (.cst (.int 1)) .nil) .nil)) .nil (.cmp .lt (.var 2) (.var 3))))) .nil))))
def N_3 : List Str := ["signal", "reason"]
/-- demand_signal -/
def b_3 : Cs := (.cons (.ite (.not (.call 2 (.cons (.var 0) .nil) [])) (.cons (.raise "ArgumentError" (.var 1)) .nil) .nil) .nil)
def N_4 : List Str := ["signal", "time", "one"]
/-- value_of -/
def b_4 : Cs := (.cons (.ret (.bin .mod (.bin .add (.ix (.var 0) (.cst (.int 0))) (.u1 .len (.lc [2] (.nm 2) (.e (.ix (.var 0) (.cst (.int 1)))) (.cons (.cmp .le (.var 2) (.var 1)) .nil) (.var 2)))) (.cst (.int 2)))) .nil)
def N_5 : List Str := ["signal", "time"]
/-- value_at -/
def b_5 : Cs := (.cons (.drop (.call 3 (.cons (.var 0) .nil) [(.str "signal")])) (.cons (.ite (.not (.call 1 (.cons (.var 1) (.cons (.u1 .neg (.cst (.int 1000000))) (.cons (.cst (.int 1000000)) .nil))) [])) (.cons (.raise "ArgumentError" (.cst (.str "time"))) .nil) .nil) (.cons (.ret (.call 4 (.cons (.var 0) (.cons (.var 1) .nil)) [])) .nil)))
def N_6 : List Str := ["begin", "rows", "times", "here", "time", "value"]
/-- from_values -/
def b_6 : Cs := (.cons (.new 2 (.lst .nil)) (.cons (.asg (.nm 3) (.var 0)) (.cons (.loop (.tp (.cons (.nm 4) (.cons (.nm 5) .nil))) (.e (.var 1)) (.cons (.ite (.cmp .ne (.var 5) (.var 3)) (.cons (.app (.var 2) (.var 4)) (.cons (.asg (.nm 3) (.var 5)) .nil)) .nil) .nil)) (.cons (.ret (.tup (.cons (.var 0) (.cons (.u1 .tuple (.var 2)) .nil)))) .nil))))
def N_7 : List Str := ["signal"]
/-- turned -/
def b_7 : Cs := (.cons (.drop (.call 3 (.cons (.var 0) .nil) [(.str "signal")])) (.cons (.ret (.tup (.cons (.bin .sub (.cst (.int 1)) (.ix (.var 0) (.cst (.int 0)))) (.cons (.ix (.var 0) (.cst (.int 1))) .nil)))) .nil))
def N_8 : List Str := ["wait", "reason"]
/-- demand_wait -/
def b_8 : Cs := (.cons (.ite (.not (.call 1 (.cons (.var 0) (.cons (.cst (.int 0)) (.cons (.cst (.int 1000000)) .nil))) [])) (.cons (.raise "ArgumentError" (.var 1)) .nil) .nil) .nil)
def N_9 : List Str := ["signal", "wait", "time"]
/-- delayed -/
def b_9 : Cs := (.cons (.drop (.call 3 (.cons (.var 0) .nil) [(.str "signal")])) (.cons (.drop (.call 8 (.cons (.var 1) (.cons (.cst (.str "wait")) .nil)) [])) (.cons (.ret (.tup (.cons (.ix (.var 0) (.cst (.int 0))) (.cons (.u1 .tuple (.lc [2] (.nm 2) (.e (.ix (.var 0) (.cst (.int 1)))) .nil (.bin .add (.var 2) (.var 1)))) .nil)))) .nil)))
def N_10 : List Str := ["first", "second", "word", "times", "begin", "time"]
/-- joined -/
def b_10 : Cs := (.cons (.asg (.nm 3) (.u1 .sorted (.dc [5] (.nm 5) (.e (.bin .add (.ix (.var 0) (.cst (.int 1))) (.ix (.var 1) (.cst (.int 1))))) (.var 5) (.cst (.bool true))))) (.cons (.asg (.nm 4) (.call 11 (.cons (.ix (.var 0) (.cst (.int 0))) (.cons (.ix (.var 1) (.cst (.int 0))) (.cons (.var 2) .nil))) [])) (.cons (.ret (.call 6 (.cons (.var 4) (.cons (.lc [5] (.nm 5) (.e (.var 3)) .nil (.tup (.cons (.var 5) (.cons (.call 11 (.cons (.call 4 (.cons (.var 0) (.cons (.var 5) .nil)) []) (.cons (.call 4 (.cons (.var 1) (.cons (.var 5) .nil)) []) (.cons (.var 2) .nil))) []) .nil)))) .nil)) [])) .nil)))
def N_11 : List Str := ["one", "other", "word"]
/-- put -/
def b_11 : Cs := (.cons (.ite (.cmp .eq (.var 2) (.cst (.str "and"))) (.cons (.ret (.bin .mul (.var 0) (.var 1))) .nil) .nil) (.cons (.ret (.ite (.cmp .eq (.var 2) (.cst (.str "or"))) (.u2 .max (.var 0) (.var 1)) (.u1 .abs (.bin .sub (.var 0) (.var 1))))) .nil))
def N_12 : List Str := ["first", "second", "word"]
/-- together -/
def b_12 : Cs := (.cons (.drop (.call 3 (.cons (.var 0) (.cons (.cst (.str "first")) .nil)) [])) (.cons (.drop (.call 3 (.cons (.var 1) (.cons (.cst (.str "second")) .nil)) [])) (.cons (.ite (.or (.not (.isi (.var 2) "str")) (.cmp .notin (.var 2) (.cst (.tuple [(.str "and"), (.str "or"), (.str "unlike")])))) (.cons (.raise "ArgumentError" (.cst (.str "word"))) .nil) .nil) (.cons (.ret (.call 10 (.cons (.var 0) (.cons (.var 1) (.cons (.var 2) .nil))) [])) .nil))))
def N_13 : List Str := ["signal", "least", "rows", "times", "place", "time"]
/-- filtered_of -/
def b_13 : Cs := (.cons (.new 2 (.lst .nil)) (.cons (.asg (.nm 3) (.ix (.var 0) (.cst (.int 1)))) (.cons (.loop (.tp (.cons (.nm 4) (.cons (.nm 5) .nil))) (.enum (.var 3)) (.cons (.ite (.or (.cmp .eq (.bin .add (.var 4) (.cst (.int 1))) (.u1 .len (.var 3))) (.cmp .ge (.bin .sub (.ix (.var 3) (.bin .add (.var 4) (.cst (.int 1)))) (.var 5)) (.var 1))) (.cons (.app (.var 2) (.tup (.cons (.bin .add (.var 5) (.var 1)) (.cons (.call 4 (.cons (.var 0) (.cons (.var 5) .nil)) []) .nil)))) .nil) .nil) .nil)) (.cons (.ret (.call 6 (.cons (.ix (.var 0) (.cst (.int 0))) (.cons (.var 2) .nil)) [])) .nil))))
def N_14 : List Str := ["signal", "least"]
/-- filtered -/
def b_14 : Cs := (.cons (.drop (.call 3 (.cons (.var 0) .nil) [(.str "signal")])) (.cons (.drop (.call 8 (.cons (.var 1) (.cons (.cst (.str "least")) .nil)) [])) (.cons (.ret (.call 13 (.cons (.var 0) (.cons (.var 1) .nil)) [])) .nil)))
def N_15 : List Str := ["signal", "more", "rows", "until", "place", "time", "after"]
/-- widened -/
def b_15 : Cs := (.cons (.new 2 (.lst .nil)) (.cons (.asg (.nm 3) (.cst .none)) (.cons (.loop (.tp (.cons (.nm 4) (.cons (.nm 5) .nil))) (.enum (.ix (.var 0) (.cst (.int 1)))) (.cons (.ite (.cmp .eq (.call 4 (.cons (.var 0) (.cons (.var 5) .nil)) []) (.cst (.int 0))) (.cons (.asg (.nm 6) (.ite (.cmp .lt (.bin .add (.var 4) (.cst (.int 1))) (.u1 .len (.ix (.var 0) (.cst (.int 1))))) (.ix (.ix (.var 0) (.cst (.int 1))) (.bin .add (.var 4) (.cst (.int 1)))) (.cst .none))) (.cons (.ite (.or (.cmp .is_ (.var 6) (.cst .none)) (.cmp .gt (.bin .sub (.var 6) (.var 5)) (.var 1))) (.cons (.app (.var 2) (.tup (.cons (.bin .add (.var 5) (.var 1)) (.cons (.cst (.int 0)) .nil)))) .nil) .nil) .nil)) (.cons (.app (.var 2) (.tup (.cons (.var 5) (.cons (.cst (.int 1)) .nil)))) .nil)) .nil)) (.cons (.ret (.call 6 (.cons (.ix (.var 0) (.cst (.int 0))) (.cons (.var 2) .nil)) [])) .nil))))
def N_16 : List Str := ["signal", "more", "other"]
/-- turned_widened -/
def b_16 : Cs := (.cons (.asg (.nm 2) (.call 15 (.cons (.tup (.cons (.bin .sub (.cst (.int 1)) (.ix (.var 0) (.cst (.int 0)))) (.cons (.ix (.var 0) (.cst (.int 1))) .nil))) (.cons (.var 1) .nil)) [])) (.cons (.ret (.tup (.cons (.bin .sub (.cst (.int 1)) (.ix (.var 2) (.cst (.int 0)))) (.cons (.ix (.var 2) (.cst (.int 1))) .nil)))) .nil))
def N_17 : List Str := ["signal", "more"]
/-- held_on -/
def b_17 : Cs := (.cons (.drop (.call 3 (.cons (.var 0) .nil) [(.str "signal")])) (.cons (.drop (.call 8 (.cons (.var 1) (.cons (.cst (.str "more")) .nil)) [])) (.cons (.ret (.call 15 (.cons (.var 0) (.cons (.var 1) .nil)) [])) .nil)))
def N_18 : List Str := ["signal", "more"]
/-- held_off -/
def b_18 : Cs := (.cons (.drop (.call 3 (.cons (.var 0) .nil) [(.str "signal")])) (.cons (.drop (.call 8 (.cons (.var 1) (.cons (.cst (.str "more")) .nil)) [])) (.cons (.ret (.call 16 (.cons (.var 0) (.cons (.var 1) .nil)) [])) .nil)))
def N_19 : List Str := ["signal", "found", "begin", "here", "time"]
/-- pulses -/
def b_19 : Cs := (.cons (.drop (.call 3 (.cons (.var 0) .nil) [(.str "signal")])) (.cons (.new 1 (.lst .nil)) (.cons (.asg (.nm 2) (.cst .none)) (.cons (.asg (.nm 3) (.ix (.var 0) (.cst (.int 0)))) (.cons (.loop (.nm 4) (.e (.ix (.var 0) (.cst (.int 1)))) (.cons (.ite (.cmp .eq (.var 3) (.cst (.int 1))) (.cons (.app (.var 1) (.tup (.cons (.var 2) (.cons (.var 4) .nil)))) .nil) .nil) (.cons (.asg (.nm 2) (.var 4)) (.cons (.asg (.nm 3) (.bin .sub (.cst (.int 1)) (.var 3))) .nil)))) (.cons (.ite (.cmp .eq (.var 3) (.cst (.int 1))) (.cons (.app (.var 1) (.tup (.cons (.var 2) (.cons (.cst .none) .nil)))) .nil) .nil) (.cons (.ret (.u1 .tuple (.var 1))) .nil)))))))
def N_20 : List Str := ["signal", "begin", "end", "times", "time", "one", "other"]
/-- measure -/
def b_20 : Cs := (.cons (.drop (.call 3 (.cons (.var 0) .nil) [(.str "signal")])) (.cons (.ite (.not (.call 1 (.cons (.var 1) (.cons (.u1 .neg (.cst (.int 1000000))) (.cons (.cst (.int 1000000)) .nil))) [])) (.cons (.raise "ArgumentError" (.cst (.str "begin"))) .nil) .nil) (.cons (.ite (.not (.call 1 (.cons (.var 2) (.cons (.var 1) (.cons (.cst (.int 1000000)) .nil))) [])) (.cons (.raise "ArgumentError" (.cst (.str "end"))) .nil) .nil) (.cons (.asg (.nm 3) (.bin .add (.bin .add (.lst (.cons (.var 1) .nil)) (.lc [4] (.nm 4) (.e (.ix (.var 0) (.cst (.int 1)))) (.cons (.ch .lt .lt (.var 1) (.var 4) (.var 2)) .nil) (.var 4))) (.lst (.cons (.var 2) .nil)))) (.cons (.ret (.u1 .sum (.lc [5, 6] (.tp (.cons (.nm 5) (.cons (.nm 6) .nil))) (.zip (.sl (.var 3) .nil (.cons (.u1 .neg (.cst (.int 1))) .nil)) (.sl (.var 3) (.cons (.cst (.int 1)) .nil) .nil)) (.cons (.cmp .eq (.call 4 (.cons (.var 0) (.cons (.var 5) .nil)) []) (.cst (.int 1))) .nil) (.bin .sub (.var 6) (.var 5))))) .nil)))))
def N_21 : List Str := ["signal", "gaps", "one", "other"]
/-- shortest -/
def b_21 : Cs := (.cons (.drop (.call 3 (.cons (.var 0) .nil) [(.str "signal")])) (.cons (.asg (.nm 1) (.lc [2, 3] (.tp (.cons (.nm 2) (.cons (.nm 3) .nil))) (.zip (.sl (.ix (.var 0) (.cst (.int 1))) .nil (.cons (.u1 .neg (.cst (.int 1))) .nil)) (.sl (.ix (.var 0) (.cst (.int 1))) (.cons (.cst (.int 1)) .nil) .nil)) .nil (.bin .sub (.var 3) (.var 2)))) (.cons (.ret (.ite (.var 1) (.u1 .min (.var 1)) (.cst .none))) .nil)))
def N_22 : List Str := ["first", "second", "both"]
/-- first_unlike -/
def b_22 : Cs := (.cons (.drop (.call 3 (.cons (.var 0) (.cons (.cst (.str "first")) .nil)) [])) (.cons (.drop (.call 3 (.cons (.var 1) (.cons (.cst (.str "second")) .nil)) [])) (.cons (.asg (.nm 2) (.call 10 (.cons (.var 0) (.cons (.var 1) (.cons (.cst (.str "unlike")) .nil))) [])) (.cons (.ite (.cmp .eq (.ix (.var 2) (.cst (.int 0))) (.cst (.int 1))) (.cons (.ret (.tup (.cons (.cst (.str "always")) .nil))) .nil) .nil) (.cons (.ret (.ite (.ix (.var 2) (.cst (.int 1))) (.ix (.ix (.var 2) (.cst (.int 1))) (.cst (.int 0))) (.cst .none))) .nil)))))
def N_23 : List Str := ["signal", "both", "least", "found", "time"]
/-- kept_rises -/
def b_23 : Cs := (.cons (.drop (.call 3 (.cons (.var 0) .nil) [(.str "signal")])) (.cons (.ite (.not (.isi (.var 1) "bool")) (.cons (.raise "ArgumentError" (.cst (.str "both"))) .nil) .nil) (.cons (.drop (.call 8 (.cons (.var 2) (.cons (.cst (.str "least")) .nil)) [])) (.cons (.new 3 (.lst .nil)) (.cons (.loop (.nm 4) (.e (.ix (.var 0) (.cst (.int 1)))) (.cons (.ite (.and (.or (.cmp .eq (.call 4 (.cons (.var 0) (.cons (.var 4) .nil)) []) (.cst (.int 1))) (.var 1)) (.or (.not (.var 3)) (.cmp .ge (.bin .sub (.var 4) (.ix (.var 3) (.u1 .neg (.cst (.int 1))))) (.var 2)))) (.cons (.app (.var 3) (.var 4)) .nil) .nil) .nil)) (.cons (.ret (.u1 .tuple (.var 3))) .nil))))))
def N_24 : List Str := ["script", "draws", "cell", "rest", "k", "mixed"]
/-- _law_draws -/
def b_24 : Cs := (.cons (.new 1 (.lst .nil)) (.cons (.loop (.nm 2) (.e (.sl (.var 0) .nil (.cons (.cst (.int 63)) .nil))) (.cons (.asg (.nm 3) (.u1 .abs (.var 2))) (.cons (.ite (.cmp .ge (.var 3) (.bin .pow (.cst (.int 10)) (.cst (.int 18)))) (.cons (.loop (.nm 4) (.rng1 (.cst (.int 60))) (.cons (.ite (.cmp .gt (.var 3) (.cst (.int 0))) (.cons (.app (.var 1) (.bin .mod (.u1 .int (.var 3)) (.cst (.int 1009)))) (.cons (.asg (.nm 3) (.bin .fdiv (.var 3) (.cst (.int 1009)))) .nil)) .nil) .nil)) .nil) (.cons (.asg (.nm 5) (.bin .mod (.u1 .int (.bin .add (.bin .mul (.var 3) (.cst (.int 48271))) (.cst (.int 11)))) (.cst (.int 2147483647)))) (.cons (.loop (.nm 4) (.rng1 (.cst (.int 12))) (.cons (.asg (.nm 5) (.bin .mod (.u1 .int (.bin .add (.bin .add (.bin .mul (.var 5) (.cst (.int 16807))) (.bin .mul (.cst (.int 69621)) (.var 4))) (.cst (.int 5)))) (.cst (.int 2147483629)))) (.cons (.app (.var 1) (.bin .fdiv (.var 5) (.cst (.int 1009)))) .nil))) .nil))) .nil))) (.cons (.ret (.var 1)) .nil)))
def N_25 : List Str := ["draws", "place", "mixed", "k"]
/-- _law_more -/
def b_25 : Cs := (.cons (.asg (.nm 2) (.bin .mod (.u1 .int (.bin .add (.bin .add (.bin .mul (.var 1) (.cst (.int 48271))) (.u1 .len (.var 0))) (.cst (.int 11)))) (.cst (.int 2147483629)))) (.cons (.loop (.nm 3) (.rng1 (.cst (.int 3))) (.cons (.ite (.var 0) (.cons (.asg (.nm 2) (.bin .add (.var 2) (.ix (.var 0) (.bin .mod (.u1 .int (.bin .add (.bin .mul (.var 1) (.bin .add (.var 3) (.cst (.int 5)))) (.var 3))) (.u1 .len (.var 0)))))) .nil) .nil) (.cons (.asg (.nm 2) (.bin .mod (.u1 .int (.bin .add (.bin .add (.bin .mul (.var 2) (.cst (.int 16807))) (.bin .mul (.cst (.int 69621)) (.var 3))) (.cst (.int 5)))) (.cst (.int 2147483629)))) .nil))) (.cons (.ret (.bin .fdiv (.var 2) (.cst (.int 1009)))) .nil)))
def N_26 : List Str := ["draws", "at", "many", "place"]
/-- _law_take -/
def b_26 : Cs := (.cons (.asg (.nm 3) (.ix (.var 1) (.cst (.int 0)))) (.cons (.six (.var 1) (.cst (.int 0)) (.bin .add (.var 3) (.cst (.int 1)))) (.cons (.ret (.bin .mod (.u1 .int (.ite (.cmp .lt (.var 3) (.u1 .len (.var 0))) (.ix (.var 0) (.var 3)) (.call 25 (.cons (.var 0) (.cons (.var 3) .nil)) []))) (.var 2))) .nil)))
def N_27 : List Str := ["rows", "draws", "at"]
/-- _law_one -/
def b_27 : Cs := (.cons (.ret (.ix (.var 0) (.call 26 (.cons (.var 1) (.cons (.var 2) (.cons (.u1 .len (.var 0)) .nil))) []))) .nil)
def N_28 : List Str := ["actual", "due"]
/-- _law_same_as -/
def b_28 : Cs := (.cons (.ret (.and (.cmp .eq (.var 0) (.var 1)) (.cmp .eq (.u1 .repr (.var 0)) (.u1 .repr (.var 1))))) .nil)
def N_29 : List Str := ["most", "far", "draws", "at", "k", "now", "times", "time"]
/-- _law_signal -/
def b_29 : Cs := (.cons (.par 5 6 false true (.call 27 (.cons (.lst (.cons (.cst (.int 0)) (.cons (.bin .sub (.cst (.int 0)) (.cst (.int 3))) (.cons (.bin .sub (.cst (.int 0)) (.var 1)) .nil)))) (.cons (.var 2) (.cons (.var 3) .nil))) []) (.lst .nil)) (.cons (.loop (.nm 4) (.rng1 (.call 26 (.cons (.var 2) (.cons (.var 3) (.cons (.bin .add (.var 0) (.cst (.int 1))) .nil))) [])) (.cons (.asg (.nm 5) (.bin .add (.bin .add (.var 5) (.cst (.int 1))) (.call 26 (.cons (.var 2) (.cons (.var 3) (.cons (.var 1) .nil))) []))) (.cons (.app (.var 6) (.var 5)) .nil))) (.cons (.ret (.tup (.cons (.call 26 (.cons (.var 2) (.cons (.var 3) (.cons (.cst (.int 2)) .nil))) []) (.cons (.u1 .tuple (.lc [7] (.nm 7) (.e (.var 6)) (.cons (.cmp .le (.u1 .abs (.var 7)) (.cst (.int 1000000))) .nil) (.var 7))) .nil)))) .nil)))
def N_30 : List Str := ["signal", "time", "one"]
/-- _law_value -/
def b_30 : Cs := (.cons (.ret (.bin .mod (.u1 .int (.bin .add (.ix (.var 0) (.cst (.int 0))) (.u1 .len (.lc [2] (.nm 2) (.e (.ix (.var 0) (.cst (.int 1)))) (.cons (.cmp .le (.var 2) (.var 1)) .nil) (.var 2))))) (.cst (.int 2)))) .nil)
def N_31 : List Str := ["signal", "ends", "k"]
/-- _law_spans -/
def b_31 : Cs := (.cons (.asg (.nm 1) (.bin .add (.bin .add (.lst (.cons (.cst .none) .nil)) (.u1 .list (.ix (.var 0) (.cst (.int 1))))) (.lst (.cons (.cst .none) .nil)))) (.cons (.ret (.u1 .tuple (.lc [2] (.nm 2) (.rng1 (.bin .sub (.u1 .len (.var 1)) (.cst (.int 1)))) (.cons (.cmp .eq (.bin .mod (.u1 .int (.bin .add (.ix (.var 0) (.cst (.int 0))) (.var 2))) (.cst (.int 2))) (.cst (.int 1))) .nil) (.tup (.cons (.ix (.var 1) (.var 2)) (.cons (.ix (.var 1) (.bin .add (.var 2) (.cst (.int 1)))) .nil)))))) .nil))
def N_32 : List Str := ["begin", "times", "values", "k", "found", "here"]
/-- _law_written -/
def b_32 : Cs := (.cons (.par 4 5 true false (.lst .nil) (.var 0)) (.cons (.loop (.nm 3) (.rng1 (.u1 .len (.var 1))) (.cons (.ite (.cmp .ne (.ix (.var 2) (.var 3)) (.var 5)) (.cons (.app (.var 4) (.ix (.var 1) (.var 3))) (.cons (.asg (.nm 5) (.ix (.var 2) (.var 3))) .nil)) .nil) .nil)) (.cons (.ret (.tup (.cons (.var 0) (.cons (.u1 .tuple (.var 4)) .nil)))) .nil)))
def N_33 : List Str := ["signal", "time", "more", "begin", "end"]
/-- _law_is_held -/
def b_33 : Cs := (.cons (.loop (.tp (.cons (.nm 3) (.cons (.nm 4) .nil))) (.e (.call 31 (.cons (.var 0) .nil) [])) (.cons (.ite (.and (.or (.cmp .is_ (.var 3) (.cst .none)) (.cmp .le (.var 3) (.var 1))) (.or (.cmp .is_ (.var 4) (.cst .none)) (.cmp .gt (.var 4) (.bin .sub (.var 1) (.var 2))))) (.cons (.ret (.cst (.bool true))) .nil) .nil) .nil)) (.cons (.ret (.cst (.bool false))) .nil))
def N_34 : List Str := ["signal", "more", "times", "time"]
/-- _law_held_on -/
def b_34 : Cs := (.cons (.ite (.cmp .eq (.var 1) (.cst (.int 0))) (.cons (.ret (.var 0)) .nil) .nil) (.cons (.asg (.nm 2) (.u1 .sorted (.u1 .dict (.bin .add (.lc [3] (.nm 3) (.e (.ix (.var 0) (.cst (.int 1)))) .nil (.tup (.cons (.var 3) (.cons (.cst (.int 0)) .nil)))) (.lc [3] (.nm 3) (.e (.ix (.var 0) (.cst (.int 1)))) .nil (.tup (.cons (.bin .add (.var 3) (.var 1)) (.cons (.cst (.int 0)) .nil)))))))) (.cons (.ret (.call 32 (.cons (.ix (.var 0) (.cst (.int 0))) (.cons (.var 2) (.cons (.lc [3] (.nm 3) (.e (.var 2)) .nil (.u1 .int (.call 33 (.cons (.var 0) (.cons (.var 3) (.cons (.var 1) .nil))) []))) .nil))) [])) .nil)))
def N_35 : List Str := ["signal", "more", "other"]
/-- _law_held_off -/
def b_35 : Cs := (.cons (.asg (.nm 2) (.call 34 (.cons (.tup (.cons (.bin .sub (.cst (.int 1)) (.ix (.var 0) (.cst (.int 0)))) (.cons (.ix (.var 0) (.cst (.int 1))) .nil))) (.cons (.var 1) .nil)) [])) (.cons (.ret (.tup (.cons (.bin .sub (.cst (.int 1)) (.ix (.var 2) (.cst (.int 0)))) (.cons (.ix (.var 2) (.cst (.int 1))) .nil)))) .nil))
def N_36 : List Str := ["signal", "least", "k", "values", "times", "found", "time"]
/-- _law_filtered -/
def b_36 : Cs := (.cons (.par 4 5 false true (.ix (.var 0) (.cst (.int 1))) (.lst .nil)) (.cons (.loop (.nm 2) (.rng1 (.u1 .len (.var 4))) (.cons (.ite (.or (.cmp .eq (.bin .add (.var 2) (.cst (.int 1))) (.u1 .len (.var 4))) (.cmp .ge (.bin .sub (.ix (.var 4) (.bin .add (.var 2) (.cst (.int 1)))) (.ix (.var 4) (.var 2))) (.var 1))) (.cons (.app (.var 5) (.bin .add (.ix (.var 4) (.var 2)) (.var 1))) .nil) .nil) .nil)) (.cons (.asg (.nm 3) (.lc [6] (.nm 6) (.e (.var 5)) .nil (.call 30 (.cons (.var 0) (.cons (.bin .sub (.var 6) (.var 1)) .nil)) []))) (.cons (.ret (.call 32 (.cons (.ix (.var 0) (.cst (.int 0))) (.cons (.var 5) (.cons (.var 3) .nil))) [])) .nil))))
def N_37 : List Str := ["first", "second", "word"]
/-- _law_put -/
def b_37 : Cs := (.cons (.ret (.u1 .int (.ite (.cmp .eq (.var 2) (.cst (.str "and"))) (.and (.var 0) (.var 1)) (.ite (.cmp .eq (.var 2) (.cst (.str "or"))) (.or (.var 0) (.var 1)) (.cmp .ne (.var 0) (.var 1)))))) .nil)
def N_38 : List Str := ["first", "second", "word", "times", "values", "time"]
/-- _law_joined -/
def b_38 : Cs := (.cons (.asg (.nm 3) (.u1 .sorted (.u1 .dict (.lc [5] (.nm 5) (.e (.bin .add (.ix (.var 0) (.cst (.int 1))) (.ix (.var 1) (.cst (.int 1))))) .nil (.tup (.cons (.var 5) (.cons (.cst (.int 0)) .nil))))))) (.cons (.asg (.nm 4) (.lc [5] (.nm 5) (.e (.var 3)) .nil (.call 37 (.cons (.call 30 (.cons (.var 0) (.cons (.var 5) .nil)) []) (.cons (.call 30 (.cons (.var 1) (.cons (.var 5) .nil)) []) (.cons (.var 2) .nil))) []))) (.cons (.ret (.call 32 (.cons (.call 37 (.cons (.ix (.var 0) (.cst (.int 0))) (.cons (.ix (.var 1) (.cst (.int 0))) (.cons (.var 2) .nil))) []) (.cons (.var 3) (.cons (.var 4) .nil))) [])) .nil)))
def N_39 : List Str := ["signal", "both", "least", "found", "time"]
/-- _law_kept -/
def b_39 : Cs := (.cons (.new 3 (.lst .nil)) (.cons (.loop (.nm 4) (.e (.ix (.var 0) (.cst (.int 1)))) (.cons (.ite (.and (.or (.var 1) (.cmp .eq (.call 30 (.cons (.var 0) (.cons (.var 4) .nil)) []) (.cst (.int 1)))) (.or (.cmp .eq (.var 3) (.lst .nil)) (.cmp .ge (.bin .sub (.var 4) (.ix (.var 3) (.u1 .neg (.cst (.int 1))))) (.var 2)))) (.cons (.app (.var 3) (.var 4)) .nil) .nil) .nil)) (.cons (.ret (.u1 .tuple (.var 3))) .nil)))
def N_40 : List Str := ["which", "one", "two", "three", "e"]
/-- _law_told -/
def b_40 : Cs := (.cons (.tryS (.cons (.ite (.cmp .lt (.var 0) (.cst (.int 4))) (.cons (.ret (.ite (.cmp .eq (.var 0) (.cst (.int 0))) (.call 5 (.cons (.var 1) (.cons (.var 2) .nil)) []) (.ite (.cmp .eq (.var 0) (.cst (.int 1))) (.call 19 (.cons (.var 1) .nil) []) (.ite (.cmp .eq (.var 0) (.cst (.int 2))) (.call 21 (.cons (.var 1) .nil) []) (.call 20 (.cons (.var 1) (.cons (.var 2) (.cons (.var 3) .nil))) []))))) .nil) .nil) (.cons (.ite (.cmp .lt (.var 0) (.cst (.int 8))) (.cons (.ret (.ite (.cmp .eq (.var 0) (.cst (.int 4))) (.call 7 (.cons (.var 1) .nil) []) (.ite (.cmp .eq (.var 0) (.cst (.int 5))) (.call 9 (.cons (.var 1) (.cons (.var 2) .nil)) []) (.ite (.cmp .eq (.var 0) (.cst (.int 6))) (.call 17 (.cons (.var 1) (.cons (.var 2) .nil)) []) (.call 18 (.cons (.var 1) (.cons (.var 2) .nil)) []))))) .nil) .nil) (.cons (.ite (.cmp .lt (.var 0) (.cst (.int 10))) (.cons (.ret (.ite (.cmp .eq (.var 0) (.cst (.int 8))) (.call 14 (.cons (.var 1) (.cons (.var 2) .nil)) []) (.call 23 (.cons (.var 1) (.cons (.var 2) (.cons (.var 3) .nil))) []))) .nil) .nil) (.cons (.ret (.ite (.cmp .eq (.var 0) (.cst (.int 10))) (.call 12 (.cons (.var 1) (.cons (.var 2) (.cons (.var 3) .nil))) []) (.call 22 (.cons (.var 1) (.cons (.var 2) .nil)) []))) .nil)))) [("ArgumentError", "argument")]) .nil)
def N_41 : List Str := ["signal", "draws", "at", "times", "near", "gaps", "total", "due", "told", "wait", "both", "more", "twice", "other", "time", "begin", "end", "low", "high", "k", "which"]
/-- _law_one_fits -/
def b_41 : Cs := (.cons (.asg (.nm 3) (.ix (.var 0) (.cst (.int 1)))) (.cons (.asg (.nm 4) (.bin .add (.bin .add (.lst (.cons (.cst (.int 0)) (.cons (.cst (.int 1000000)) (.cons (.bin .sub (.cst (.int 0)) (.cst (.int 1000000))) .nil)))) (.lc [14] (.nm 14) (.e (.var 3)) .nil (.bin .sub (.var 14) (.cst (.int 1))))) (.u1 .list (.var 3)))) (.cons (.par 14 13 false false (.call 27 (.cons (.var 4) (.cons (.var 1) (.cons (.var 2) .nil))) []) (.call 27 (.cons (.var 4) (.cons (.var 1) (.cons (.var 2) .nil))) [])) (.cons (.par 15 16 false false (.u2 .max (.bin .sub (.cst (.int 0)) (.cst (.int 1000000))) (.u2 .min (.var 14) (.var 13))) (.u2 .min (.cst (.int 1000000)) (.u2 .max (.var 14) (.var 13)))) (.cons (.asg (.nm 5) (.lc [19] (.nm 19) (.rng1 (.bin .sub (.u1 .len (.var 3)) (.cst (.int 1)))) .nil (.bin .sub (.ix (.var 3) (.bin .add (.var 19) (.cst (.int 1)))) (.ix (.var 3) (.var 19))))) (.cons (.asg (.nm 6) (.cst (.int 0))) (.cons (.loop (.tp (.cons (.nm 17) (.cons (.nm 18) .nil))) (.e (.call 31 (.cons (.var 0) .nil) [])) (.cons (.asg (.nm 6) (.bin .add (.var 6) (.u2 .max (.cst (.int 0)) (.bin .sub (.ite (.cmp .is_ (.var 18) (.cst .none)) (.var 16) (.u2 .min (.var 16) (.var 18))) (.ite (.cmp .is_ (.var 17) (.cst .none)) (.var 15) (.u2 .max (.var 15) (.var 17))))))) .nil)) (.cons (.asg (.nm 7) (.tup (.cons (.call 30 (.cons (.var 0) (.cons (.var 15) .nil)) []) (.cons (.call 31 (.cons (.var 0) .nil) []) (.cons (.ite (.var 5) (.u1 .min (.var 5)) (.cst .none)) (.cons (.var 6) (.cons (.tup (.cons (.bin .sub (.cst (.int 1)) (.ix (.var 0) (.cst (.int 0)))) (.cons (.var 3) .nil))) .nil))))))) (.cons (.asg (.nm 8) (.lst (.cons (.call 40 (.cons (.cst (.int 0)) (.cons (.var 0) (.cons (.var 15) (.cons (.cst .none) .nil)))) []) (.cons (.call 40 (.cons (.cst (.int 1)) (.cons (.var 0) (.cons (.cst .none) (.cons (.cst .none) .nil)))) []) (.cons (.call 40 (.cons (.cst (.int 2)) (.cons (.var 0) (.cons (.cst .none) (.cons (.cst .none) .nil)))) []) (.cons (.call 40 (.cons (.cst (.int 3)) (.cons (.var 0) (.cons (.var 15) (.cons (.var 16) .nil)))) []) (.cons (.call 40 (.cons (.cst (.int 4)) (.cons (.var 0) (.cons (.cst .none) (.cons (.cst .none) .nil)))) []) .nil))))))) (.cons (.ite (.not (.call 28 (.cons (.u1 .tuple (.var 8)) (.cons (.var 7) .nil)) [])) (.cons (.ret (.cst (.bool false))) .nil) .nil) (.cons (.asg (.nm 9) (.call 27 (.cons (.bin .add (.lst (.cons (.cst (.int 0)) (.cons (.cst (.int 1)) (.cons (.cst (.int 2)) (.cons (.cst (.int 5)) (.cons (.call 26 (.cons (.var 1) (.cons (.var 2) (.cons (.cst (.int 30)) .nil))) []) (.cons (.cst (.int 1000000)) .nil))))))) (.var 5)) (.cons (.var 1) (.cons (.var 2) .nil))) [])) (.cons (.asg (.nm 7) (.tup (.cons (.tup (.cons (.ix (.var 0) (.cst (.int 0))) (.cons (.u1 .tuple (.lc [14] (.nm 14) (.e (.var 3)) .nil (.bin .add (.var 14) (.var 9)))) .nil))) (.cons (.call 34 (.cons (.var 0) (.cons (.var 9) .nil)) []) (.cons (.call 35 (.cons (.var 0) (.cons (.var 9) .nil)) []) (.cons (.call 36 (.cons (.var 0) (.cons (.var 9) .nil)) []) .nil)))))) (.cons (.ite (.not (.call 28 (.cons (.u1 .tuple (.lc [20] (.nm 20) (.e (.tup (.cons (.cst (.int 5)) (.cons (.cst (.int 6)) (.cons (.cst (.int 7)) (.cons (.cst (.int 8)) .nil)))))) .nil (.call 40 (.cons (.var 20) (.cons (.var 0) (.cons (.var 9) (.cons (.cst .none) .nil)))) []))) (.cons (.var 7) .nil)) [])) (.cons (.ret (.cst (.bool false))) .nil) .nil) (.cons (.asg (.nm 10) (.cmp .eq (.call 26 (.cons (.var 1) (.cons (.var 2) (.cons (.cst (.int 2)) .nil))) []) (.cst (.int 0)))) (.cons (.ite (.not (.call 28 (.cons (.call 40 (.cons (.cst (.int 9)) (.cons (.var 0) (.cons (.var 10) (.cons (.var 9) .nil)))) []) (.cons (.call 39 (.cons (.var 0) (.cons (.var 10) (.cons (.var 9) .nil))) []) .nil)) [])) (.cons (.ret (.cst (.bool false))) .nil) .nil) (.cons (.asg (.nm 11) (.call 26 (.cons (.var 1) (.cons (.var 2) (.cons (.cst (.int 6)) .nil))) [])) (.cons (.asg (.nm 12) (.ix (.var 7) (.cst (.int 1)))) (.cons (.ite (.and (.cmp .le (.u1 .len (.ix (.var 12) (.cst (.int 1)))) (.cst (.int 40))) (.and (.cmp .eq (.lc [14] (.nm 14) (.e (.ix (.var 12) (.cst (.int 1)))) (.cons (.cmp .gt (.u1 .abs (.var 14)) (.cst (.int 1000000))) .nil) (.var 14)) (.lst .nil)) (.cmp .le (.bin .add (.var 9) (.var 11)) (.cst (.int 1000000))))) (.cons (.ite (.not (.call 28 (.cons (.call 40 (.cons (.cst (.int 6)) (.cons (.var 12) (.cons (.var 11) (.cons (.cst .none) .nil)))) []) (.cons (.call 34 (.cons (.var 0) (.cons (.bin .add (.var 9) (.var 11)) .nil)) []) .nil)) [])) (.cons (.ret (.cst (.bool false))) .nil) .nil) .nil) .nil) (.cons (.asg (.nm 13) (.call 40 (.cons (.cst (.int 6)) (.cons (.tup (.cons (.bin .sub (.cst (.int 1)) (.ix (.var 0) (.cst (.int 0)))) (.cons (.var 3) .nil))) (.cons (.var 9) (.cons (.cst .none) .nil)))) [])) (.cons (.ret (.call 28 (.cons (.call 40 (.cons (.cst (.int 7)) (.cons (.var 0) (.cons (.var 9) (.cons (.cst .none) .nil)))) []) (.cons (.tup (.cons (.bin .sub (.cst (.int 1)) (.ix (.var 13) (.cst (.int 0)))) (.cons (.ix (.var 13) (.cst (.int 1))) .nil))) .nil)) [])) .nil))))))))))))))))))))
def N_42 : List Str := ["script", "draws", "at", "far", "first", "second", "word", "unlike", "due", "bad", "part_1", "told", "part_2", "reasons", "odd", "reason", "which"]
/-- law -/
def b_42 : Cs := (.cons (.asg (.nm 1) (.call 24 (.cons (.var 0) .nil) [])) (.cons (.new 2 (.lst (.cons (.cst (.int 0)) .nil))) (.cons (.asg (.nm 3) (.call 27 (.cons (.lst (.cons (.cst (.int 1)) (.cons (.cst (.int 3)) (.cons (.cst (.int 10)) (.cons (.cst (.int 40000)) .nil))))) (.cons (.var 1) (.cons (.var 2) .nil))) [])) (.cons (.asg (.nm 4) (.call 29 (.cons (.call 27 (.cons (.lst (.cons (.cst (.int 2)) (.cons (.cst (.int 6)) (.cons (.cst (.int 40)) .nil)))) (.cons (.var 1) (.cons (.var 2) .nil))) []) (.cons (.var 3) (.cons (.var 1) (.cons (.var 2) .nil)))) [])) (.cons (.asg (.nm 5) (.call 27 (.cons (.lst (.cons (.call 29 (.cons (.cst (.int 8)) (.cons (.var 3) (.cons (.var 1) (.cons (.var 2) .nil)))) []) (.cons (.var 4) (.cons (.tup (.cons (.ix (.var 4) (.cst (.int 0))) (.cons (.sl (.ix (.var 4) (.cst (.int 1))) .nil (.cons (.u1 .neg (.cst (.int 1))) .nil)) .nil))) (.cons (.tup (.cons (.bin .sub (.cst (.int 1)) (.ix (.var 4) (.cst (.int 0)))) (.cons (.ix (.var 4) (.cst (.int 1))) .nil))) .nil))))) (.cons (.var 1) (.cons (.var 2) .nil))) [])) (.cons (.ite (.or (.not (.call 41 (.cons (.var 4) (.cons (.var 1) (.cons (.var 2) .nil))) [])) (.not (.call 41 (.cons (.var 5) (.cons (.var 1) (.cons (.var 2) .nil))) []))) (.cons (.ret (.cst (.bool false))) .nil) .nil) (.cons (.loop (.nm 6) (.e (.tup (.cons (.cst (.str "and")) (.cons (.cst (.str "or")) (.cons (.cst (.str "unlike")) .nil))))) (.cons (.ite (.not (.call 28 (.cons (.call 40 (.cons (.cst (.int 10)) (.cons (.var 4) (.cons (.var 5) (.cons (.var 6) .nil)))) []) (.cons (.call 38 (.cons (.var 4) (.cons (.var 5) (.cons (.var 6) .nil))) []) .nil)) [])) (.cons (.ret (.cst (.bool false))) .nil) .nil) .nil)) (.cons (.asg (.nm 7) (.call 38 (.cons (.var 4) (.cons (.var 5) (.cons (.cst (.str "unlike")) .nil))) [])) (.cons (.asg (.nm 8) (.ite (.cmp .eq (.ix (.var 7) (.cst (.int 0))) (.cst (.int 1))) (.tup (.cons (.cst (.str "always")) .nil)) (.ite (.ix (.var 7) (.cst (.int 1))) (.ix (.ix (.var 7) (.cst (.int 1))) (.cst (.int 0))) (.cst .none)))) (.cons (.ite (.not (.call 28 (.cons (.call 40 (.cons (.cst (.int 11)) (.cons (.var 4) (.cons (.var 5) (.cons (.cst .none) .nil)))) []) (.cons (.var 8) .nil)) [])) (.cons (.ret (.cst (.bool false))) .nil) .nil) (.cons (.asg (.nm 9) (.call 27 (.cons (.lst (.cons (.cst .none) (.cons (.cst (.int 5)) (.cons (.tup .nil) (.cons (.tup (.cons (.cst (.int 2)) (.cons (.tup .nil) .nil))) (.cons (.tup (.cons (.cst (.bool true)) (.cons (.tup .nil) .nil))) (.cons (.tup (.cons (.cst (.int 0)) (.cons (.tup (.cons (.cst (.int 1)) (.cons (.cst (.int 1)) .nil))) .nil))) (.cons (.tup (.cons (.cst (.int 0)) (.cons (.tup (.cons (.cst (.int 2)) (.cons (.cst (.int 1)) .nil))) .nil))) (.cons (.tup (.cons (.cst (.int 0)) (.cons (.tup (.cons (.bin .add (.cst (.int 1000000)) (.cst (.int 1))) .nil)) .nil))) (.cons (.tup (.cons (.cst (.int 0)) (.cons (.tup (.cons (.cst .none) .nil)) .nil))) (.cons (.tup (.cons (.cst (.int 0)) (.cons (.seq (.rng1 (.bin .add (.cst (.int 40)) (.cst (.int 1))))) .nil))) (.cons (.tup (.cons (.cst (.int 0)) (.cons (.cst (.int 1)) .nil))) .nil)))))))))))) (.cons (.var 1) (.cons (.var 2) .nil))) [])) (.cons (.ite (.or (.cmp .ne (.lc [16] (.nm 16) (.rng1 (.cst (.int 10))) .nil (.call 40 (.cons (.var 16) (.cons (.var 9) (.cons (.cst .none) (.cons (.cst .none) .nil)))) [])) (.bin .mul (.lst (.cons (.tup (.cons (.cst (.str "argument")) (.cons (.cst (.str "signal")) .nil))) .nil)) (.cst (.int 10)))) (.cmp .ne (.lc [16] (.nm 16) (.e (.tup (.cons (.cst (.int 10)) (.cons (.cst (.int 11)) .nil)))) .nil (.call 40 (.cons (.var 16) (.cons (.var 9) (.cons (.var 9) (.cons (.cst .none) .nil)))) [])) (.bin .mul (.lst (.cons (.tup (.cons (.cst (.str "argument")) (.cons (.cst (.str "first")) .nil))) .nil)) (.cst (.int 2))))) (.cons (.ret (.cst (.bool false))) .nil) .nil) (.cons (.par 14 3 false false (.call 27 (.cons (.lst (.cons (.cst .none) (.cons (.u1 .neg (.cst (.int 1))) (.cons (.bin .add (.cst (.int 1000000)) (.cst (.int 1))) (.cons (.cst (.bool true)) (.cons (.cst (.str "1")) .nil)))))) (.cons (.var 1) (.cons (.var 2) .nil))) []) (.call 27 (.cons (.lst (.cons (.cst .none) (.cons (.bin .add (.cst (.int 1000000)) (.cst (.int 1))) (.cons (.cst (.bool true)) (.cons (.cst (.str "1")) .nil))))) (.cons (.var 1) (.cons (.var 2) .nil))) [])) (.cons (.asg (.nm 10) (.lst (.cons (.call 40 (.cons (.cst (.int 10)) (.cons (.var 4) (.cons (.var 5) (.cons (.call 27 (.cons (.lst (.cons (.cst .none) (.cons (.cst (.int 5)) (.cons (.cst (.str "nor")) (.cons (.cst (.str "")) .nil))))) (.cons (.var 1) (.cons (.var 2) .nil))) []) .nil)))) []) .nil))) (.cons (.asg (.nm 11) (.bin .add (.bin .add (.lc [16] (.nm 16) (.e (.tup (.cons (.cst (.int 10)) (.cons (.cst (.int 11)) .nil)))) .nil (.call 40 (.cons (.var 16) (.cons (.var 4) (.cons (.var 9) (.cons (.cst .none) .nil)))) [])) (.var 10)) (.lst (.cons (.call 40 (.cons (.cst (.int 0)) (.cons (.var 4) (.cons (.var 3) (.cons (.cst .none) .nil)))) []) (.cons (.call 40 (.cons (.cst (.int 3)) (.cons (.var 4) (.cons (.var 3) (.cons (.var 3) .nil)))) []) .nil))))) (.cons (.asg (.nm 12) (.lst (.cons (.call 40 (.cons (.cst (.int 3)) (.cons (.var 4) (.cons (.cst (.int 5)) (.cons (.call 27 (.cons (.lst (.cons (.var 3) (.cons (.cst (.int 4)) .nil))) (.cons (.var 1) (.cons (.var 2) .nil))) []) .nil)))) []) (.cons (.call 40 (.cons (.cst (.int 5)) (.cons (.var 4) (.cons (.var 14) (.cons (.cst .none) .nil)))) []) .nil)))) (.cons (.asg (.nm 11) (.bin .add (.bin .add (.var 11) (.var 12)) (.lst (.cons (.call 40 (.cons (.cst (.int 6)) (.cons (.var 4) (.cons (.var 14) (.cons (.cst .none) .nil)))) []) (.cons (.call 40 (.cons (.cst (.int 7)) (.cons (.var 4) (.cons (.var 14) (.cons (.cst .none) .nil)))) []) (.cons (.call 40 (.cons (.cst (.int 8)) (.cons (.var 4) (.cons (.var 14) (.cons (.cst .none) .nil)))) []) .nil)))))) (.cons (.asg (.nm 11) (.bin .add (.var 11) (.lst (.cons (.call 40 (.cons (.cst (.int 9)) (.cons (.var 4) (.cons (.call 27 (.cons (.lst (.cons (.cst .none) (.cons (.cst (.int 0)) (.cons (.cst (.int 1)) (.cons (.cst (.str "True")) .nil))))) (.cons (.var 1) (.cons (.var 2) .nil))) []) (.cons (.var 14) .nil)))) []) (.cons (.call 40 (.cons (.cst (.int 9)) (.cons (.var 4) (.cons (.cst (.bool true)) (.cons (.var 14) .nil)))) []) .nil))))) (.cons (.asg (.nm 13) (.lst (.cons (.cst (.str "second")) (.cons (.cst (.str "second")) (.cons (.cst (.str "word")) (.cons (.cst (.str "time")) (.cons (.cst (.str "begin")) (.cons (.cst (.str "end")) (.cons (.cst (.str "wait")) (.cons (.cst (.str "more")) (.cons (.cst (.str "more")) (.cons (.cst (.str "least")) (.cons (.cst (.str "both")) (.cons (.cst (.str "least")) .nil)))))))))))))) (.cons (.ret (.cmp .eq (.var 11) (.lc [15] (.nm 15) (.e (.var 13)) .nil (.tup (.cons (.cst (.str "argument")) (.cons (.var 15) .nil)))))) .nil))))))))))))))))))))
def fns : List Fn := ([⟨1, 1, b_0⟩, ⟨3, 3, b_1⟩, ⟨1, 4, b_2⟩, ⟨2, 2, b_3⟩, ⟨2, 3, b_4⟩, ⟨2, 2, b_5⟩, ⟨2, 6, b_6⟩, ⟨1, 1, b_7⟩, ⟨2, 2, b_8⟩, ⟨2, 3, b_9⟩, ⟨3, 6, b_10⟩, ⟨3, 3, b_11⟩, ⟨3, 3, b_12⟩, ⟨2, 6, b_13⟩, ⟨2, 2, b_14⟩, ⟨2, 7, b_15⟩, ⟨2, 3, b_16⟩, ⟨2, 2, b_17⟩, ⟨2, 2, b_18⟩, ⟨1, 5, b_19⟩, ⟨3, 7, b_20⟩, ⟨1, 4, b_21⟩, ⟨2, 3, b_22⟩, ⟨3, 5, b_23⟩, ⟨1, 6, b_24⟩, ⟨2, 4, b_25⟩, ⟨3, 4, b_26⟩, ⟨3, 3, b_27⟩, ⟨2, 2, b_28⟩, ⟨4, 8, b_29⟩] : List Fn) ++ ([⟨2, 3, b_30⟩, ⟨1, 3, b_31⟩, ⟨3, 6, b_32⟩, ⟨3, 5, b_33⟩, ⟨2, 4, b_34⟩, ⟨2, 3, b_35⟩, ⟨2, 7, b_36⟩, ⟨3, 3, b_37⟩, ⟨3, 6, b_38⟩, ⟨3, 5, b_39⟩, ⟨4, 5, b_40⟩, ⟨3, 21, b_41⟩, ⟨1, 17, b_42⟩] : List Fn)
theorem c_0 : body? G W [] N_0 (defScope (top 3)) (defBody (top 3)) = some b_0 := by kernel_rfl
theorem f_0 : FnScope N_0 ["value"] (defScope (top 3)) := ⟨rfl, rfl, rfl, by decide +kernel, rfl, by decide +kernel, by decide +kernel⟩
theorem c_1 : body? G W [] N_1 (defScope (top 4)) (defBody (top 4)) = some b_1 := by kernel_rfl
theorem f_1 : FnScope N_1 ["value", "least", "most"] (defScope (top 4)) := ⟨rfl, rfl, rfl, by decide +kernel, rfl, by decide +kernel, by decide +kernel⟩
theorem c_2 : body? G W [] N_2 (defScope (top 11)) (defBody (top 11)) = some b_2 := by kernel_rfl
theorem f_2 : FnScope N_2 ["value"] (defScope (top 11)) := ⟨rfl, rfl, rfl, by decide +kernel, rfl, by decide +kernel, by decide +kernel⟩
theorem c_3 : body? G W [] N_3 (defScope (top 12)) (defBody (top 12)) = some b_3 := by kernel_rfl
theorem f_3 : FnScope N_3 ["signal", "reason"] (defScope (top 12)) := ⟨rfl, rfl, rfl, by decide +kernel, rfl, by decide +kernel, by decide +kernel⟩
theorem c_4 : body? G W [] N_4 (defScope (top 13)) (defBody (top 13)) = some b_4 := by kernel_rfl
theorem f_4 : FnScope N_4 ["signal", "time"] (defScope (top 13)) := ⟨rfl, rfl, rfl, by decide +kernel, rfl, by decide +kernel, by decide +kernel⟩
theorem c_5 : body? G W [] N_5 (defScope (top 14)) (defBody (top 14)) = some b_5 := by kernel_rfl
theorem f_5 : FnScope N_5 ["signal", "time"] (defScope (top 14)) := ⟨rfl, rfl, rfl, by decide +kernel, rfl, by decide +kernel, by decide +kernel⟩
theorem c_6 : body? G W ["times"] N_6 (defScope (top 15)) (defBody (top 15)) = some b_6 := by kernel_rfl
theorem f_6 : FnScope N_6 ["begin", "rows"] (defScope (top 15)) := ⟨rfl, rfl, rfl, by decide +kernel, rfl, by decide +kernel, by decide +kernel⟩
theorem c_7 : body? G W [] N_7 (defScope (top 16)) (defBody (top 16)) = some b_7 := by kernel_rfl
theorem f_7 : FnScope N_7 ["signal"] (defScope (top 16)) := ⟨rfl, rfl, rfl, by decide +kernel, rfl, by decide +kernel, by decide +kernel⟩
theorem c_8 : body? G W [] N_8 (defScope (top 17)) (defBody (top 17)) = some b_8 := by kernel_rfl
theorem f_8 : FnScope N_8 ["wait", "reason"] (defScope (top 17)) := ⟨rfl, rfl, rfl, by decide +kernel, rfl, by decide +kernel, by decide +kernel⟩
theorem c_9 : body? G W [] N_9 (defScope (top 18)) (defBody (top 18)) = some b_9 := by kernel_rfl
theorem f_9 : FnScope N_9 ["signal", "wait"] (defScope (top 18)) := ⟨rfl, rfl, rfl, by decide +kernel, rfl, by decide +kernel, by decide +kernel⟩
theorem c_10 : body? G W [] N_10 (defScope (top 19)) (defBody (top 19)) = some b_10 := by kernel_rfl
theorem f_10 : FnScope N_10 ["first", "second", "word"] (defScope (top 19)) := ⟨rfl, rfl, rfl, by decide +kernel, rfl, by decide +kernel, by decide +kernel⟩
theorem c_11 : body? G W [] N_11 (defScope (top 20)) (defBody (top 20)) = some b_11 := by kernel_rfl
theorem f_11 : FnScope N_11 ["one", "other", "word"] (defScope (top 20)) := ⟨rfl, rfl, rfl, by decide +kernel, rfl, by decide +kernel, by decide +kernel⟩
theorem c_12 : body? G W [] N_12 (defScope (top 21)) (defBody (top 21)) = some b_12 := by kernel_rfl
theorem f_12 : FnScope N_12 ["first", "second", "word"] (defScope (top 21)) := ⟨rfl, rfl, rfl, by decide +kernel, rfl, by decide +kernel, by decide +kernel⟩
theorem c_13 : body? G W ["rows"] N_13 (defScope (top 22)) (defBody (top 22)) = some b_13 := by kernel_rfl
theorem f_13 : FnScope N_13 ["signal", "least"] (defScope (top 22)) := ⟨rfl, rfl, rfl, by decide +kernel, rfl, by decide +kernel, by decide +kernel⟩
theorem c_14 : body? G W [] N_14 (defScope (top 23)) (defBody (top 23)) = some b_14 := by kernel_rfl
theorem f_14 : FnScope N_14 ["signal", "least"] (defScope (top 23)) := ⟨rfl, rfl, rfl, by decide +kernel, rfl, by decide +kernel, by decide +kernel⟩
theorem c_15 : body? G W ["rows"] N_15 (defScope (top 24)) (defBody (top 24)) = some b_15 := by kernel_rfl
theorem f_15 : FnScope N_15 ["signal", "more"] (defScope (top 24)) := ⟨rfl, rfl, rfl, by decide +kernel, rfl, by decide +kernel, by decide +kernel⟩
theorem c_16 : body? G W [] N_16 (defScope (top 25)) (defBody (top 25)) = some b_16 := by kernel_rfl
theorem f_16 : FnScope N_16 ["signal", "more"] (defScope (top 25)) := ⟨rfl, rfl, rfl, by decide +kernel, rfl, by decide +kernel, by decide +kernel⟩
theorem c_17 : body? G W [] N_17 (defScope (top 26)) (defBody (top 26)) = some b_17 := by kernel_rfl
theorem f_17 : FnScope N_17 ["signal", "more"] (defScope (top 26)) := ⟨rfl, rfl, rfl, by decide +kernel, rfl, by decide +kernel, by decide +kernel⟩
theorem c_18 : body? G W [] N_18 (defScope (top 27)) (defBody (top 27)) = some b_18 := by kernel_rfl
theorem f_18 : FnScope N_18 ["signal", "more"] (defScope (top 27)) := ⟨rfl, rfl, rfl, by decide +kernel, rfl, by decide +kernel, by decide +kernel⟩
theorem c_19 : body? G W ["found"] N_19 (defScope (top 28)) (defBody (top 28)) = some b_19 := by kernel_rfl
theorem f_19 : FnScope N_19 ["signal"] (defScope (top 28)) := ⟨rfl, rfl, rfl, by decide +kernel, rfl, by decide +kernel, by decide +kernel⟩
theorem c_20 : body? G W [] N_20 (defScope (top 29)) (defBody (top 29)) = some b_20 := by kernel_rfl
theorem f_20 : FnScope N_20 ["signal", "begin", "end"] (defScope (top 29)) := ⟨rfl, rfl, rfl, by decide +kernel, rfl, by decide +kernel, by decide +kernel⟩
theorem c_21 : body? G W [] N_21 (defScope (top 30)) (defBody (top 30)) = some b_21 := by kernel_rfl
theorem f_21 : FnScope N_21 ["signal"] (defScope (top 30)) := ⟨rfl, rfl, rfl, by decide +kernel, rfl, by decide +kernel, by decide +kernel⟩
theorem c_22 : body? G W [] N_22 (defScope (top 31)) (defBody (top 31)) = some b_22 := by kernel_rfl
theorem f_22 : FnScope N_22 ["first", "second"] (defScope (top 31)) := ⟨rfl, rfl, rfl, by decide +kernel, rfl, by decide +kernel, by decide +kernel⟩
theorem c_23 : body? G W ["found"] N_23 (defScope (top 32)) (defBody (top 32)) = some b_23 := by kernel_rfl
theorem f_23 : FnScope N_23 ["signal", "both", "least"] (defScope (top 32)) := ⟨rfl, rfl, rfl, by decide +kernel, rfl, by decide +kernel, by decide +kernel⟩
theorem c_24 : body? G W ["draws"] N_24 (defScope (top 34)) (defBody (top 34)) = some b_24 := by kernel_rfl
theorem f_24 : FnScope N_24 ["script"] (defScope (top 34)) := ⟨rfl, rfl, rfl, by decide +kernel, rfl, by decide +kernel, by decide +kernel⟩
theorem c_25 : body? G W [] N_25 (defScope (top 35)) (defBody (top 35)) = some b_25 := by kernel_rfl
theorem f_25 : FnScope N_25 ["draws", "place"] (defScope (top 35)) := ⟨rfl, rfl, rfl, by decide +kernel, rfl, by decide +kernel, by decide +kernel⟩
theorem c_26 : body? G W ["at"] N_26 (defScope (top 36)) (defBody (top 36)) = some b_26 := by kernel_rfl
theorem f_26 : FnScope N_26 ["draws", "at", "many"] (defScope (top 36)) := ⟨rfl, rfl, rfl, by decide +kernel, rfl, by decide +kernel, by decide +kernel⟩
theorem c_27 : body? G W [] N_27 (defScope (top 37)) (defBody (top 37)) = some b_27 := by kernel_rfl
theorem f_27 : FnScope N_27 ["rows", "draws", "at"] (defScope (top 37)) := ⟨rfl, rfl, rfl, by decide +kernel, rfl, by decide +kernel, by decide +kernel⟩
theorem c_28 : body? G W [] N_28 (defScope (top 38)) (defBody (top 38)) = some b_28 := by kernel_rfl
theorem f_28 : FnScope N_28 ["actual", "due"] (defScope (top 38)) := ⟨rfl, rfl, rfl, by decide +kernel, rfl, by decide +kernel, by decide +kernel⟩
theorem c_29 : body? G W ["times"] N_29 (defScope (top 39)) (defBody (top 39)) = some b_29 := by kernel_rfl
theorem f_29 : FnScope N_29 ["most", "far", "draws", "at"] (defScope (top 39)) := ⟨rfl, rfl, rfl, by decide +kernel, rfl, by decide +kernel, by decide +kernel⟩
theorem c_30 : body? G W [] N_30 (defScope (top 40)) (defBody (top 40)) = some b_30 := by kernel_rfl
theorem f_30 : FnScope N_30 ["signal", "time"] (defScope (top 40)) := ⟨rfl, rfl, rfl, by decide +kernel, rfl, by decide +kernel, by decide +kernel⟩
theorem c_31 : body? G W [] N_31 (defScope (top 41)) (defBody (top 41)) = some b_31 := by kernel_rfl
theorem f_31 : FnScope N_31 ["signal"] (defScope (top 41)) := ⟨rfl, rfl, rfl, by decide +kernel, rfl, by decide +kernel, by decide +kernel⟩
theorem c_32 : body? G W ["found"] N_32 (defScope (top 42)) (defBody (top 42)) = some b_32 := by kernel_rfl
theorem f_32 : FnScope N_32 ["begin", "times", "values"] (defScope (top 42)) := ⟨rfl, rfl, rfl, by decide +kernel, rfl, by decide +kernel, by decide +kernel⟩
theorem c_33 : body? G W [] N_33 (defScope (top 43)) (defBody (top 43)) = some b_33 := by kernel_rfl
theorem f_33 : FnScope N_33 ["signal", "time", "more"] (defScope (top 43)) := ⟨rfl, rfl, rfl, by decide +kernel, rfl, by decide +kernel, by decide +kernel⟩
theorem c_34 : body? G W [] N_34 (defScope (top 44)) (defBody (top 44)) = some b_34 := by kernel_rfl
theorem f_34 : FnScope N_34 ["signal", "more"] (defScope (top 44)) := ⟨rfl, rfl, rfl, by decide +kernel, rfl, by decide +kernel, by decide +kernel⟩
theorem c_35 : body? G W [] N_35 (defScope (top 45)) (defBody (top 45)) = some b_35 := by kernel_rfl
theorem f_35 : FnScope N_35 ["signal", "more"] (defScope (top 45)) := ⟨rfl, rfl, rfl, by decide +kernel, rfl, by decide +kernel, by decide +kernel⟩
theorem c_36 : body? G W ["found"] N_36 (defScope (top 46)) (defBody (top 46)) = some b_36 := by kernel_rfl
theorem f_36 : FnScope N_36 ["signal", "least"] (defScope (top 46)) := ⟨rfl, rfl, rfl, by decide +kernel, rfl, by decide +kernel, by decide +kernel⟩
theorem c_37 : body? G W [] N_37 (defScope (top 47)) (defBody (top 47)) = some b_37 := by kernel_rfl
theorem f_37 : FnScope N_37 ["first", "second", "word"] (defScope (top 47)) := ⟨rfl, rfl, rfl, by decide +kernel, rfl, by decide +kernel, by decide +kernel⟩
theorem c_38 : body? G W [] N_38 (defScope (top 48)) (defBody (top 48)) = some b_38 := by kernel_rfl
theorem f_38 : FnScope N_38 ["first", "second", "word"] (defScope (top 48)) := ⟨rfl, rfl, rfl, by decide +kernel, rfl, by decide +kernel, by decide +kernel⟩
theorem c_39 : body? G W ["found"] N_39 (defScope (top 49)) (defBody (top 49)) = some b_39 := by kernel_rfl
theorem f_39 : FnScope N_39 ["signal", "both", "least"] (defScope (top 49)) := ⟨rfl, rfl, rfl, by decide +kernel, rfl, by decide +kernel, by decide +kernel⟩
theorem c_40 : body? G W [] N_40 (defScope (top 50)) (defBody (top 50)) = some b_40 := by kernel_rfl
theorem f_40 : FnScope N_40 ["which", "one", "two", "three"] (defScope (top 50)) := ⟨rfl, rfl, rfl, by decide +kernel, rfl, by decide +kernel, by decide +kernel⟩
theorem c_41 : body? G W [] N_41 (defScope (top 51)) (defBody (top 51)) = some b_41 := by kernel_rfl
theorem f_41 : FnScope N_41 ["signal", "draws", "at"] (defScope (top 51)) := ⟨rfl, rfl, rfl, by decide +kernel, rfl, by decide +kernel, by decide +kernel⟩
theorem c_42 : body? G W ["at"] N_42 (defScope (top 52)) (defBody (top 52)) = some b_42 := by kernel_rfl
theorem f_42 : FnScope N_42 ["script"] (defScope (top 52)) := ⟨rfl, rfl, rfl, by decide +kernel, rfl, by decide +kernel, by decide +kernel⟩
theorem r_0 (k : Nat) (a0 : Vl) (S : Sto) : callAt fns W (k + 1) 0 [a0] S = fin S.length (xs (callAt fns W k) W b_0 [some a0] S) := rfl
theorem r_1 (k : Nat) (a0 a1 a2 : Vl) (S : Sto) : callAt fns W (k + 1) 1 [a0, a1, a2] S = fin S.length (xs (callAt fns W k) W b_1 [some a0, some a1, some a2] S) := rfl
theorem r_2 (k : Nat) (a0 : Vl) (S : Sto) : callAt fns W (k + 1) 2 [a0] S = fin S.length (xs (callAt fns W k) W b_2 [some a0, none, none, none] S) := rfl
theorem r_3 (k : Nat) (a0 a1 : Vl) (S : Sto) : callAt fns W (k + 1) 3 [a0, a1] S = fin S.length (xs (callAt fns W k) W b_3 [some a0, some a1] S) := rfl
theorem r_4 (k : Nat) (a0 a1 : Vl) (S : Sto) : callAt fns W (k + 1) 4 [a0, a1] S = fin S.length (xs (callAt fns W k) W b_4 [some a0, some a1, none] S) := rfl
theorem r_5 (k : Nat) (a0 a1 : Vl) (S : Sto) : callAt fns W (k + 1) 5 [a0, a1] S = fin S.length (xs (callAt fns W k) W b_5 [some a0, some a1] S) := rfl
theorem r_6 (k : Nat) (a0 a1 : Vl) (S : Sto) : callAt fns W (k + 1) 6 [a0, a1] S = fin S.length (xs (callAt fns W k) W b_6 [some a0, some a1, none, none, none, none] S) := rfl
theorem r_7 (k : Nat) (a0 : Vl) (S : Sto) : callAt fns W (k + 1) 7 [a0] S = fin S.length (xs (callAt fns W k) W b_7 [some a0] S) := rfl
theorem r_8 (k : Nat) (a0 a1 : Vl) (S : Sto) : callAt fns W (k + 1) 8 [a0, a1] S = fin S.length (xs (callAt fns W k) W b_8 [some a0, some a1] S) := rfl
theorem r_9 (k : Nat) (a0 a1 : Vl) (S : Sto) : callAt fns W (k + 1) 9 [a0, a1] S = fin S.length (xs (callAt fns W k) W b_9 [some a0, some a1, none] S) := rfl
theorem r_10 (k : Nat) (a0 a1 a2 : Vl) (S : Sto) : callAt fns W (k + 1) 10 [a0, a1, a2] S = fin S.length (xs (callAt fns W k) W b_10 [some a0, some a1, some a2, none, none, none] S) := rfl
theorem r_11 (k : Nat) (a0 a1 a2 : Vl) (S : Sto) : callAt fns W (k + 1) 11 [a0, a1, a2] S = fin S.length (xs (callAt fns W k) W b_11 [some a0, some a1, some a2] S) := rfl
theorem r_12 (k : Nat) (a0 a1 a2 : Vl) (S : Sto) : callAt fns W (k + 1) 12 [a0, a1, a2] S = fin S.length (xs (callAt fns W k) W b_12 [some a0, some a1, some a2] S) := rfl
theorem r_13 (k : Nat) (a0 a1 : Vl) (S : Sto) : callAt fns W (k + 1) 13 [a0, a1] S = fin S.length (xs (callAt fns W k) W b_13 [some a0, some a1, none, none, none, none] S) := rfl
theorem r_14 (k : Nat) (a0 a1 : Vl) (S : Sto) : callAt fns W (k + 1) 14 [a0, a1] S = fin S.length (xs (callAt fns W k) W b_14 [some a0, some a1] S) := rfl
theorem r_15 (k : Nat) (a0 a1 : Vl) (S : Sto) : callAt fns W (k + 1) 15 [a0, a1] S = fin S.length (xs (callAt fns W k) W b_15 [some a0, some a1, none, none, none, none, none] S) := rfl
theorem r_16 (k : Nat) (a0 a1 : Vl) (S : Sto) : callAt fns W (k + 1) 16 [a0, a1] S = fin S.length (xs (callAt fns W k) W b_16 [some a0, some a1, none] S) := rfl
theorem r_17 (k : Nat) (a0 a1 : Vl) (S : Sto) : callAt fns W (k + 1) 17 [a0, a1] S = fin S.length (xs (callAt fns W k) W b_17 [some a0, some a1] S) := rfl
theorem r_18 (k : Nat) (a0 a1 : Vl) (S : Sto) : callAt fns W (k + 1) 18 [a0, a1] S = fin S.length (xs (callAt fns W k) W b_18 [some a0, some a1] S) := rfl
theorem r_19 (k : Nat) (a0 : Vl) (S : Sto) : callAt fns W (k + 1) 19 [a0] S = fin S.length (xs (callAt fns W k) W b_19 [some a0, none, none, none, none] S) := rfl
theorem r_20 (k : Nat) (a0 a1 a2 : Vl) (S : Sto) : callAt fns W (k + 1) 20 [a0, a1, a2] S = fin S.length (xs (callAt fns W k) W b_20 [some a0, some a1, some a2, none, none, none, none] S) := rfl
theorem r_21 (k : Nat) (a0 : Vl) (S : Sto) : callAt fns W (k + 1) 21 [a0] S = fin S.length (xs (callAt fns W k) W b_21 [some a0, none, none, none] S) := rfl
theorem r_22 (k : Nat) (a0 a1 : Vl) (S : Sto) : callAt fns W (k + 1) 22 [a0, a1] S = fin S.length (xs (callAt fns W k) W b_22 [some a0, some a1, none] S) := rfl
theorem r_23 (k : Nat) (a0 a1 a2 : Vl) (S : Sto) : callAt fns W (k + 1) 23 [a0, a1, a2] S = fin S.length (xs (callAt fns W k) W b_23 [some a0, some a1, some a2, none, none] S) := rfl
theorem r_24 (k : Nat) (a0 : Vl) (S : Sto) : callAt fns W (k + 1) 24 [a0] S = fin S.length (xs (callAt fns W k) W b_24 [some a0, none, none, none, none, none] S) := rfl
theorem r_25 (k : Nat) (a0 a1 : Vl) (S : Sto) : callAt fns W (k + 1) 25 [a0, a1] S = fin S.length (xs (callAt fns W k) W b_25 [some a0, some a1, none, none] S) := rfl
theorem r_26 (k : Nat) (a0 a1 a2 : Vl) (S : Sto) : callAt fns W (k + 1) 26 [a0, a1, a2] S = fin S.length (xs (callAt fns W k) W b_26 [some a0, some a1, some a2, none] S) := rfl
theorem r_27 (k : Nat) (a0 a1 a2 : Vl) (S : Sto) : callAt fns W (k + 1) 27 [a0, a1, a2] S = fin S.length (xs (callAt fns W k) W b_27 [some a0, some a1, some a2] S) := rfl
theorem r_28 (k : Nat) (a0 a1 : Vl) (S : Sto) : callAt fns W (k + 1) 28 [a0, a1] S = fin S.length (xs (callAt fns W k) W b_28 [some a0, some a1] S) := rfl
theorem r_29 (k : Nat) (a0 a1 a2 a3 : Vl) (S : Sto) : callAt fns W (k + 1) 29 [a0, a1, a2, a3] S = fin S.length (xs (callAt fns W k) W b_29 [some a0, some a1, some a2, some a3, none, none, none, none] S) := rfl
theorem r_30 (k : Nat) (a0 a1 : Vl) (S : Sto) : callAt fns W (k + 1) 30 [a0, a1] S = fin S.length (xs (callAt fns W k) W b_30 [some a0, some a1, none] S) := rfl
theorem r_31 (k : Nat) (a0 : Vl) (S : Sto) : callAt fns W (k + 1) 31 [a0] S = fin S.length (xs (callAt fns W k) W b_31 [some a0, none, none] S) := rfl
theorem r_32 (k : Nat) (a0 a1 a2 : Vl) (S : Sto) : callAt fns W (k + 1) 32 [a0, a1, a2] S = fin S.length (xs (callAt fns W k) W b_32 [some a0, some a1, some a2, none, none, none] S) := rfl
theorem r_33 (k : Nat) (a0 a1 a2 : Vl) (S : Sto) : callAt fns W (k + 1) 33 [a0, a1, a2] S = fin S.length (xs (callAt fns W k) W b_33 [some a0, some a1, some a2, none, none] S) := rfl
theorem r_34 (k : Nat) (a0 a1 : Vl) (S : Sto) : callAt fns W (k + 1) 34 [a0, a1] S = fin S.length (xs (callAt fns W k) W b_34 [some a0, some a1, none, none] S) := rfl
theorem r_35 (k : Nat) (a0 a1 : Vl) (S : Sto) : callAt fns W (k + 1) 35 [a0, a1] S = fin S.length (xs (callAt fns W k) W b_35 [some a0, some a1, none] S) := rfl
theorem r_36 (k : Nat) (a0 a1 : Vl) (S : Sto) : callAt fns W (k + 1) 36 [a0, a1] S = fin S.length (xs (callAt fns W k) W b_36 [some a0, some a1, none, none, none, none, none] S) := rfl
theorem r_37 (k : Nat) (a0 a1 a2 : Vl) (S : Sto) : callAt fns W (k + 1) 37 [a0, a1, a2] S = fin S.length (xs (callAt fns W k) W b_37 [some a0, some a1, some a2] S) := rfl
theorem r_38 (k : Nat) (a0 a1 a2 : Vl) (S : Sto) : callAt fns W (k + 1) 38 [a0, a1, a2] S = fin S.length (xs (callAt fns W k) W b_38 [some a0, some a1, some a2, none, none, none] S) := rfl
theorem r_39 (k : Nat) (a0 a1 a2 : Vl) (S : Sto) : callAt fns W (k + 1) 39 [a0, a1, a2] S = fin S.length (xs (callAt fns W k) W b_39 [some a0, some a1, some a2, none, none] S) := rfl
theorem r_40 (k : Nat) (a0 a1 a2 a3 : Vl) (S : Sto) : callAt fns W (k + 1) 40 [a0, a1, a2, a3] S = fin S.length (xs (callAt fns W k) W b_40 [some a0, some a1, some a2, some a3, none] S) := rfl
theorem r_41 (k : Nat) (a0 a1 a2 : Vl) (S : Sto) : callAt fns W (k + 1) 41 [a0, a1, a2] S = fin S.length (xs (callAt fns W k) W b_41 [some a0, some a1, some a2, none, none, none, none, none, none, none, none, none, none, none, none, none, none, none, none, none, none] S) := rfl
theorem r_42 (k : Nat) (a0 : Vl) (S : Sto) : callAt fns W (k + 1) 42 [a0] S = fin S.length (xs (callAt fns W k) W b_42 [some a0, none, none, none, none, none, none, none, none, none, none, none, none, none, none, none, none] S) := rfl
end Tx
/-! part Hx74 -/
set_option Elab.async false
set_option linter.all false
set_option maxRecDepth 100000
set_option maxHeartbeats 0
/-! The head. -/
namespace Tx
open PySem PySem.Spec PyProof.Rows L2 In
def d_0 : He.DefD := ⟨("is_integer", none), "is_integer", "is_integer", defArgs (top 3), defBody (top 3), defScope (top 3), [], []⟩
def d_1 : He.DefD := ⟨("in_range", none), "in_range", "in_range", defArgs (top 4), defBody (top 4), defScope (top 4), [], []⟩
def d_2 : He.DefD := ⟨("is_signal", none), "is_signal", "is_signal", defArgs (top 11), defBody (top 11), defScope (top 11), [], []⟩
def d_3 : He.DefD := ⟨("demand_signal", none), "demand_signal", "demand_signal", defArgs (top 12), defBody (top 12), defScope (top 12), [.str "signal"], []⟩
def d_4 : He.DefD := ⟨("value_of", none), "value_of", "value_of", defArgs (top 13), defBody (top 13), defScope (top 13), [], []⟩
def d_5 : He.DefD := ⟨("value_at", none), "value_at", "value_at", defArgs (top 14), defBody (top 14), defScope (top 14), [], []⟩
def d_6 : He.DefD := ⟨("from_values", none), "from_values", "from_values", defArgs (top 15), defBody (top 15), defScope (top 15), [], []⟩
def d_7 : He.DefD := ⟨("turned", none), "turned", "turned", defArgs (top 16), defBody (top 16), defScope (top 16), [], []⟩
def d_8 : He.DefD := ⟨("demand_wait", none), "demand_wait", "demand_wait", defArgs (top 17), defBody (top 17), defScope (top 17), [], []⟩
def d_9 : He.DefD := ⟨("delayed", none), "delayed", "delayed", defArgs (top 18), defBody (top 18), defScope (top 18), [], []⟩
def d_10 : He.DefD := ⟨("joined", none), "joined", "joined", defArgs (top 19), defBody (top 19), defScope (top 19), [], []⟩
def d_11 : He.DefD := ⟨("put", none), "put", "put", defArgs (top 20), defBody (top 20), defScope (top 20), [], []⟩
def d_12 : He.DefD := ⟨("together", none), "together", "together", defArgs (top 21), defBody (top 21), defScope (top 21), [], []⟩
def d_13 : He.DefD := ⟨("filtered_of", none), "filtered_of", "filtered_of", defArgs (top 22), defBody (top 22), defScope (top 22), [], []⟩
def d_14 : He.DefD := ⟨("filtered", none), "filtered", "filtered", defArgs (top 23), defBody (top 23), defScope (top 23), [], []⟩
def d_15 : He.DefD := ⟨("widened", none), "widened", "widened", defArgs (top 24), defBody (top 24), defScope (top 24), [], []⟩
def d_16 : He.DefD := ⟨("turned_widened", none), "turned_widened", "turned_widened", defArgs (top 25), defBody (top 25), defScope (top 25), [], []⟩
def d_17 : He.DefD := ⟨("held_on", none), "held_on", "held_on", defArgs (top 26), defBody (top 26), defScope (top 26), [], []⟩
def d_18 : He.DefD := ⟨("held_off", none), "held_off", "held_off", defArgs (top 27), defBody (top 27), defScope (top 27), [], []⟩
def d_19 : He.DefD := ⟨("pulses", none), "pulses", "pulses", defArgs (top 28), defBody (top 28), defScope (top 28), [], []⟩
def d_20 : He.DefD := ⟨("measure", none), "measure", "measure", defArgs (top 29), defBody (top 29), defScope (top 29), [], []⟩
def d_21 : He.DefD := ⟨("shortest", none), "shortest", "shortest", defArgs (top 30), defBody (top 30), defScope (top 30), [], []⟩
def d_22 : He.DefD := ⟨("first_unlike", none), "first_unlike", "first_unlike", defArgs (top 31), defBody (top 31), defScope (top 31), [], []⟩
def d_23 : He.DefD := ⟨("kept_rises", none), "kept_rises", "kept_rises", defArgs (top 32), defBody (top 32), defScope (top 32), [], []⟩
def d_24 : He.DefD := ⟨("_law_draws", none), "_law_draws", "_law_draws", defArgs (top 34), defBody (top 34), defScope (top 34), [], []⟩
def d_25 : He.DefD := ⟨("_law_more", none), "_law_more", "_law_more", defArgs (top 35), defBody (top 35), defScope (top 35), [], []⟩
def d_26 : He.DefD := ⟨("_law_take", none), "_law_take", "_law_take", defArgs (top 36), defBody (top 36), defScope (top 36), [], []⟩
def d_27 : He.DefD := ⟨("_law_one", none), "_law_one", "_law_one", defArgs (top 37), defBody (top 37), defScope (top 37), [], []⟩
def d_28 : He.DefD := ⟨("_law_same_as", none), "_law_same_as", "_law_same_as", defArgs (top 38), defBody (top 38), defScope (top 38), [], []⟩
def d_29 : He.DefD := ⟨("_law_signal", none), "_law_signal", "_law_signal", defArgs (top 39), defBody (top 39), defScope (top 39), [], []⟩
def d_30 : He.DefD := ⟨("_law_value", none), "_law_value", "_law_value", defArgs (top 40), defBody (top 40), defScope (top 40), [], []⟩
def d_31 : He.DefD := ⟨("_law_spans", none), "_law_spans", "_law_spans", defArgs (top 41), defBody (top 41), defScope (top 41), [], []⟩
def d_32 : He.DefD := ⟨("_law_written", none), "_law_written", "_law_written", defArgs (top 42), defBody (top 42), defScope (top 42), [], []⟩
def d_33 : He.DefD := ⟨("_law_is_held", none), "_law_is_held", "_law_is_held", defArgs (top 43), defBody (top 43), defScope (top 43), [], []⟩
def d_34 : He.DefD := ⟨("_law_held_on", none), "_law_held_on", "_law_held_on", defArgs (top 44), defBody (top 44), defScope (top 44), [], []⟩
def d_35 : He.DefD := ⟨("_law_held_off", none), "_law_held_off", "_law_held_off", defArgs (top 45), defBody (top 45), defScope (top 45), [], []⟩
def d_36 : He.DefD := ⟨("_law_filtered", none), "_law_filtered", "_law_filtered", defArgs (top 46), defBody (top 46), defScope (top 46), [], []⟩
def d_37 : He.DefD := ⟨("_law_put", none), "_law_put", "_law_put", defArgs (top 47), defBody (top 47), defScope (top 47), [], []⟩
def d_38 : He.DefD := ⟨("_law_joined", none), "_law_joined", "_law_joined", defArgs (top 48), defBody (top 48), defScope (top 48), [], []⟩
def d_39 : He.DefD := ⟨("_law_kept", none), "_law_kept", "_law_kept", defArgs (top 49), defBody (top 49), defScope (top 49), [], []⟩
def d_40 : He.DefD := ⟨("_law_told", none), "_law_told", "_law_told", defArgs (top 50), defBody (top 50), defScope (top 50), [], []⟩
def d_41 : He.DefD := ⟨("_law_one_fits", none), "_law_one_fits", "_law_one_fits", defArgs (top 51), defBody (top 51), defScope (top 51), [], []⟩
def d_42 : He.DefD := ⟨("law", none), "law", "law", defArgs (top 52), defBody (top 52), defScope (top 52), [], []⟩
def fn : List He.DefD := ([d_0, d_1, d_2, d_3, d_4, d_5, d_6, d_7, d_8, d_9, d_10, d_11, d_12, d_13, d_14, d_15, d_16, d_17, d_18, d_19, d_20, d_21, d_22, d_23, d_24, d_25, d_26, d_27, d_28, d_29] : List He.DefD) ++ ([d_30, d_31, d_32, d_33, d_34, d_35, d_36, d_37, d_38, d_39, d_40, d_41, d_42] : List He.DefD)
abbrev R : PySem.W.OpenRow := PySem.W.OpenLaw.row PySem.Challenge.rw_timewrought_k74_whole_pulses
abbrev PP : Program := PySem.W.OpenLaw.prog PySem.Challenge.rw_timewrought_k74_whole_pulses
abbrev hk : PySem.W.Hook := hookX 4 G PP fn
def ob (s : PySem.W.SharedT) : AlX := obsXG 4 G PP fn (HandSHeadRun.getT s)
theorem ob_eq (s : PySem.W.SharedT) : ob s = hk.obs s.abs := obsXG_eq (HandSHeadRun.getT_eq s)
def loose : List PySem.Str := (["MAX_BEATS", "MAX_MOMENT", "is_integer", "in_range", "TimeError", "ReasonError", "ArgumentError", "WORDS", "is_signal", "demand_signal", "value_of", "value_at", "from_values", "turned", "demand_wait", "delayed", "joined", "put", "together", "filtered_of", "filtered", "widened", "turned_widened", "held_on", "held_off", "pulses", "measure", "shortest", "first_unlike", "kept_rises"] : List PySem.Str) ++ (["_law_draws", "_law_more", "_law_take", "_law_one", "_law_same_as", "_law_signal", "_law_value", "_law_spans", "_law_written", "_law_is_held", "_law_held_on", "_law_held_off", "_law_filtered", "_law_put", "_law_joined", "_law_kept", "_law_told", "_law_one_fits"] : List PySem.Str)
theorem run (w : World) : HandSHeadRun.RunEq R (PySem.W.view R.prog [52]) hk ob 6000 loose w := by
  intro os
  kernel_rfl
theorem o_0 {K : Frag} {h : Heap} {mg : Str → Option Value} (X : K.In h) (Gn : h.Ns mainGlobals mg) (c : SaysX G PP fn K) : ∃ f fd ps, DefOk G W K mg fns "is_integer" ⟨0, 1, []⟩ f fd ps := by
  obtain ⟨fd, F⟩ := c.2.def_ 0 (d := d_0) rfl
  have g : mg "is_integer" = some (.ref (He.fAd K ("is_integer", none))) := c.glo X Gn (x := "is_integer") (D := ⟨0, 1, []⟩) (by first | rfl | decide +kernel)
  refine ⟨_, fd, ["value"], g, F.kp, fun n hn => ?_, ?_⟩
  · have b : Binds K fd ["value"] [] := FunD.bindsN F fun _ _ _ _ _ _ us hl => match us, hl with | [_], _ => rfl
    exact ⟨[], [], b, .nil, fun H => by rw [List.drop_nil]; exact .nil⟩
  · obtain ⟨oc, od, dV, kV, doc, pm, an, cdv, ct, osl, e, lk, hcd, _, _⟩ := F.ex
    exact ⟨_, _, _, _, _, _, _, _, _, _, _, oc, _, od, osl, N_0, ⟨1, 1, b_0⟩, e, lk, hcd, f_0, rfl, rfl, rfl, rfl, body_ok c_0⟩
theorem o_1 {K : Frag} {h : Heap} {mg : Str → Option Value} (X : K.In h) (Gn : h.Ns mainGlobals mg) (c : SaysX G PP fn K) : ∃ f fd ps, DefOk G W K mg fns "in_range" ⟨1, 3, []⟩ f fd ps := by
  obtain ⟨fd, F⟩ := c.2.def_ 1 (d := d_1) rfl
  have g : mg "in_range" = some (.ref (He.fAd K ("in_range", none))) := c.glo X Gn (x := "in_range") (D := ⟨1, 3, []⟩) (by first | rfl | decide +kernel)
  refine ⟨_, fd, ["value", "least", "most"], g, F.kp, fun n hn => ?_, ?_⟩
  · have b : Binds K fd ["value", "least", "most"] [] := FunD.bindsN F fun _ _ _ _ _ _ us hl => match us, hl with | [_, _, _], _ => rfl
    exact ⟨[], [], b, .nil, fun H => by rw [List.drop_nil]; exact .nil⟩
  · obtain ⟨oc, od, dV, kV, doc, pm, an, cdv, ct, osl, e, lk, hcd, _, _⟩ := F.ex
    exact ⟨_, _, _, _, _, _, _, _, _, _, _, oc, _, od, osl, N_1, ⟨3, 3, b_1⟩, e, lk, hcd, f_1, rfl, rfl, rfl, rfl, body_ok c_1⟩
theorem o_2 {K : Frag} {h : Heap} {mg : Str → Option Value} (X : K.In h) (Gn : h.Ns mainGlobals mg) (c : SaysX G PP fn K) : ∃ f fd ps, DefOk G W K mg fns "is_signal" ⟨2, 1, []⟩ f fd ps := by
  obtain ⟨fd, F⟩ := c.2.def_ 2 (d := d_2) rfl
  have g : mg "is_signal" = some (.ref (He.fAd K ("is_signal", none))) := c.glo X Gn (x := "is_signal") (D := ⟨2, 1, []⟩) (by first | rfl | decide +kernel)
  refine ⟨_, fd, ["value"], g, F.kp, fun n hn => ?_, ?_⟩
  · have b : Binds K fd ["value"] [] := FunD.bindsN F fun _ _ _ _ _ _ us hl => match us, hl with | [_], _ => rfl
    exact ⟨[], [], b, .nil, fun H => by rw [List.drop_nil]; exact .nil⟩
  · obtain ⟨oc, od, dV, kV, doc, pm, an, cdv, ct, osl, e, lk, hcd, _, _⟩ := F.ex
    exact ⟨_, _, _, _, _, _, _, _, _, _, _, oc, _, od, osl, N_2, ⟨1, 4, b_2⟩, e, lk, hcd, f_2, rfl, rfl, rfl, rfl, body_ok c_2⟩
theorem o_3 {K : Frag} {h : Heap} {mg : Str → Option Value} (X : K.In h) (Gn : h.Ns mainGlobals mg) (c : SaysX G PP fn K) : ∃ f fd ps, DefOk G W K mg fns "demand_signal" ⟨3, 2, [.str "signal"]⟩ f fd ps := by
  obtain ⟨fd, F⟩ := c.2.def_ 3 (d := d_3) rfl
  have g : mg "demand_signal" = some (.ref (He.fAd K ("demand_signal", none))) := c.glo X Gn (x := "demand_signal") (D := ⟨3, 2, [.str "signal"]⟩) (by first | rfl | decide +kernel)
  refine ⟨_, fd, ["signal", "reason"], g, F.kp, fun n hn => ?_, ?_⟩
  · have hn' : n ≤ 1 := hn
    have b0 : ∃ ds, Vals ((d_3.dvs K).drop 0) ds ∧ Binds K fd ["signal", "reason"] ds := FunD.binds1 F 1 0 (by intro z; cases z) rfl fun T kV doc pm an cdv ct us its h1 h2 => match us, its, h1, h2 with | [_], [_], _, _ => ⟨_, rfl, rfl⟩
    have b1 : ∃ ds, Vals ((d_3.dvs K).drop 1) ds ∧ Binds K fd ["signal", "reason"] ds := FunD.binds1 F 2 1 (by intro z; cases z) rfl fun T kV doc pm an cdv ct us its h1 h2 => match us, its, h1, h2 with | [_, _], [_], _, _ => ⟨_, rfl, rfl⟩
    have e0 : ∀ H : Hp, RPs K H (([.str "signal"] : List PyData).drop 0) ((d_3.dvs K).drop 0) := fun H => .cons (.str _) (.nil)
    have e1 : ∀ H : Hp, RPs K H (([.str "signal"] : List PyData).drop 1) ((d_3.dvs K).drop 1) := fun H => .nil
    match n, hn' with
    | 0, _ => obtain ⟨ds, v, b⟩ := b0; exact ⟨ds, _, b, v, e0⟩
    | 1, _ => obtain ⟨ds, v, b⟩ := b1; exact ⟨ds, _, b, v, e1⟩
  · obtain ⟨oc, od, dV, kV, doc, pm, an, cdv, ct, osl, e, lk, hcd, _, _⟩ := F.ex
    exact ⟨_, _, _, _, _, _, _, _, _, _, _, oc, _, od, osl, N_3, ⟨2, 2, b_3⟩, e, lk, hcd, f_3, rfl, rfl, rfl, rfl, body_ok c_3⟩
theorem o_4 {K : Frag} {h : Heap} {mg : Str → Option Value} (X : K.In h) (Gn : h.Ns mainGlobals mg) (c : SaysX G PP fn K) : ∃ f fd ps, DefOk G W K mg fns "value_of" ⟨4, 2, []⟩ f fd ps := by
  obtain ⟨fd, F⟩ := c.2.def_ 4 (d := d_4) rfl
  have g : mg "value_of" = some (.ref (He.fAd K ("value_of", none))) := c.glo X Gn (x := "value_of") (D := ⟨4, 2, []⟩) (by first | rfl | decide +kernel)
  refine ⟨_, fd, ["signal", "time"], g, F.kp, fun n hn => ?_, ?_⟩
  · have b : Binds K fd ["signal", "time"] [] := FunD.bindsN F fun _ _ _ _ _ _ us hl => match us, hl with | [_, _], _ => rfl
    exact ⟨[], [], b, .nil, fun H => by rw [List.drop_nil]; exact .nil⟩
  · obtain ⟨oc, od, dV, kV, doc, pm, an, cdv, ct, osl, e, lk, hcd, _, _⟩ := F.ex
    exact ⟨_, _, _, _, _, _, _, _, _, _, _, oc, _, od, osl, N_4, ⟨2, 3, b_4⟩, e, lk, hcd, f_4, rfl, rfl, rfl, rfl, body_ok c_4⟩
theorem o_5 {K : Frag} {h : Heap} {mg : Str → Option Value} (X : K.In h) (Gn : h.Ns mainGlobals mg) (c : SaysX G PP fn K) : ∃ f fd ps, DefOk G W K mg fns "value_at" ⟨5, 2, []⟩ f fd ps := by
  obtain ⟨fd, F⟩ := c.2.def_ 5 (d := d_5) rfl
  have g : mg "value_at" = some (.ref (He.fAd K ("value_at", none))) := c.glo X Gn (x := "value_at") (D := ⟨5, 2, []⟩) (by first | rfl | decide +kernel)
  refine ⟨_, fd, ["signal", "time"], g, F.kp, fun n hn => ?_, ?_⟩
  · have b : Binds K fd ["signal", "time"] [] := FunD.bindsN F fun _ _ _ _ _ _ us hl => match us, hl with | [_, _], _ => rfl
    exact ⟨[], [], b, .nil, fun H => by rw [List.drop_nil]; exact .nil⟩
  · obtain ⟨oc, od, dV, kV, doc, pm, an, cdv, ct, osl, e, lk, hcd, _, _⟩ := F.ex
    exact ⟨_, _, _, _, _, _, _, _, _, _, _, oc, _, od, osl, N_5, ⟨2, 2, b_5⟩, e, lk, hcd, f_5, rfl, rfl, rfl, rfl, body_ok c_5⟩
theorem o_6 {K : Frag} {h : Heap} {mg : Str → Option Value} (X : K.In h) (Gn : h.Ns mainGlobals mg) (c : SaysX G PP fn K) : ∃ f fd ps, DefOk G W K mg fns "from_values" ⟨6, 2, []⟩ f fd ps := by
  obtain ⟨fd, F⟩ := c.2.def_ 6 (d := d_6) rfl
  have g : mg "from_values" = some (.ref (He.fAd K ("from_values", none))) := c.glo X Gn (x := "from_values") (D := ⟨6, 2, []⟩) (by first | rfl | decide +kernel)
  refine ⟨_, fd, ["begin", "rows"], g, F.kp, fun n hn => ?_, ?_⟩
  · have b : Binds K fd ["begin", "rows"] [] := FunD.bindsN F fun _ _ _ _ _ _ us hl => match us, hl with | [_, _], _ => rfl
    exact ⟨[], [], b, .nil, fun H => by rw [List.drop_nil]; exact .nil⟩
  · obtain ⟨oc, od, dV, kV, doc, pm, an, cdv, ct, osl, e, lk, hcd, _, _⟩ := F.ex
    exact ⟨_, _, _, _, _, _, _, _, _, _, _, oc, _, od, osl, N_6, ⟨2, 6, b_6⟩, e, lk, hcd, f_6, rfl, rfl, rfl, rfl, body_ok c_6⟩
theorem o_7 {K : Frag} {h : Heap} {mg : Str → Option Value} (X : K.In h) (Gn : h.Ns mainGlobals mg) (c : SaysX G PP fn K) : ∃ f fd ps, DefOk G W K mg fns "turned" ⟨7, 1, []⟩ f fd ps := by
  obtain ⟨fd, F⟩ := c.2.def_ 7 (d := d_7) rfl
  have g : mg "turned" = some (.ref (He.fAd K ("turned", none))) := c.glo X Gn (x := "turned") (D := ⟨7, 1, []⟩) (by first | rfl | decide +kernel)
  refine ⟨_, fd, ["signal"], g, F.kp, fun n hn => ?_, ?_⟩
  · have b : Binds K fd ["signal"] [] := FunD.bindsN F fun _ _ _ _ _ _ us hl => match us, hl with | [_], _ => rfl
    exact ⟨[], [], b, .nil, fun H => by rw [List.drop_nil]; exact .nil⟩
  · obtain ⟨oc, od, dV, kV, doc, pm, an, cdv, ct, osl, e, lk, hcd, _, _⟩ := F.ex
    exact ⟨_, _, _, _, _, _, _, _, _, _, _, oc, _, od, osl, N_7, ⟨1, 1, b_7⟩, e, lk, hcd, f_7, rfl, rfl, rfl, rfl, body_ok c_7⟩
theorem o_8 {K : Frag} {h : Heap} {mg : Str → Option Value} (X : K.In h) (Gn : h.Ns mainGlobals mg) (c : SaysX G PP fn K) : ∃ f fd ps, DefOk G W K mg fns "demand_wait" ⟨8, 2, []⟩ f fd ps := by
  obtain ⟨fd, F⟩ := c.2.def_ 8 (d := d_8) rfl
  have g : mg "demand_wait" = some (.ref (He.fAd K ("demand_wait", none))) := c.glo X Gn (x := "demand_wait") (D := ⟨8, 2, []⟩) (by first | rfl | decide +kernel)
  refine ⟨_, fd, ["wait", "reason"], g, F.kp, fun n hn => ?_, ?_⟩
  · have b : Binds K fd ["wait", "reason"] [] := FunD.bindsN F fun _ _ _ _ _ _ us hl => match us, hl with | [_, _], _ => rfl
    exact ⟨[], [], b, .nil, fun H => by rw [List.drop_nil]; exact .nil⟩
  · obtain ⟨oc, od, dV, kV, doc, pm, an, cdv, ct, osl, e, lk, hcd, _, _⟩ := F.ex
    exact ⟨_, _, _, _, _, _, _, _, _, _, _, oc, _, od, osl, N_8, ⟨2, 2, b_8⟩, e, lk, hcd, f_8, rfl, rfl, rfl, rfl, body_ok c_8⟩
theorem o_9 {K : Frag} {h : Heap} {mg : Str → Option Value} (X : K.In h) (Gn : h.Ns mainGlobals mg) (c : SaysX G PP fn K) : ∃ f fd ps, DefOk G W K mg fns "delayed" ⟨9, 2, []⟩ f fd ps := by
  obtain ⟨fd, F⟩ := c.2.def_ 9 (d := d_9) rfl
  have g : mg "delayed" = some (.ref (He.fAd K ("delayed", none))) := c.glo X Gn (x := "delayed") (D := ⟨9, 2, []⟩) (by first | rfl | decide +kernel)
  refine ⟨_, fd, ["signal", "wait"], g, F.kp, fun n hn => ?_, ?_⟩
  · have b : Binds K fd ["signal", "wait"] [] := FunD.bindsN F fun _ _ _ _ _ _ us hl => match us, hl with | [_, _], _ => rfl
    exact ⟨[], [], b, .nil, fun H => by rw [List.drop_nil]; exact .nil⟩
  · obtain ⟨oc, od, dV, kV, doc, pm, an, cdv, ct, osl, e, lk, hcd, _, _⟩ := F.ex
    exact ⟨_, _, _, _, _, _, _, _, _, _, _, oc, _, od, osl, N_9, ⟨2, 3, b_9⟩, e, lk, hcd, f_9, rfl, rfl, rfl, rfl, body_ok c_9⟩
theorem o_10 {K : Frag} {h : Heap} {mg : Str → Option Value} (X : K.In h) (Gn : h.Ns mainGlobals mg) (c : SaysX G PP fn K) : ∃ f fd ps, DefOk G W K mg fns "joined" ⟨10, 3, []⟩ f fd ps := by
  obtain ⟨fd, F⟩ := c.2.def_ 10 (d := d_10) rfl
  have g : mg "joined" = some (.ref (He.fAd K ("joined", none))) := c.glo X Gn (x := "joined") (D := ⟨10, 3, []⟩) (by first | rfl | decide +kernel)
  refine ⟨_, fd, ["first", "second", "word"], g, F.kp, fun n hn => ?_, ?_⟩
  · have b : Binds K fd ["first", "second", "word"] [] := FunD.bindsN F fun _ _ _ _ _ _ us hl => match us, hl with | [_, _, _], _ => rfl
    exact ⟨[], [], b, .nil, fun H => by rw [List.drop_nil]; exact .nil⟩
  · obtain ⟨oc, od, dV, kV, doc, pm, an, cdv, ct, osl, e, lk, hcd, _, _⟩ := F.ex
    exact ⟨_, _, _, _, _, _, _, _, _, _, _, oc, _, od, osl, N_10, ⟨3, 6, b_10⟩, e, lk, hcd, f_10, rfl, rfl, rfl, rfl, body_ok c_10⟩
theorem o_11 {K : Frag} {h : Heap} {mg : Str → Option Value} (X : K.In h) (Gn : h.Ns mainGlobals mg) (c : SaysX G PP fn K) : ∃ f fd ps, DefOk G W K mg fns "put" ⟨11, 3, []⟩ f fd ps := by
  obtain ⟨fd, F⟩ := c.2.def_ 11 (d := d_11) rfl
  have g : mg "put" = some (.ref (He.fAd K ("put", none))) := c.glo X Gn (x := "put") (D := ⟨11, 3, []⟩) (by first | rfl | decide +kernel)
  refine ⟨_, fd, ["one", "other", "word"], g, F.kp, fun n hn => ?_, ?_⟩
  · have b : Binds K fd ["one", "other", "word"] [] := FunD.bindsN F fun _ _ _ _ _ _ us hl => match us, hl with | [_, _, _], _ => rfl
    exact ⟨[], [], b, .nil, fun H => by rw [List.drop_nil]; exact .nil⟩
  · obtain ⟨oc, od, dV, kV, doc, pm, an, cdv, ct, osl, e, lk, hcd, _, _⟩ := F.ex
    exact ⟨_, _, _, _, _, _, _, _, _, _, _, oc, _, od, osl, N_11, ⟨3, 3, b_11⟩, e, lk, hcd, f_11, rfl, rfl, rfl, rfl, body_ok c_11⟩
theorem o_12 {K : Frag} {h : Heap} {mg : Str → Option Value} (X : K.In h) (Gn : h.Ns mainGlobals mg) (c : SaysX G PP fn K) : ∃ f fd ps, DefOk G W K mg fns "together" ⟨12, 3, []⟩ f fd ps := by
  obtain ⟨fd, F⟩ := c.2.def_ 12 (d := d_12) rfl
  have g : mg "together" = some (.ref (He.fAd K ("together", none))) := c.glo X Gn (x := "together") (D := ⟨12, 3, []⟩) (by first | rfl | decide +kernel)
  refine ⟨_, fd, ["first", "second", "word"], g, F.kp, fun n hn => ?_, ?_⟩
  · have b : Binds K fd ["first", "second", "word"] [] := FunD.bindsN F fun _ _ _ _ _ _ us hl => match us, hl with | [_, _, _], _ => rfl
    exact ⟨[], [], b, .nil, fun H => by rw [List.drop_nil]; exact .nil⟩
  · obtain ⟨oc, od, dV, kV, doc, pm, an, cdv, ct, osl, e, lk, hcd, _, _⟩ := F.ex
    exact ⟨_, _, _, _, _, _, _, _, _, _, _, oc, _, od, osl, N_12, ⟨3, 3, b_12⟩, e, lk, hcd, f_12, rfl, rfl, rfl, rfl, body_ok c_12⟩
theorem o_13 {K : Frag} {h : Heap} {mg : Str → Option Value} (X : K.In h) (Gn : h.Ns mainGlobals mg) (c : SaysX G PP fn K) : ∃ f fd ps, DefOk G W K mg fns "filtered_of" ⟨13, 2, []⟩ f fd ps := by
  obtain ⟨fd, F⟩ := c.2.def_ 13 (d := d_13) rfl
  have g : mg "filtered_of" = some (.ref (He.fAd K ("filtered_of", none))) := c.glo X Gn (x := "filtered_of") (D := ⟨13, 2, []⟩) (by first | rfl | decide +kernel)
  refine ⟨_, fd, ["signal", "least"], g, F.kp, fun n hn => ?_, ?_⟩
  · have b : Binds K fd ["signal", "least"] [] := FunD.bindsN F fun _ _ _ _ _ _ us hl => match us, hl with | [_, _], _ => rfl
    exact ⟨[], [], b, .nil, fun H => by rw [List.drop_nil]; exact .nil⟩
  · obtain ⟨oc, od, dV, kV, doc, pm, an, cdv, ct, osl, e, lk, hcd, _, _⟩ := F.ex
    exact ⟨_, _, _, _, _, _, _, _, _, _, _, oc, _, od, osl, N_13, ⟨2, 6, b_13⟩, e, lk, hcd, f_13, rfl, rfl, rfl, rfl, body_ok c_13⟩
theorem o_14 {K : Frag} {h : Heap} {mg : Str → Option Value} (X : K.In h) (Gn : h.Ns mainGlobals mg) (c : SaysX G PP fn K) : ∃ f fd ps, DefOk G W K mg fns "filtered" ⟨14, 2, []⟩ f fd ps := by
  obtain ⟨fd, F⟩ := c.2.def_ 14 (d := d_14) rfl
  have g : mg "filtered" = some (.ref (He.fAd K ("filtered", none))) := c.glo X Gn (x := "filtered") (D := ⟨14, 2, []⟩) (by first | rfl | decide +kernel)
  refine ⟨_, fd, ["signal", "least"], g, F.kp, fun n hn => ?_, ?_⟩
  · have b : Binds K fd ["signal", "least"] [] := FunD.bindsN F fun _ _ _ _ _ _ us hl => match us, hl with | [_, _], _ => rfl
    exact ⟨[], [], b, .nil, fun H => by rw [List.drop_nil]; exact .nil⟩
  · obtain ⟨oc, od, dV, kV, doc, pm, an, cdv, ct, osl, e, lk, hcd, _, _⟩ := F.ex
    exact ⟨_, _, _, _, _, _, _, _, _, _, _, oc, _, od, osl, N_14, ⟨2, 2, b_14⟩, e, lk, hcd, f_14, rfl, rfl, rfl, rfl, body_ok c_14⟩
theorem o_15 {K : Frag} {h : Heap} {mg : Str → Option Value} (X : K.In h) (Gn : h.Ns mainGlobals mg) (c : SaysX G PP fn K) : ∃ f fd ps, DefOk G W K mg fns "widened" ⟨15, 2, []⟩ f fd ps := by
  obtain ⟨fd, F⟩ := c.2.def_ 15 (d := d_15) rfl
  have g : mg "widened" = some (.ref (He.fAd K ("widened", none))) := c.glo X Gn (x := "widened") (D := ⟨15, 2, []⟩) (by first | rfl | decide +kernel)
  refine ⟨_, fd, ["signal", "more"], g, F.kp, fun n hn => ?_, ?_⟩
  · have b : Binds K fd ["signal", "more"] [] := FunD.bindsN F fun _ _ _ _ _ _ us hl => match us, hl with | [_, _], _ => rfl
    exact ⟨[], [], b, .nil, fun H => by rw [List.drop_nil]; exact .nil⟩
  · obtain ⟨oc, od, dV, kV, doc, pm, an, cdv, ct, osl, e, lk, hcd, _, _⟩ := F.ex
    exact ⟨_, _, _, _, _, _, _, _, _, _, _, oc, _, od, osl, N_15, ⟨2, 7, b_15⟩, e, lk, hcd, f_15, rfl, rfl, rfl, rfl, body_ok c_15⟩
theorem o_16 {K : Frag} {h : Heap} {mg : Str → Option Value} (X : K.In h) (Gn : h.Ns mainGlobals mg) (c : SaysX G PP fn K) : ∃ f fd ps, DefOk G W K mg fns "turned_widened" ⟨16, 2, []⟩ f fd ps := by
  obtain ⟨fd, F⟩ := c.2.def_ 16 (d := d_16) rfl
  have g : mg "turned_widened" = some (.ref (He.fAd K ("turned_widened", none))) := c.glo X Gn (x := "turned_widened") (D := ⟨16, 2, []⟩) (by first | rfl | decide +kernel)
  refine ⟨_, fd, ["signal", "more"], g, F.kp, fun n hn => ?_, ?_⟩
  · have b : Binds K fd ["signal", "more"] [] := FunD.bindsN F fun _ _ _ _ _ _ us hl => match us, hl with | [_, _], _ => rfl
    exact ⟨[], [], b, .nil, fun H => by rw [List.drop_nil]; exact .nil⟩
  · obtain ⟨oc, od, dV, kV, doc, pm, an, cdv, ct, osl, e, lk, hcd, _, _⟩ := F.ex
    exact ⟨_, _, _, _, _, _, _, _, _, _, _, oc, _, od, osl, N_16, ⟨2, 3, b_16⟩, e, lk, hcd, f_16, rfl, rfl, rfl, rfl, body_ok c_16⟩
theorem o_17 {K : Frag} {h : Heap} {mg : Str → Option Value} (X : K.In h) (Gn : h.Ns mainGlobals mg) (c : SaysX G PP fn K) : ∃ f fd ps, DefOk G W K mg fns "held_on" ⟨17, 2, []⟩ f fd ps := by
  obtain ⟨fd, F⟩ := c.2.def_ 17 (d := d_17) rfl
  have g : mg "held_on" = some (.ref (He.fAd K ("held_on", none))) := c.glo X Gn (x := "held_on") (D := ⟨17, 2, []⟩) (by first | rfl | decide +kernel)
  refine ⟨_, fd, ["signal", "more"], g, F.kp, fun n hn => ?_, ?_⟩
  · have b : Binds K fd ["signal", "more"] [] := FunD.bindsN F fun _ _ _ _ _ _ us hl => match us, hl with | [_, _], _ => rfl
    exact ⟨[], [], b, .nil, fun H => by rw [List.drop_nil]; exact .nil⟩
  · obtain ⟨oc, od, dV, kV, doc, pm, an, cdv, ct, osl, e, lk, hcd, _, _⟩ := F.ex
    exact ⟨_, _, _, _, _, _, _, _, _, _, _, oc, _, od, osl, N_17, ⟨2, 2, b_17⟩, e, lk, hcd, f_17, rfl, rfl, rfl, rfl, body_ok c_17⟩
theorem o_18 {K : Frag} {h : Heap} {mg : Str → Option Value} (X : K.In h) (Gn : h.Ns mainGlobals mg) (c : SaysX G PP fn K) : ∃ f fd ps, DefOk G W K mg fns "held_off" ⟨18, 2, []⟩ f fd ps := by
  obtain ⟨fd, F⟩ := c.2.def_ 18 (d := d_18) rfl
  have g : mg "held_off" = some (.ref (He.fAd K ("held_off", none))) := c.glo X Gn (x := "held_off") (D := ⟨18, 2, []⟩) (by first | rfl | decide +kernel)
  refine ⟨_, fd, ["signal", "more"], g, F.kp, fun n hn => ?_, ?_⟩
  · have b : Binds K fd ["signal", "more"] [] := FunD.bindsN F fun _ _ _ _ _ _ us hl => match us, hl with | [_, _], _ => rfl
    exact ⟨[], [], b, .nil, fun H => by rw [List.drop_nil]; exact .nil⟩
  · obtain ⟨oc, od, dV, kV, doc, pm, an, cdv, ct, osl, e, lk, hcd, _, _⟩ := F.ex
    exact ⟨_, _, _, _, _, _, _, _, _, _, _, oc, _, od, osl, N_18, ⟨2, 2, b_18⟩, e, lk, hcd, f_18, rfl, rfl, rfl, rfl, body_ok c_18⟩
theorem o_19 {K : Frag} {h : Heap} {mg : Str → Option Value} (X : K.In h) (Gn : h.Ns mainGlobals mg) (c : SaysX G PP fn K) : ∃ f fd ps, DefOk G W K mg fns "pulses" ⟨19, 1, []⟩ f fd ps := by
  obtain ⟨fd, F⟩ := c.2.def_ 19 (d := d_19) rfl
  have g : mg "pulses" = some (.ref (He.fAd K ("pulses", none))) := c.glo X Gn (x := "pulses") (D := ⟨19, 1, []⟩) (by first | rfl | decide +kernel)
  refine ⟨_, fd, ["signal"], g, F.kp, fun n hn => ?_, ?_⟩
  · have b : Binds K fd ["signal"] [] := FunD.bindsN F fun _ _ _ _ _ _ us hl => match us, hl with | [_], _ => rfl
    exact ⟨[], [], b, .nil, fun H => by rw [List.drop_nil]; exact .nil⟩
  · obtain ⟨oc, od, dV, kV, doc, pm, an, cdv, ct, osl, e, lk, hcd, _, _⟩ := F.ex
    exact ⟨_, _, _, _, _, _, _, _, _, _, _, oc, _, od, osl, N_19, ⟨1, 5, b_19⟩, e, lk, hcd, f_19, rfl, rfl, rfl, rfl, body_ok c_19⟩
theorem o_20 {K : Frag} {h : Heap} {mg : Str → Option Value} (X : K.In h) (Gn : h.Ns mainGlobals mg) (c : SaysX G PP fn K) : ∃ f fd ps, DefOk G W K mg fns "measure" ⟨20, 3, []⟩ f fd ps := by
  obtain ⟨fd, F⟩ := c.2.def_ 20 (d := d_20) rfl
  have g : mg "measure" = some (.ref (He.fAd K ("measure", none))) := c.glo X Gn (x := "measure") (D := ⟨20, 3, []⟩) (by first | rfl | decide +kernel)
  refine ⟨_, fd, ["signal", "begin", "end"], g, F.kp, fun n hn => ?_, ?_⟩
  · have b : Binds K fd ["signal", "begin", "end"] [] := FunD.bindsN F fun _ _ _ _ _ _ us hl => match us, hl with | [_, _, _], _ => rfl
    exact ⟨[], [], b, .nil, fun H => by rw [List.drop_nil]; exact .nil⟩
  · obtain ⟨oc, od, dV, kV, doc, pm, an, cdv, ct, osl, e, lk, hcd, _, _⟩ := F.ex
    exact ⟨_, _, _, _, _, _, _, _, _, _, _, oc, _, od, osl, N_20, ⟨3, 7, b_20⟩, e, lk, hcd, f_20, rfl, rfl, rfl, rfl, body_ok c_20⟩
theorem o_21 {K : Frag} {h : Heap} {mg : Str → Option Value} (X : K.In h) (Gn : h.Ns mainGlobals mg) (c : SaysX G PP fn K) : ∃ f fd ps, DefOk G W K mg fns "shortest" ⟨21, 1, []⟩ f fd ps := by
  obtain ⟨fd, F⟩ := c.2.def_ 21 (d := d_21) rfl
  have g : mg "shortest" = some (.ref (He.fAd K ("shortest", none))) := c.glo X Gn (x := "shortest") (D := ⟨21, 1, []⟩) (by first | rfl | decide +kernel)
  refine ⟨_, fd, ["signal"], g, F.kp, fun n hn => ?_, ?_⟩
  · have b : Binds K fd ["signal"] [] := FunD.bindsN F fun _ _ _ _ _ _ us hl => match us, hl with | [_], _ => rfl
    exact ⟨[], [], b, .nil, fun H => by rw [List.drop_nil]; exact .nil⟩
  · obtain ⟨oc, od, dV, kV, doc, pm, an, cdv, ct, osl, e, lk, hcd, _, _⟩ := F.ex
    exact ⟨_, _, _, _, _, _, _, _, _, _, _, oc, _, od, osl, N_21, ⟨1, 4, b_21⟩, e, lk, hcd, f_21, rfl, rfl, rfl, rfl, body_ok c_21⟩
theorem o_22 {K : Frag} {h : Heap} {mg : Str → Option Value} (X : K.In h) (Gn : h.Ns mainGlobals mg) (c : SaysX G PP fn K) : ∃ f fd ps, DefOk G W K mg fns "first_unlike" ⟨22, 2, []⟩ f fd ps := by
  obtain ⟨fd, F⟩ := c.2.def_ 22 (d := d_22) rfl
  have g : mg "first_unlike" = some (.ref (He.fAd K ("first_unlike", none))) := c.glo X Gn (x := "first_unlike") (D := ⟨22, 2, []⟩) (by first | rfl | decide +kernel)
  refine ⟨_, fd, ["first", "second"], g, F.kp, fun n hn => ?_, ?_⟩
  · have b : Binds K fd ["first", "second"] [] := FunD.bindsN F fun _ _ _ _ _ _ us hl => match us, hl with | [_, _], _ => rfl
    exact ⟨[], [], b, .nil, fun H => by rw [List.drop_nil]; exact .nil⟩
  · obtain ⟨oc, od, dV, kV, doc, pm, an, cdv, ct, osl, e, lk, hcd, _, _⟩ := F.ex
    exact ⟨_, _, _, _, _, _, _, _, _, _, _, oc, _, od, osl, N_22, ⟨2, 3, b_22⟩, e, lk, hcd, f_22, rfl, rfl, rfl, rfl, body_ok c_22⟩
theorem o_23 {K : Frag} {h : Heap} {mg : Str → Option Value} (X : K.In h) (Gn : h.Ns mainGlobals mg) (c : SaysX G PP fn K) : ∃ f fd ps, DefOk G W K mg fns "kept_rises" ⟨23, 3, []⟩ f fd ps := by
  obtain ⟨fd, F⟩ := c.2.def_ 23 (d := d_23) rfl
  have g : mg "kept_rises" = some (.ref (He.fAd K ("kept_rises", none))) := c.glo X Gn (x := "kept_rises") (D := ⟨23, 3, []⟩) (by first | rfl | decide +kernel)
  refine ⟨_, fd, ["signal", "both", "least"], g, F.kp, fun n hn => ?_, ?_⟩
  · have b : Binds K fd ["signal", "both", "least"] [] := FunD.bindsN F fun _ _ _ _ _ _ us hl => match us, hl with | [_, _, _], _ => rfl
    exact ⟨[], [], b, .nil, fun H => by rw [List.drop_nil]; exact .nil⟩
  · obtain ⟨oc, od, dV, kV, doc, pm, an, cdv, ct, osl, e, lk, hcd, _, _⟩ := F.ex
    exact ⟨_, _, _, _, _, _, _, _, _, _, _, oc, _, od, osl, N_23, ⟨3, 5, b_23⟩, e, lk, hcd, f_23, rfl, rfl, rfl, rfl, body_ok c_23⟩
theorem o_24 {K : Frag} {h : Heap} {mg : Str → Option Value} (X : K.In h) (Gn : h.Ns mainGlobals mg) (c : SaysX G PP fn K) : ∃ f fd ps, DefOk G W K mg fns "_law_draws" ⟨24, 1, []⟩ f fd ps := by
  obtain ⟨fd, F⟩ := c.2.def_ 24 (d := d_24) rfl
  have g : mg "_law_draws" = some (.ref (He.fAd K ("_law_draws", none))) := c.glo X Gn (x := "_law_draws") (D := ⟨24, 1, []⟩) (by first | rfl | decide +kernel)
  refine ⟨_, fd, ["script"], g, F.kp, fun n hn => ?_, ?_⟩
  · have b : Binds K fd ["script"] [] := FunD.bindsN F fun _ _ _ _ _ _ us hl => match us, hl with | [_], _ => rfl
    exact ⟨[], [], b, .nil, fun H => by rw [List.drop_nil]; exact .nil⟩
  · obtain ⟨oc, od, dV, kV, doc, pm, an, cdv, ct, osl, e, lk, hcd, _, _⟩ := F.ex
    exact ⟨_, _, _, _, _, _, _, _, _, _, _, oc, _, od, osl, N_24, ⟨1, 6, b_24⟩, e, lk, hcd, f_24, rfl, rfl, rfl, rfl, body_ok c_24⟩
theorem o_25 {K : Frag} {h : Heap} {mg : Str → Option Value} (X : K.In h) (Gn : h.Ns mainGlobals mg) (c : SaysX G PP fn K) : ∃ f fd ps, DefOk G W K mg fns "_law_more" ⟨25, 2, []⟩ f fd ps := by
  obtain ⟨fd, F⟩ := c.2.def_ 25 (d := d_25) rfl
  have g : mg "_law_more" = some (.ref (He.fAd K ("_law_more", none))) := c.glo X Gn (x := "_law_more") (D := ⟨25, 2, []⟩) (by first | rfl | decide +kernel)
  refine ⟨_, fd, ["draws", "place"], g, F.kp, fun n hn => ?_, ?_⟩
  · have b : Binds K fd ["draws", "place"] [] := FunD.bindsN F fun _ _ _ _ _ _ us hl => match us, hl with | [_, _], _ => rfl
    exact ⟨[], [], b, .nil, fun H => by rw [List.drop_nil]; exact .nil⟩
  · obtain ⟨oc, od, dV, kV, doc, pm, an, cdv, ct, osl, e, lk, hcd, _, _⟩ := F.ex
    exact ⟨_, _, _, _, _, _, _, _, _, _, _, oc, _, od, osl, N_25, ⟨2, 4, b_25⟩, e, lk, hcd, f_25, rfl, rfl, rfl, rfl, body_ok c_25⟩
theorem o_26 {K : Frag} {h : Heap} {mg : Str → Option Value} (X : K.In h) (Gn : h.Ns mainGlobals mg) (c : SaysX G PP fn K) : ∃ f fd ps, DefOk G W K mg fns "_law_take" ⟨26, 3, []⟩ f fd ps := by
  obtain ⟨fd, F⟩ := c.2.def_ 26 (d := d_26) rfl
  have g : mg "_law_take" = some (.ref (He.fAd K ("_law_take", none))) := c.glo X Gn (x := "_law_take") (D := ⟨26, 3, []⟩) (by first | rfl | decide +kernel)
  refine ⟨_, fd, ["draws", "at", "many"], g, F.kp, fun n hn => ?_, ?_⟩
  · have b : Binds K fd ["draws", "at", "many"] [] := FunD.bindsN F fun _ _ _ _ _ _ us hl => match us, hl with | [_, _, _], _ => rfl
    exact ⟨[], [], b, .nil, fun H => by rw [List.drop_nil]; exact .nil⟩
  · obtain ⟨oc, od, dV, kV, doc, pm, an, cdv, ct, osl, e, lk, hcd, _, _⟩ := F.ex
    exact ⟨_, _, _, _, _, _, _, _, _, _, _, oc, _, od, osl, N_26, ⟨3, 4, b_26⟩, e, lk, hcd, f_26, rfl, rfl, rfl, rfl, body_ok c_26⟩
theorem o_27 {K : Frag} {h : Heap} {mg : Str → Option Value} (X : K.In h) (Gn : h.Ns mainGlobals mg) (c : SaysX G PP fn K) : ∃ f fd ps, DefOk G W K mg fns "_law_one" ⟨27, 3, []⟩ f fd ps := by
  obtain ⟨fd, F⟩ := c.2.def_ 27 (d := d_27) rfl
  have g : mg "_law_one" = some (.ref (He.fAd K ("_law_one", none))) := c.glo X Gn (x := "_law_one") (D := ⟨27, 3, []⟩) (by first | rfl | decide +kernel)
  refine ⟨_, fd, ["rows", "draws", "at"], g, F.kp, fun n hn => ?_, ?_⟩
  · have b : Binds K fd ["rows", "draws", "at"] [] := FunD.bindsN F fun _ _ _ _ _ _ us hl => match us, hl with | [_, _, _], _ => rfl
    exact ⟨[], [], b, .nil, fun H => by rw [List.drop_nil]; exact .nil⟩
  · obtain ⟨oc, od, dV, kV, doc, pm, an, cdv, ct, osl, e, lk, hcd, _, _⟩ := F.ex
    exact ⟨_, _, _, _, _, _, _, _, _, _, _, oc, _, od, osl, N_27, ⟨3, 3, b_27⟩, e, lk, hcd, f_27, rfl, rfl, rfl, rfl, body_ok c_27⟩
theorem o_28 {K : Frag} {h : Heap} {mg : Str → Option Value} (X : K.In h) (Gn : h.Ns mainGlobals mg) (c : SaysX G PP fn K) : ∃ f fd ps, DefOk G W K mg fns "_law_same_as" ⟨28, 2, []⟩ f fd ps := by
  obtain ⟨fd, F⟩ := c.2.def_ 28 (d := d_28) rfl
  have g : mg "_law_same_as" = some (.ref (He.fAd K ("_law_same_as", none))) := c.glo X Gn (x := "_law_same_as") (D := ⟨28, 2, []⟩) (by first | rfl | decide +kernel)
  refine ⟨_, fd, ["actual", "due"], g, F.kp, fun n hn => ?_, ?_⟩
  · have b : Binds K fd ["actual", "due"] [] := FunD.bindsN F fun _ _ _ _ _ _ us hl => match us, hl with | [_, _], _ => rfl
    exact ⟨[], [], b, .nil, fun H => by rw [List.drop_nil]; exact .nil⟩
  · obtain ⟨oc, od, dV, kV, doc, pm, an, cdv, ct, osl, e, lk, hcd, _, _⟩ := F.ex
    exact ⟨_, _, _, _, _, _, _, _, _, _, _, oc, _, od, osl, N_28, ⟨2, 2, b_28⟩, e, lk, hcd, f_28, rfl, rfl, rfl, rfl, body_ok c_28⟩
theorem o_29 {K : Frag} {h : Heap} {mg : Str → Option Value} (X : K.In h) (Gn : h.Ns mainGlobals mg) (c : SaysX G PP fn K) : ∃ f fd ps, DefOk G W K mg fns "_law_signal" ⟨29, 4, []⟩ f fd ps := by
  obtain ⟨fd, F⟩ := c.2.def_ 29 (d := d_29) rfl
  have g : mg "_law_signal" = some (.ref (He.fAd K ("_law_signal", none))) := c.glo X Gn (x := "_law_signal") (D := ⟨29, 4, []⟩) (by first | rfl | decide +kernel)
  refine ⟨_, fd, ["most", "far", "draws", "at"], g, F.kp, fun n hn => ?_, ?_⟩
  · have b : Binds K fd ["most", "far", "draws", "at"] [] := FunD.bindsN F fun _ _ _ _ _ _ us hl => match us, hl with | [_, _, _, _], _ => rfl
    exact ⟨[], [], b, .nil, fun H => by rw [List.drop_nil]; exact .nil⟩
  · obtain ⟨oc, od, dV, kV, doc, pm, an, cdv, ct, osl, e, lk, hcd, _, _⟩ := F.ex
    exact ⟨_, _, _, _, _, _, _, _, _, _, _, oc, _, od, osl, N_29, ⟨4, 8, b_29⟩, e, lk, hcd, f_29, rfl, rfl, rfl, rfl, body_ok c_29⟩
theorem o_30 {K : Frag} {h : Heap} {mg : Str → Option Value} (X : K.In h) (Gn : h.Ns mainGlobals mg) (c : SaysX G PP fn K) : ∃ f fd ps, DefOk G W K mg fns "_law_value" ⟨30, 2, []⟩ f fd ps := by
  obtain ⟨fd, F⟩ := c.2.def_ 30 (d := d_30) rfl
  have g : mg "_law_value" = some (.ref (He.fAd K ("_law_value", none))) := c.glo X Gn (x := "_law_value") (D := ⟨30, 2, []⟩) (by first | rfl | decide +kernel)
  refine ⟨_, fd, ["signal", "time"], g, F.kp, fun n hn => ?_, ?_⟩
  · have b : Binds K fd ["signal", "time"] [] := FunD.bindsN F fun _ _ _ _ _ _ us hl => match us, hl with | [_, _], _ => rfl
    exact ⟨[], [], b, .nil, fun H => by rw [List.drop_nil]; exact .nil⟩
  · obtain ⟨oc, od, dV, kV, doc, pm, an, cdv, ct, osl, e, lk, hcd, _, _⟩ := F.ex
    exact ⟨_, _, _, _, _, _, _, _, _, _, _, oc, _, od, osl, N_30, ⟨2, 3, b_30⟩, e, lk, hcd, f_30, rfl, rfl, rfl, rfl, body_ok c_30⟩
theorem o_31 {K : Frag} {h : Heap} {mg : Str → Option Value} (X : K.In h) (Gn : h.Ns mainGlobals mg) (c : SaysX G PP fn K) : ∃ f fd ps, DefOk G W K mg fns "_law_spans" ⟨31, 1, []⟩ f fd ps := by
  obtain ⟨fd, F⟩ := c.2.def_ 31 (d := d_31) rfl
  have g : mg "_law_spans" = some (.ref (He.fAd K ("_law_spans", none))) := c.glo X Gn (x := "_law_spans") (D := ⟨31, 1, []⟩) (by first | rfl | decide +kernel)
  refine ⟨_, fd, ["signal"], g, F.kp, fun n hn => ?_, ?_⟩
  · have b : Binds K fd ["signal"] [] := FunD.bindsN F fun _ _ _ _ _ _ us hl => match us, hl with | [_], _ => rfl
    exact ⟨[], [], b, .nil, fun H => by rw [List.drop_nil]; exact .nil⟩
  · obtain ⟨oc, od, dV, kV, doc, pm, an, cdv, ct, osl, e, lk, hcd, _, _⟩ := F.ex
    exact ⟨_, _, _, _, _, _, _, _, _, _, _, oc, _, od, osl, N_31, ⟨1, 3, b_31⟩, e, lk, hcd, f_31, rfl, rfl, rfl, rfl, body_ok c_31⟩
theorem o_32 {K : Frag} {h : Heap} {mg : Str → Option Value} (X : K.In h) (Gn : h.Ns mainGlobals mg) (c : SaysX G PP fn K) : ∃ f fd ps, DefOk G W K mg fns "_law_written" ⟨32, 3, []⟩ f fd ps := by
  obtain ⟨fd, F⟩ := c.2.def_ 32 (d := d_32) rfl
  have g : mg "_law_written" = some (.ref (He.fAd K ("_law_written", none))) := c.glo X Gn (x := "_law_written") (D := ⟨32, 3, []⟩) (by first | rfl | decide +kernel)
  refine ⟨_, fd, ["begin", "times", "values"], g, F.kp, fun n hn => ?_, ?_⟩
  · have b : Binds K fd ["begin", "times", "values"] [] := FunD.bindsN F fun _ _ _ _ _ _ us hl => match us, hl with | [_, _, _], _ => rfl
    exact ⟨[], [], b, .nil, fun H => by rw [List.drop_nil]; exact .nil⟩
  · obtain ⟨oc, od, dV, kV, doc, pm, an, cdv, ct, osl, e, lk, hcd, _, _⟩ := F.ex
    exact ⟨_, _, _, _, _, _, _, _, _, _, _, oc, _, od, osl, N_32, ⟨3, 6, b_32⟩, e, lk, hcd, f_32, rfl, rfl, rfl, rfl, body_ok c_32⟩
theorem o_33 {K : Frag} {h : Heap} {mg : Str → Option Value} (X : K.In h) (Gn : h.Ns mainGlobals mg) (c : SaysX G PP fn K) : ∃ f fd ps, DefOk G W K mg fns "_law_is_held" ⟨33, 3, []⟩ f fd ps := by
  obtain ⟨fd, F⟩ := c.2.def_ 33 (d := d_33) rfl
  have g : mg "_law_is_held" = some (.ref (He.fAd K ("_law_is_held", none))) := c.glo X Gn (x := "_law_is_held") (D := ⟨33, 3, []⟩) (by first | rfl | decide +kernel)
  refine ⟨_, fd, ["signal", "time", "more"], g, F.kp, fun n hn => ?_, ?_⟩
  · have b : Binds K fd ["signal", "time", "more"] [] := FunD.bindsN F fun _ _ _ _ _ _ us hl => match us, hl with | [_, _, _], _ => rfl
    exact ⟨[], [], b, .nil, fun H => by rw [List.drop_nil]; exact .nil⟩
  · obtain ⟨oc, od, dV, kV, doc, pm, an, cdv, ct, osl, e, lk, hcd, _, _⟩ := F.ex
    exact ⟨_, _, _, _, _, _, _, _, _, _, _, oc, _, od, osl, N_33, ⟨3, 5, b_33⟩, e, lk, hcd, f_33, rfl, rfl, rfl, rfl, body_ok c_33⟩
theorem o_34 {K : Frag} {h : Heap} {mg : Str → Option Value} (X : K.In h) (Gn : h.Ns mainGlobals mg) (c : SaysX G PP fn K) : ∃ f fd ps, DefOk G W K mg fns "_law_held_on" ⟨34, 2, []⟩ f fd ps := by
  obtain ⟨fd, F⟩ := c.2.def_ 34 (d := d_34) rfl
  have g : mg "_law_held_on" = some (.ref (He.fAd K ("_law_held_on", none))) := c.glo X Gn (x := "_law_held_on") (D := ⟨34, 2, []⟩) (by first | rfl | decide +kernel)
  refine ⟨_, fd, ["signal", "more"], g, F.kp, fun n hn => ?_, ?_⟩
  · have b : Binds K fd ["signal", "more"] [] := FunD.bindsN F fun _ _ _ _ _ _ us hl => match us, hl with | [_, _], _ => rfl
    exact ⟨[], [], b, .nil, fun H => by rw [List.drop_nil]; exact .nil⟩
  · obtain ⟨oc, od, dV, kV, doc, pm, an, cdv, ct, osl, e, lk, hcd, _, _⟩ := F.ex
    exact ⟨_, _, _, _, _, _, _, _, _, _, _, oc, _, od, osl, N_34, ⟨2, 4, b_34⟩, e, lk, hcd, f_34, rfl, rfl, rfl, rfl, body_ok c_34⟩
theorem o_35 {K : Frag} {h : Heap} {mg : Str → Option Value} (X : K.In h) (Gn : h.Ns mainGlobals mg) (c : SaysX G PP fn K) : ∃ f fd ps, DefOk G W K mg fns "_law_held_off" ⟨35, 2, []⟩ f fd ps := by
  obtain ⟨fd, F⟩ := c.2.def_ 35 (d := d_35) rfl
  have g : mg "_law_held_off" = some (.ref (He.fAd K ("_law_held_off", none))) := c.glo X Gn (x := "_law_held_off") (D := ⟨35, 2, []⟩) (by first | rfl | decide +kernel)
  refine ⟨_, fd, ["signal", "more"], g, F.kp, fun n hn => ?_, ?_⟩
  · have b : Binds K fd ["signal", "more"] [] := FunD.bindsN F fun _ _ _ _ _ _ us hl => match us, hl with | [_, _], _ => rfl
    exact ⟨[], [], b, .nil, fun H => by rw [List.drop_nil]; exact .nil⟩
  · obtain ⟨oc, od, dV, kV, doc, pm, an, cdv, ct, osl, e, lk, hcd, _, _⟩ := F.ex
    exact ⟨_, _, _, _, _, _, _, _, _, _, _, oc, _, od, osl, N_35, ⟨2, 3, b_35⟩, e, lk, hcd, f_35, rfl, rfl, rfl, rfl, body_ok c_35⟩
theorem o_36 {K : Frag} {h : Heap} {mg : Str → Option Value} (X : K.In h) (Gn : h.Ns mainGlobals mg) (c : SaysX G PP fn K) : ∃ f fd ps, DefOk G W K mg fns "_law_filtered" ⟨36, 2, []⟩ f fd ps := by
  obtain ⟨fd, F⟩ := c.2.def_ 36 (d := d_36) rfl
  have g : mg "_law_filtered" = some (.ref (He.fAd K ("_law_filtered", none))) := c.glo X Gn (x := "_law_filtered") (D := ⟨36, 2, []⟩) (by first | rfl | decide +kernel)
  refine ⟨_, fd, ["signal", "least"], g, F.kp, fun n hn => ?_, ?_⟩
  · have b : Binds K fd ["signal", "least"] [] := FunD.bindsN F fun _ _ _ _ _ _ us hl => match us, hl with | [_, _], _ => rfl
    exact ⟨[], [], b, .nil, fun H => by rw [List.drop_nil]; exact .nil⟩
  · obtain ⟨oc, od, dV, kV, doc, pm, an, cdv, ct, osl, e, lk, hcd, _, _⟩ := F.ex
    exact ⟨_, _, _, _, _, _, _, _, _, _, _, oc, _, od, osl, N_36, ⟨2, 7, b_36⟩, e, lk, hcd, f_36, rfl, rfl, rfl, rfl, body_ok c_36⟩
theorem o_37 {K : Frag} {h : Heap} {mg : Str → Option Value} (X : K.In h) (Gn : h.Ns mainGlobals mg) (c : SaysX G PP fn K) : ∃ f fd ps, DefOk G W K mg fns "_law_put" ⟨37, 3, []⟩ f fd ps := by
  obtain ⟨fd, F⟩ := c.2.def_ 37 (d := d_37) rfl
  have g : mg "_law_put" = some (.ref (He.fAd K ("_law_put", none))) := c.glo X Gn (x := "_law_put") (D := ⟨37, 3, []⟩) (by first | rfl | decide +kernel)
  refine ⟨_, fd, ["first", "second", "word"], g, F.kp, fun n hn => ?_, ?_⟩
  · have b : Binds K fd ["first", "second", "word"] [] := FunD.bindsN F fun _ _ _ _ _ _ us hl => match us, hl with | [_, _, _], _ => rfl
    exact ⟨[], [], b, .nil, fun H => by rw [List.drop_nil]; exact .nil⟩
  · obtain ⟨oc, od, dV, kV, doc, pm, an, cdv, ct, osl, e, lk, hcd, _, _⟩ := F.ex
    exact ⟨_, _, _, _, _, _, _, _, _, _, _, oc, _, od, osl, N_37, ⟨3, 3, b_37⟩, e, lk, hcd, f_37, rfl, rfl, rfl, rfl, body_ok c_37⟩
theorem o_38 {K : Frag} {h : Heap} {mg : Str → Option Value} (X : K.In h) (Gn : h.Ns mainGlobals mg) (c : SaysX G PP fn K) : ∃ f fd ps, DefOk G W K mg fns "_law_joined" ⟨38, 3, []⟩ f fd ps := by
  obtain ⟨fd, F⟩ := c.2.def_ 38 (d := d_38) rfl
  have g : mg "_law_joined" = some (.ref (He.fAd K ("_law_joined", none))) := c.glo X Gn (x := "_law_joined") (D := ⟨38, 3, []⟩) (by first | rfl | decide +kernel)
  refine ⟨_, fd, ["first", "second", "word"], g, F.kp, fun n hn => ?_, ?_⟩
  · have b : Binds K fd ["first", "second", "word"] [] := FunD.bindsN F fun _ _ _ _ _ _ us hl => match us, hl with | [_, _, _], _ => rfl
    exact ⟨[], [], b, .nil, fun H => by rw [List.drop_nil]; exact .nil⟩
  · obtain ⟨oc, od, dV, kV, doc, pm, an, cdv, ct, osl, e, lk, hcd, _, _⟩ := F.ex
    exact ⟨_, _, _, _, _, _, _, _, _, _, _, oc, _, od, osl, N_38, ⟨3, 6, b_38⟩, e, lk, hcd, f_38, rfl, rfl, rfl, rfl, body_ok c_38⟩
theorem o_39 {K : Frag} {h : Heap} {mg : Str → Option Value} (X : K.In h) (Gn : h.Ns mainGlobals mg) (c : SaysX G PP fn K) : ∃ f fd ps, DefOk G W K mg fns "_law_kept" ⟨39, 3, []⟩ f fd ps := by
  obtain ⟨fd, F⟩ := c.2.def_ 39 (d := d_39) rfl
  have g : mg "_law_kept" = some (.ref (He.fAd K ("_law_kept", none))) := c.glo X Gn (x := "_law_kept") (D := ⟨39, 3, []⟩) (by first | rfl | decide +kernel)
  refine ⟨_, fd, ["signal", "both", "least"], g, F.kp, fun n hn => ?_, ?_⟩
  · have b : Binds K fd ["signal", "both", "least"] [] := FunD.bindsN F fun _ _ _ _ _ _ us hl => match us, hl with | [_, _, _], _ => rfl
    exact ⟨[], [], b, .nil, fun H => by rw [List.drop_nil]; exact .nil⟩
  · obtain ⟨oc, od, dV, kV, doc, pm, an, cdv, ct, osl, e, lk, hcd, _, _⟩ := F.ex
    exact ⟨_, _, _, _, _, _, _, _, _, _, _, oc, _, od, osl, N_39, ⟨3, 5, b_39⟩, e, lk, hcd, f_39, rfl, rfl, rfl, rfl, body_ok c_39⟩
theorem o_40 {K : Frag} {h : Heap} {mg : Str → Option Value} (X : K.In h) (Gn : h.Ns mainGlobals mg) (c : SaysX G PP fn K) : ∃ f fd ps, DefOk G W K mg fns "_law_told" ⟨40, 4, []⟩ f fd ps := by
  obtain ⟨fd, F⟩ := c.2.def_ 40 (d := d_40) rfl
  have g : mg "_law_told" = some (.ref (He.fAd K ("_law_told", none))) := c.glo X Gn (x := "_law_told") (D := ⟨40, 4, []⟩) (by first | rfl | decide +kernel)
  refine ⟨_, fd, ["which", "one", "two", "three"], g, F.kp, fun n hn => ?_, ?_⟩
  · have b : Binds K fd ["which", "one", "two", "three"] [] := FunD.bindsN F fun _ _ _ _ _ _ us hl => match us, hl with | [_, _, _, _], _ => rfl
    exact ⟨[], [], b, .nil, fun H => by rw [List.drop_nil]; exact .nil⟩
  · obtain ⟨oc, od, dV, kV, doc, pm, an, cdv, ct, osl, e, lk, hcd, _, _⟩ := F.ex
    exact ⟨_, _, _, _, _, _, _, _, _, _, _, oc, _, od, osl, N_40, ⟨4, 5, b_40⟩, e, lk, hcd, f_40, rfl, rfl, rfl, rfl, body_ok c_40⟩
theorem o_41 {K : Frag} {h : Heap} {mg : Str → Option Value} (X : K.In h) (Gn : h.Ns mainGlobals mg) (c : SaysX G PP fn K) : ∃ f fd ps, DefOk G W K mg fns "_law_one_fits" ⟨41, 3, []⟩ f fd ps := by
  obtain ⟨fd, F⟩ := c.2.def_ 41 (d := d_41) rfl
  have g : mg "_law_one_fits" = some (.ref (He.fAd K ("_law_one_fits", none))) := c.glo X Gn (x := "_law_one_fits") (D := ⟨41, 3, []⟩) (by first | rfl | decide +kernel)
  refine ⟨_, fd, ["signal", "draws", "at"], g, F.kp, fun n hn => ?_, ?_⟩
  · have b : Binds K fd ["signal", "draws", "at"] [] := FunD.bindsN F fun _ _ _ _ _ _ us hl => match us, hl with | [_, _, _], _ => rfl
    exact ⟨[], [], b, .nil, fun H => by rw [List.drop_nil]; exact .nil⟩
  · obtain ⟨oc, od, dV, kV, doc, pm, an, cdv, ct, osl, e, lk, hcd, _, _⟩ := F.ex
    exact ⟨_, _, _, _, _, _, _, _, _, _, _, oc, _, od, osl, N_41, ⟨3, 21, b_41⟩, e, lk, hcd, f_41, rfl, rfl, rfl, rfl, body_ok c_41⟩
theorem o_42 {K : Frag} {h : Heap} {mg : Str → Option Value} (X : K.In h) (Gn : h.Ns mainGlobals mg) (c : SaysX G PP fn K) : ∃ f fd ps, DefOk G W K mg fns "law" ⟨42, 1, []⟩ f fd ps := by
  obtain ⟨fd, F⟩ := c.2.def_ 42 (d := d_42) rfl
  have g : mg "law" = some (.ref (He.fAd K ("law", none))) := c.glo X Gn (x := "law") (D := ⟨42, 1, []⟩) (by first | rfl | decide +kernel)
  refine ⟨_, fd, ["script"], g, F.kp, fun n hn => ?_, ?_⟩
  · have b : Binds K fd ["script"] [] := FunD.bindsN F fun _ _ _ _ _ _ us hl => match us, hl with | [_], _ => rfl
    exact ⟨[], [], b, .nil, fun H => by rw [List.drop_nil]; exact .nil⟩
  · obtain ⟨oc, od, dV, kV, doc, pm, an, cdv, ct, osl, e, lk, hcd, _, _⟩ := F.ex
    exact ⟨_, _, _, _, _, _, _, _, _, _, _, oc, _, od, osl, N_42, ⟨1, 17, b_42⟩, e, lk, hcd, f_42, rfl, rfl, rfl, rfl, body_ok c_42⟩
theorem defs {K : Frag} {h : Heap} {mg : Str → Option Value} (X : K.In h) (Gn : h.Ns mainGlobals mg) (c : SaysX G PP fn K) : ∀ x D, G.defs.lookup x = some D → ∃ f fd ps, DefOk G W K mg fns x D f fd ps := by
  intro x D hx
  have : ∀ p ∈ G.defs, ∃ f fd ps, DefOk G W K mg fns p.1 p.2 f fd ps := by
    intro p hp
    simp only [G, List.mem_append, List.mem_cons, List.not_mem_nil, or_false, or_assoc] at hp
    rcases hp with rfl | rfl | rfl | rfl | rfl | rfl | rfl | rfl | rfl | rfl | rfl | rfl | rfl | rfl | rfl | rfl | rfl | rfl | rfl | rfl | rfl | rfl | rfl | rfl | rfl | rfl | rfl | rfl | rfl | rfl | rfl | rfl | rfl | rfl | rfl | rfl | rfl | rfl | rfl | rfl | rfl | rfl | rfl
    · exact o_0 X Gn c
    · exact o_1 X Gn c
    · exact o_2 X Gn c
    · exact o_3 X Gn c
    · exact o_4 X Gn c
    · exact o_5 X Gn c
    · exact o_6 X Gn c
    · exact o_7 X Gn c
    · exact o_8 X Gn c
    · exact o_9 X Gn c
    · exact o_10 X Gn c
    · exact o_11 X Gn c
    · exact o_12 X Gn c
    · exact o_13 X Gn c
    · exact o_14 X Gn c
    · exact o_15 X Gn c
    · exact o_16 X Gn c
    · exact o_17 X Gn c
    · exact o_18 X Gn c
    · exact o_19 X Gn c
    · exact o_20 X Gn c
    · exact o_21 X Gn c
    · exact o_22 X Gn c
    · exact o_23 X Gn c
    · exact o_24 X Gn c
    · exact o_25 X Gn c
    · exact o_26 X Gn c
    · exact o_27 X Gn c
    · exact o_28 X Gn c
    · exact o_29 X Gn c
    · exact o_30 X Gn c
    · exact o_31 X Gn c
    · exact o_32 X Gn c
    · exact o_33 X Gn c
    · exact o_34 X Gn c
    · exact o_35 X Gn c
    · exact o_36 X Gn c
    · exact o_37 X Gn c
    · exact o_38 X Gn c
    · exact o_39 X Gn c
    · exact o_40 X Gn c
    · exact o_41 X Gn c
    · exact o_42 X Gn c
  exact this (x, D) (PySem.mem_of_lookup hx)
end Tx
/-! part InR -/
set_option linter.all false
set_option maxRecDepth 100000
set_option maxHeartbeats 1000000
/-! Reasoning about runs of the small language: plain Lean. -/
namespace In
open PySem
variable {F : Fns} {W : Nat} {ρ : Env} {S : Sto}
def getV : Option (Option Vl) → Sto → R Vl
  | some (some v), S => .ok v S
  | _, _ => .no
@[simp] theorem getV_some (v : Vl) : getV (some (some v)) S = .ok v S := rfl
@[simp] theorem fin_rt (n : Nat) (x : PyData) : fin n (.ok (.rt x) S) = .ok x (S.take n) := rfl
@[simp] theorem fin_nx (n : Nat) : fin n (.ok (.nx ρ) S) = .ok .none (S.take n) := rfl
@[simp] theorem fin_ex (n : Nat) (c : Str) (x : PyData) : fin n (.ex c x S) = .ex c x (S.take n) := rfl
@[simp] theorem test_bool (b : Bool) : test S (.d (.bool b)) = .ok b S := rfl
@[simp] theorem test_int (i : Int) : test S (.d (.int i)) = .ok (i != 0) S := rfl
@[simp] theorem test_none : test S (.d .none) = .ok false S := rfl
@[simp] theorem test_list (xs : List PyData) : test S (.d (.list xs)) = .ok (!xs.isEmpty) S := rfl
@[simp] theorem test_tuple (xs : List PyData) : test S (.d (.tuple xs)) = .ok (!xs.isEmpty) S := rfl
@[simp] theorem evs_nil : evs F .nil ρ S = .ok [] S := by simp only [evs]
@[simp] theorem evs_cons (e : E) (es : Es) : evs F (.cons e es) ρ S = (ev F e ρ S).bind fun v S1 => (evs F es ρ S1).bind fun vs S2 => .ok (v :: vs) S2 := by simp only [evs]
@[simp] theorem evps_nil : evps F .nil ρ S = .ok [] S := by simp only [evps]
@[simp] theorem evps_cons (e : E) (es : Es) : evps F (.cons e es) ρ S = (ev F e ρ S).bind fun v S1 => (shut S1 v).bind fun x S1 => (evps F es ρ S1).bind fun xs S2 => .ok (x :: xs) S2 := by
  simp only [evps]
  cases ev F e ρ S <;> rfl
@[simp] theorem ev_cst (x : PyData) : ev F (.cst x) ρ S = .ok (.d x) S := by simp only [ev]
@[simp] theorem ev_vr (i : Nat) : ev F (.var i) ρ S = getV ρ[i]? S := by
  simp only [ev]
  rcases ρ[i]? with _ | _ | v <;> rfl
theorem ev_var (i : Nat) (v : Vl) (h : ρ[i]? = some (some v)) : ev F (.var i) ρ S = .ok v S := by simp only [ev, h]
@[simp] theorem ev_tup (es : Es) : ev F (.tup es) ρ S = (evps F es ρ S).bind fun xs S1 => .ok (.d (.tuple xs)) S1 := by simp only [ev]
@[simp] theorem ev_lst (es : Es) : ev F (.lst es) ρ S = (evps F es ρ S).bind fun xs S1 => .ok (.d (.list xs)) S1 := by simp only [ev]
@[simp] theorem ev_bin (o : B2) (a b : E) : ev F (.bin o a b) ρ S = (ev F a ρ S).bind fun v S1 => (ev F b ρ S1).bind fun w S2 => R.opt ((view S2 v).bind fun x => (view S2 w).bind fun y => (binop o x y).map .d) S2 := by simp only [ev]
@[simp] theorem ev_cmp (o : C2) (a b : E) : ev F (.cmp o a b) ρ S = (ev F a ρ S).bind fun v S1 => (ev F b ρ S1).bind fun w S2 => R.opt ((view S2 v).bind fun x => (view S2 w).bind fun y => (cmpop o x y).map fun c => .d (.bool c)) S2 := by simp only [ev]
@[simp] theorem ev_u1 (o : U1) (a : E) : ev F (.u1 o a) ρ S = (ev F a ρ S).bind fun v S1 => R.opt ((view S1 v).bind fun x => (u1 o x).map .d) S1 := by simp only [ev]
@[simp] theorem ev_u2 (o : U2) (a b : E) : ev F (.u2 o a b) ρ S = (ev F a ρ S).bind fun v S1 => (ev F b ρ S1).bind fun w S2 => R.opt ((view S2 v).bind fun x => (view S2 w).bind fun y => (u2 o x y).map .d) S2 := by simp only [ev]
@[simp] theorem ev_not (a : E) : ev F (.not a) ρ S = (ev F a ρ S).bind fun v S1 => (test S1 v).bind fun b S2 => .ok (.d (.bool (!b))) S2 := by simp only [ev]
@[simp] theorem ev_and (a b : E) : ev F (.and a b) ρ S = (ev F a ρ S).bind fun v S1 => (test S1 v).bind fun c S2 => if c then ev F b ρ S2 else .ok v S2 := by simp only [ev]
@[simp] theorem ev_or (a b : E) : ev F (.or a b) ρ S = (ev F a ρ S).bind fun v S1 => (test S1 v).bind fun c S2 => if c then .ok v S2 else ev F b ρ S2 := by simp only [ev]
@[simp] theorem ev_ite (c a b : E) : ev F (.ite c a b) ρ S = (ev F c ρ S).bind fun v S1 => (test S1 v).bind fun t S2 => if t then ev F a ρ S2 else ev F b ρ S2 := by simp only [ev]
@[simp] theorem ev_ix (a i : E) : ev F (.ix a i) ρ S = (ev F a ρ S).bind fun v S1 => (ev F i ρ S1).bind fun w S2 => R.opt ((view S2 v).bind fun x => (view S2 w).bind fun y => (index x y).map .d) S2 := by simp only [ev]
@[simp] theorem ev_isi (a : E) (t : String) : ev F (.isi a t) ρ S = (ev F a ρ S).bind fun v S1 => R.opt ((view S1 v).bind fun x => (In.isType x t).map fun b => .d (.bool b)) S1 := by simp only [ev]
@[simp] theorem ev_call (f : Nat) (es : Es) (dfl : List PyData) : ev F (.call f es dfl) ρ S = (evs F es ρ S).bind fun vs S1 => (F f (vs ++ dfl.map .d) S1).bind fun x S2 => .ok (.d x) S2 := by simp only [ev]
/-- a op b op' c, behind the first comparison -/
def chT (F : Fns) (o' : C2) (w : Vl) (c : E) (ρ : Env) (S : Sto) : Option Bool → R Vl
  | none => .no
  | some false => .ok (.d (.bool false)) S
  | some true => (ev F c ρ S).bind fun u S3 => R.opt ((view S3 w).bind fun y => (view S3 u).bind fun z => (cmpop o' y z).map fun k => .d (.bool k)) S3
@[simp] theorem chT_f (o' : C2) (w : Vl) (c : E) : chT F o' w c ρ S (some false) = .ok (.d (.bool false)) S := rfl
@[simp] theorem chT_t (o' : C2) (w : Vl) (c : E) : chT F o' w c ρ S (some true) = (ev F c ρ S).bind fun u S3 => R.opt ((view S3 w).bind fun y => (view S3 u).bind fun z => (cmpop o' y z).map fun k => .d (.bool k)) S3 := rfl
@[simp] theorem ev_ch (o o' : C2) (a b c : E) : ev F (.ch o o' a b c) ρ S = (ev F a ρ S).bind fun v S1 => (ev F b ρ S1).bind fun w S2 => chT F o' w c ρ S2 ((view S2 v).bind fun x => (view S2 w).bind fun y => cmpop o x y) := by
  simp only [ev]
  refine congrArg (R.bind _) (funext fun v => funext fun S1 => congrArg (R.bind _) (funext fun w => funext fun S2 => ?_))
  cases ((view S2 v).bind fun x => (view S2 w).bind fun y => cmpop o x y) with
  | none => rfl
  | some b => cases b <;> rfl
@[simp] theorem xs_nil : xs F W .nil ρ S = .ok (.nx ρ) S := by simp only [xs]
/-- what follows a statement -/
def nxt (F : Fns) (W : Nat) (cs : Cs) : Fl → Sto → R Fl
  | .nx ρ, S => xs F W cs ρ S
  | .rt x, S => .ok (.rt x) S
  | .bk ρ, S => .ok (.bk ρ) S
  | .ct ρ, S => .ok (.ct ρ) S
@[simp] theorem nxt_nx (cs : Cs) : nxt F W cs (.nx ρ) S = xs F W cs ρ S := rfl
@[simp] theorem nxt_rt (cs : Cs) (x : PyData) : nxt F W cs (.rt x) S = .ok (.rt x) S := rfl
@[simp] theorem nxt_bk (cs : Cs) : nxt F W cs (.bk ρ) S = .ok (.bk ρ) S := rfl
@[simp] theorem nxt_ct (cs : Cs) : nxt F W cs (.ct ρ) S = .ok (.ct ρ) S := rfl
@[simp] theorem xs_cons (c : C) (cs : Cs) : xs F W (.cons c cs) ρ S = (x1 F W c ρ S).bind (nxt F W cs) := by
  simp only [xs]
  congr 1
  funext fl S1
  cases fl <;> rfl
@[simp] theorem x1_ret (e : E) : x1 F W (.ret e) ρ S = (ev F e ρ S).bind fun v S1 => (shut S1 v).bind fun x S1 => .ok (.rt x) S1 := by
  simp only [x1]
  cases ev F e ρ S <;> rfl
@[simp] theorem x1_asg (t : T) (e : E) : x1 F W (.asg t e) ρ S = (ev F e ρ S).bind fun v S1 => (shut S1 v).bind fun x S1 => R.opt ((put t x ρ).map .nx) S1 := by
  simp only [x1]
  cases ev F e ρ S <;> rfl
@[simp] theorem x1_raise (c : Str) (e : E) : x1 F W (.raise c e) ρ S = (ev F e ρ S).bind fun v S1 => (shut S1 v).bind fun x S1 => .ex c x S1 := by
  simp only [x1]
  cases ev F e ρ S <;> rfl
@[simp] theorem x1_drop (e : E) : x1 F W (.drop e) ρ S = (ev F e ρ S).bind fun _ S1 => .ok (.nx ρ) S1 := by simp only [x1]
@[simp] theorem x1_new (i : Nat) (e : E) : x1 F W (.new i e) ρ S = (ev F e ρ S).bind fun v S1 => (live S1 v).bind fun v S2 => .ok (.nx (ρ.set i (some v))) S2 := by simp only [x1]
@[simp] theorem x1_ite (c : E) (a b : Cs) : x1 F W (.ite c a b) ρ S = (ev F c ρ S).bind fun v S1 => (test S1 v).bind fun t S2 => if t then xs F W a ρ S2 else xs F W b ρ S2 := by simp only [x1]
@[simp] theorem x1_loop (t : T) (it : It) (b : Cs) : x1 F W (.loop t it b) ρ S = (evI F it ρ S).bind fun p S1 => forL (chk p.2 S1) (fun x ρ => put t x ρ) (fun ρ S => xs F W b ρ S) p.1 ρ S1 := by simp only [x1]
def appAt (ρ : Env) (x : PyData) (S : Sto) : Option (Nat × List PyData) → R Fl
  | some (n, xs) => if xs.length < 16777216 then .ok (.nx ρ) (S.set n ⟨true, .lst (xs ++ [x])⟩) else .no
  | none => .no
@[simp] theorem appAt_some (x : PyData) (n : Nat) (xs : List PyData) : appAt ρ x S (some (n, xs)) = if xs.length < 16777216 then .ok (.nx ρ) (S.set n ⟨true, .lst (xs ++ [x])⟩) else .no := rfl
@[simp] theorem x1_app (o e : E) : x1 F W (.app o e) ρ S = (ev F o ρ S).bind fun ov S1 => (R.opt (lstAt S1 ov) S1).bind fun _ S1 => (ev F e ρ S1).bind fun v S2 => (shut S2 v).bind fun x S2 => appAt ρ x S2 (lstAt S2 ov) := by
  simp only [x1]
  refine congrArg (R.bind _) (funext fun ov => funext fun S1 => congrArg (R.bind _) (funext fun _ => funext fun S1 => ?_))
  cases ev F e ρ S1 with
  | no => rfl
  | ex _ _ _ => rfl
  | ok v S2 =>
    simp only [R.bind_ok]
    refine congrArg (R.bind _) (funext fun x => funext fun S3 => ?_)
    cases lstAt S3 ov <;> rfl
@[simp] theorem x1_par (i j : Nat) (n1 n2 : Bool) (a b : E) : x1 F W (.par i j n1 n2 a b) ρ S = (ev F a ρ S).bind fun v S1 => (liveIf n1 S1 v).bind fun v S2 => (ev F b ρ S2).bind fun w S3 => (liveIf n2 S3 w).bind fun w S4 => .ok (.nx ((ρ.set i (some v)).set j (some w))) S4 := by simp only [x1]
@[simp] theorem x1_six (o i e : E) : x1 F W (.six o i e) ρ S = ((ev F e ρ S).bind fun v S1 => shut S1 v).bind fun x S1 => (ev F o ρ S1).bind fun ov S2 => ((ev F i ρ S2).bind fun v S3 => shut S3 v).bind fun k S3 => (setAt S3 ov k x).bind fun _ S4 => .ok (.nx ρ) S4 := by simp only [x1]
@[simp] theorem x1_retN : x1 F W .retN ρ S = .ok (.rt .none) S := by simp only [x1]
@[simp] theorem x1_pass : x1 F W .pass ρ S = .ok (.nx ρ) S := by simp only [x1]
def catchR (hs : List (Str × Str)) : R Fl → R Fl
  | .ex c x S => caught hs c x S
  | r => r
@[simp] theorem catchR_ex (hs : List (Str × Str)) (c : Str) (x : PyData) : catchR hs (.ex c x S) = caught hs c x S := rfl
@[simp] theorem catchR_ok (hs : List (Str × Str)) (fl : Fl) : catchR hs (.ok fl S) = .ok fl S := rfl
@[simp] theorem x1_try (b : Cs) (hs : List (Str × Str)) : x1 F W (.tryS b hs) ρ S = catchR hs (xs F W b ρ S) := by
  simp only [x1]
  cases xs F W b ρ S <;> rfl
@[simp] theorem liveIf_f (v : Vl) : liveIf false S v = .ok v S := rfl
@[simp] theorem live_list (xs : List PyData) : live S (.d (.list xs)) = .ok (.loc S.length) (S ++ [⟨true, .lst xs⟩]) := rfl
@[simp] theorem liveIf_t (v : Vl) : liveIf true S v = live S v := rfl
@[simp] theorem evo_nil : evo F .nil ρ S = .ok none S := by simp only [evo]
@[simp] theorem evt_nil : evt F .nil ρ S = .ok true S := by simp only [evt]
@[simp] theorem evt_cons (e : E) (es : Es) : evt F (.cons e es) ρ S = (ev F e ρ S).bind fun v S1 => test S1 v := by simp only [evt]
/-- how long a list may be -/
abbrev cap : Nat := 16777216
theorem lcL_map {α : Type} {ck : Sto → Bool} {asg : PyData → Option Env} {cond : Env → Sto → R Bool} {elt : Env → Sto → R PyData} (g : α → PyData) (p : α → Bool) (f : α → PyData) (hck : ck S = true) : ∀ (l : List α) (acc : List PyData), acc.length + l.length ≤ cap →
    (∀ a ∈ l, ∃ ρ, asg (g a) = some ρ ∧ cond ρ S = .ok (p a) S ∧ (p a = true → elt ρ S = .ok (f a) S)) → lcL ck asg cond elt (l.map g) acc S = .ok (acc ++ (l.filter p).map f) S
  | [], acc, _, _ => by simp [lcL]
  | a :: l, acc, hl, h => by
    obtain ⟨ρ, h1, h2, h3⟩ := h a List.mem_cons_self
    have ht : ∀ b ∈ l, ∃ ρ, asg (g b) = some ρ ∧ cond ρ S = .ok (p b) S ∧ (p b = true → elt ρ S = .ok (f b) S) := fun b hb => h b (List.mem_cons_of_mem _ hb)
    simp only [List.length_cons, cap] at hl
    simp only [List.map_cons, lcL, h1, h2, R.bind_ok]
    cases hp : p a with
    | true =>
      have hlt : acc.length < 16777216 := by omega
      simp only [if_true, h3 hp, R.bind_ok, hck, hlt, decide_true, Bool.and_self]
      rw [lcL_map g p f hck l (acc ++ [f a]) (by simp [cap]; omega) ht]
      simp [List.filter_cons, hp]
    | false =>
      simp only [Bool.false_eq_true, if_false, hck, if_true]
      rw [lcL_map g p f hck l acc (by simp only [cap]; omega) ht]
      simp [List.filter_cons, hp]
/-- a for that passes a state on -/
theorem forL_fold {α σ : Type} {ck : Sto → Bool} {asg : PyData → Env → Option Env} {b : Env → Sto → R Fl} (g : α → PyData) (env : σ → Env) (sto : σ → Sto) (step : σ → α → σ) (P : σ → Prop) : ∀ (l : List α) (s : σ), P s →
    (∀ s a, P s → a ∈ l → ∃ ρ, asg (g a) (env s) = some ρ ∧ b ρ (sto s) = .ok (.nx (env (step s a))) (sto (step s a)) ∧ ck (sto (step s a)) = true ∧ P (step s a)) →
    forL ck asg b (l.map g) (env s) (sto s) = .ok (.nx (env (l.foldl step s))) (sto (l.foldl step s)) ∧ P (l.foldl step s)
  | [], s, hs, _ => ⟨by simp [forL], hs⟩
  | a :: l, s, hs, h => by
    obtain ⟨ρ, h1, h2, h3, h4⟩ := h s a hs List.mem_cons_self
    have ih := forL_fold g env sto step P l (step s a) h4 fun s b hs hb => h s b hs (List.mem_cons_of_mem _ hb)
    simp only [List.map_cons, forL, h1, h2, R.bind_ok, h3, if_true, List.foldl_cons]
    exact ih
/-- it runs to an end, and there Q holds -/
def Ok {α : Type} (r : R α) (Q : α → Sto → Prop) : Prop := match r with
  | .ok a S => Q a S
  | _ => False
@[simp] theorem Ok_ok {α : Type} (a : α) (S : Sto) (Q : α → Sto → Prop) : Ok (.ok a S) Q = Q a S := rfl
@[simp] theorem Ok_bind {α β : Type} (r : R α) (k : α → Sto → R β) (Q : β → Sto → Prop) : Ok (r.bind k) Q = Ok r fun a S => Ok (k a S) Q := by cases r <;> rfl
theorem Ok.mono {α : Type} {r : R α} {Q Q' : α → Sto → Prop} (h : Ok r Q) (q : ∀ a S, Q a S → Q' a S) : Ok r Q' := by
  cases r with
  | ok a S => exact q a S h
  | no => exact h
  | ex _ _ _ => exact h
end In
/-! part InS -/
set_option linter.all false
set_option maxRecDepth 100000
set_option maxHeartbeats 1000000
/-! More of plain Lean: operators at ints; data that may be shown and compared. -/
namespace In
open PySem
@[simp] theorem cmp_le (i j : Int) : cmpop .le (.int i) (.int j) = some (decide (i ≤ j)) := rfl
@[simp] theorem cmp_lt (i j : Int) : cmpop .lt (.int i) (.int j) = some (decide (i < j)) := rfl
@[simp] theorem cmp_ge (i j : Int) : cmpop .ge (.int i) (.int j) = some (decide (j ≤ i)) := rfl
@[simp] theorem cmp_gt (i j : Int) : cmpop .gt (.int i) (.int j) = some (decide (j < i)) := rfl
theorem eqOk_int (i : Int) : eqOk (.int i) = true := rfl
@[simp] theorem cmp_eq (i j : Int) : cmpop .eq (.int i) (.int j) = some (decide (i = j)) := by
  show (if (eqOk (.int i) && eqOk (.int j)) = true then some (PyData.eqv (.int i) (.int j)) else none) = _
  rw [eqOk_int, eqOk_int]
  simp only [Bool.and_self, if_true, PyData.eqv]
  by_cases h : i = j <;> simp [h]
@[simp] theorem cmp_ne (i j : Int) : cmpop .ne (.int i) (.int j) = some (!decide (i = j)) := by
  show (if (eqOk (.int i) && eqOk (.int j)) = true then some (!PyData.eqv (.int i) (.int j)) else none) = _
  rw [eqOk_int, eqOk_int]
  simp only [Bool.and_self, if_true, PyData.eqv]
  by_cases h : i = j <;> simp [h]
@[simp] theorem cmp_is (x : PyData) : cmpop .is_ x .none = some (isNone x) := by cases x <;> rfl
@[simp] theorem cmp_isnot (x : PyData) : cmpop .isnot x .none = some (!isNone x) := by cases x <;> rfl
@[simp] theorem isNone_none : isNone .none = true := rfl
@[simp] theorem isNone_int (i : Int) : isNone (.int i) = false := rfl
@[simp] theorem bin_add (i j : Int) : binop .add (.int i) (.int j) = some (.int (i + j)) := rfl
@[simp] theorem bin_sub (i j : Int) : binop .sub (.int i) (.int j) = some (.int (i - j)) := rfl
@[simp] theorem u1_neg (i : Int) : u1 .neg (.int i) = some (.int (-i)) := rfl
@[simp] theorem u1_int (i : Int) : u1 .int (.int i) = some (.int i) := rfl
@[simp] theorem u1_intb (b : Bool) : u1 .int (.bool b) = some (.int (if b then 1 else 0)) := rfl
@[simp] theorem u1_abs (i : Int) : u1 .abs (.int i) = some (.int (if i < 0 then -i else i)) := rfl
@[simp] theorem u1_lent (xs : List PyData) : u1 .len (.tuple xs) = some (.int xs.length) := rfl
@[simp] theorem u1_lenl (xs : List PyData) : u1 .len (.list xs) = some (.int xs.length) := rfl
@[simp] theorem u1_tupl (xs : List PyData) : u1 .tuple (.list xs) = some (.tuple xs) := rfl
@[simp] theorem u1_listt (xs : List PyData) : u1 .list (.tuple xs) = some (.list xs) := rfl
@[simp] theorem u2_max (i j : Int) : u2 .max (.int i) (.int j) = some (.int (if j > i then j else i)) := rfl
@[simp] theorem u2_min (i j : Int) : u2 .min (.int i) (.int j) = some (.int (if j < i then j else i)) := rfl
@[simp] theorem view_loc (S : Sto) (n : Nat) : view S (.loc n) = (S[n]?).map fun c => c.obj.data := rfl
theorem mod_two (i : Int) : binop .mod (.int i) (.int 2) = some (.int (i % 2)) := by
  show (if decide ((2 : Int) ≠ 0) = true then some (PyData.int (i.fmod 2)) else none) = _
  rw [if_pos (by decide)]
  rw [Int.fmod_eq_emod_of_nonneg i (by decide)]
theorem mod_pos (i j : Int) (h : 0 < j) : binop .mod (.int i) (.int j) = some (.int (i % j)) := by
  show (if decide (j ≠ 0) = true then some (PyData.int (i.fmod j)) else none) = _
  rw [if_pos (by simp; omega), Int.fmod_eq_emod_of_nonneg i (Int.le_of_lt h)]
theorem bin_mul (i j : Int) (h : small i = true ∨ small j = true) : binop .mul (.int i) (.int j) = some (.int (i * j)) := by
  show (if (small i || small j) = true then some (PyData.int (i * j)) else none) = _
  rw [if_pos (by rcases h with h | h <;> simp [h])]
theorem bin_cat (xs ys : List PyData) (h : xs.length + ys.length ≤ cap) : binop .add (.list xs) (.list ys) = some (.list (xs ++ ys)) := by
  show (if fits (xs.length + ys.length) = true then some (PyData.list (xs ++ ys)) else none) = _
  rw [if_pos (show fits (xs.length + ys.length) = true from decide_eq_true h)]
theorem bin_catT (xs ys : List PyData) (h : xs.length + ys.length ≤ cap) : binop .add (.tuple xs) (.tuple ys) = some (.tuple (xs ++ ys)) := by
  show (if fits (xs.length + ys.length) = true then some (PyData.tuple (xs ++ ys)) else none) = _
  rw [if_pos (show fits (xs.length + ys.length) = true from decide_eq_true h)]
theorem ints_map (l : List Int) : ints? (l.map .int) = some l := by
  induction l with
  | nil => rfl
  | cons a l ih => simp [ints?, ih]
theorem bools_map (l : List Bool) : bools? (l.map .bool) = some l := by
  induction l with
  | nil => rfl
  | cons a l ih => simp [bools?, ih]
theorem u1_sum (l : List Int) : u1 .sum (.list (l.map .int)) = some (.int l.sum) := by
  show (ints? (l.map .int)).map _ = _
  rw [ints_map]; rfl
theorem u1_all (l : List Bool) : u1 .all (.list (l.map .bool)) = some (.bool (l.all id)) := by
  show (bools? (l.map .bool)).map _ = _
  rw [bools_map]; rfl
theorem u1_minl (a : Int) (l : List Int) : u1 .min (.list ((a :: l).map .int)) = some (.int (minI (a :: l))) := by
  show (ints? ((a :: l).map .int)).bind _ = _
  rw [ints_map]; rfl
theorem u1_sorted (l : List Int) : u1 .sorted (.list (l.map .int)) = some (.list ((sortI l).map .int)) := by
  show (ints? (l.map .int)).map _ = _
  rw [ints_map]; rfl
/-- xs[i], i from the left -/
theorem index_nat {xs : List PyData} {i : Nat} {x : PyData} (h : xs[i]? = some x) : index (.list xs) (.int i) = some x ∧ index (.tuple xs) (.int i) = some x := by
  have hl : i < xs.length := (List.getElem?_eq_some_iff.mp h).1
  have e : L2.atI xs (i : Int) = some x := by
    unfold L2.atI L2.ixN
    rw [if_pos (by omega), if_pos (by omega)]
    simpa using h
  exact ⟨e, e⟩
/-! ### data of a known size -/
theorem strOk_of (s : String) : PyData.strOk (Str.ofString s) = true := by
  rw [Str.ofString_eq_toList]
  unfold PyData.strOk
  simp only [List.all_toArray, List.all_map, List.all_eq_true]
  intro c _
  have := c.valid
  simp only [UInt32.isValidChar, Nat.isValidChar] at this
  simp only [Function.comp, decide_eq_true_eq, Char.toNat]
  omega
theorem strOk_app {x y : Str} (h1 : PyData.strOk x = true) (h2 : PyData.strOk y = true) : PyData.strOk (x ++ y) = true := by
  unfold PyData.strOk at *
  show (x.cps ++ y.cps).all _ = true
  rw [Array.all_append, h1, h2]
  rfl
structure Gd (d : PyData) (e m : Nat) : Prop where
  lay : d.canLay0 = true
  shw : d.showable = true
  nod : d.hasDict = false
  dep : d.depth ≤ e
  len : d.shown.length ≤ m
  txt : PyData.strOk d.shown = true
theorem Gd.up {d : PyData} {e e' m m' : Nat} (h : Gd d e m) (h1 : e ≤ e') (h2 : m ≤ m') : Gd d e' m' := ⟨h.lay, h.shw, h.nod, Nat.le_trans h.dep h1, Nat.le_trans h.len h2, h.txt⟩
theorem gd_none : Gd .none 0 40 := ⟨rfl, rfl, rfl, Nat.le_refl _, by decide, by decide +kernel⟩
theorem gd_bool (b : Bool) : Gd (.bool b) 0 40 := ⟨rfl, rfl, rfl, Nat.le_refl _, by cases b <;> decide, by cases b <;> decide +kernel⟩
theorem gd_int (i : Int) (h : i.natAbs < 10 ^ 30) : Gd (.int i) 0 40 := by
  have hl : i.natAbs.log2 < 1920 := by
    by_cases h0 : i.natAbs = 0
    · rw [h0]; decide
    · have h1 : i.natAbs < 2 ^ 1920 := Nat.lt_of_lt_of_le h (by decide +kernel)
      exact (Nat.log2_lt h0).mpr h1
  refine ⟨rfl, ?_, rfl, Nat.le_refl _, ?_, strOk_of _⟩
  · show decide (i.natAbs.log2 < 1920) = true
    exact decide_eq_true hl
  · have q := int_text_length_le10 (k := 30) (by decide) h
    show (Str.ofString (toString i)).length ≤ 40
    rw [ofString_length]
    omega
theorem gd_str (x : Str) (h1 : (PyData.str x).canLay0 = true) (h2 : (reprText x).length ≤ 40) (h3 : PyData.strOk (reprText x) = true) : Gd (.str x) 0 40 := ⟨h1, rfl, rfl, Nat.le_refl _, h2, h3⟩
theorem gd_all : ∀ {xs : List PyData} {e m : Nat}, (∀ x ∈ xs, Gd x e m) → PyData.canLayAll0 xs = true ∧ PyData.showableAll xs = true ∧ PyData.hasDictAll xs = false ∧ PyData.depthAll xs ≤ e ∧ (Str.join ", " (PyData.shownAll xs)).length ≤ xs.length * (m + 2) ∧ PyData.strOk (Str.join ", " (PyData.shownAll xs)) = true
  | [], _, _, _ => ⟨rfl, rfl, rfl, Nat.zero_le _, Nat.zero_le _, by decide +kernel⟩
  | x :: xs, e, m, h => by
    have hx := h x List.mem_cons_self
    obtain ⟨h1, h2, h3, h4, h5, h6⟩ := gd_all (xs := xs) (e := e) (m := m) fun y hy => h y (List.mem_cons_of_mem _ hy)
    refine ⟨by simp [PyData.canLayAll0, hx.lay, h1], by simp [PyData.showableAll, hx.shw, h2], by simp [PyData.hasDictAll, hx.nod, h3], by simp only [PyData.depthAll]; have := hx.dep; omega, ?_, ?_⟩
    rotate_left
    · cases xs with
      | nil => exact hx.txt
      | cons y ys => exact strOk_app (strOk_app hx.txt (by decide +kernel)) h6
    cases xs with
    | nil =>
      show (PyData.shown x).length ≤ _
      have := hx.len
      simp
      omega
    | cons y ys =>
      show (PyData.shown x ++ ", " ++ Str.join ", " (PyData.shownAll (y :: ys))).length ≤ _
      rw [strLen_append, strLen_append]
      have e2 : ((", " : String) : Str).length = 2 := rfl
      have := hx.len
      simp only [List.length_cons] at h5 ⊢
      rw [Nat.add_mul (ys.length + 1) 1]
      omega
theorem gd_tup {xs : List PyData} {e m : Nat} (h : ∀ x ∈ xs, Gd x e m) : Gd (.tuple xs) (e + 1) (xs.length * (m + 2) + 3) := by
  obtain ⟨h1, h2, h3, h4, h5, h6⟩ := gd_all h
  refine ⟨h1, h2, h3, by simp only [PyData.depth]; omega, ?_, strOk_app (strOk_app (by decide +kernel) h6) (by split <;> decide +kernel)⟩
  show (tupleText (PyData.shownAll xs)).length ≤ _
  unfold tupleText
  rw [strLen_append, strLen_append]
  have e1 : (("(" : String) : Str).length = 1 := rfl
  have e2 : (((if (PyData.shownAll xs).length == 1 then ",)" else ")") : String) : Str).length ≤ 2 := by split <;> decide
  omega
theorem gd_eq {d : PyData} {e m : Nat} (h : Gd d e m) (h1 : e ≤ 64) : cmpop .eq d d = some true := by
  have ok : eqOk d = true := by
    show (d.canLay0 && decide (d.depth ≤ 64)) = true
    rw [h.lay, Bool.true_and]
    exact decide_eq_true (Nat.le_trans h.dep h1)
  show (if (eqOk d && eqOk d) = true then some (PyData.eqv d d) else none) = _
  rw [ok, SeqAt.eqv_refl d h.lay]
  rfl
theorem gd_repr {d : PyData} {e m : Nat} (h : Gd d e m) (h1 : e ≤ 64) (h2 : m ≤ cap) : u1 .repr d = some (.str d.shown) := by
  have e0 : u1 .repr d = (if (d.showable && !d.hasDict && fits d.shown.length && decide (d.depth ≤ 64)) = true then some (PyData.str d.shown) else none) := by cases d <;> rfl
  rw [e0, if_pos]
  rw [h.shw, h.nod, show fits d.shown.length = true from decide_eq_true (Nat.le_trans h.len h2), decide_eq_true (Nat.le_trans h.dep h1)]
  rfl
@[simp] theorem evI_e {F : Fns} {ρ : Env} {S : Sto} (a : E) : evI F (.e a) ρ S = (ev F a ρ S).bind fun v S1 => R.opt (((view S1 v).bind seq?).map fun xs => (xs, guard v)) S1 := by simp only [evI]
@[simp] theorem evI_enum {F : Fns} {ρ : Env} {S : Sto} (a : E) : evI F (.enum a) ρ S = (ev F a ρ S).bind fun v S1 => R.opt (((view S1 v).bind seq?).map fun xs => (enumL 0 xs, guard v)) S1 := by simp only [evI]
@[simp] theorem evI_zip {F : Fns} {ρ : Env} {S : Sto} (a b : E) : evI F (.zip a b) ρ S = (ev F a ρ S).bind fun v S1 => (ev F b ρ S1).bind fun w S2 => R.opt ((view S2 v).bind fun x => (view S2 w).bind fun y => (zip? x y).map fun zs => (zs, guard v ++ guard w)) S2 := by simp only [evI]
/-- the int of a value -/
def intR (f : Int → R (List PyData × List Nat)) : Vl → R (List PyData × List Nat)
  | .d (.int i) => f i
  | _ => .no
@[simp] theorem intR_int (f : Int → R (List PyData × List Nat)) (i : Int) : intR f (.d (.int i)) = f i := rfl
@[simp] theorem evI_rng1 {F : Fns} {ρ : Env} {S : Sto} (a : E) : evI F (.rng1 a) ρ S = (ev F a ρ S).bind fun v S1 => intR (fun i => R.opt ((range2 0 i).map fun xs => (xs, [])) S1) v := by
  simp only [evI]
  refine congrArg (R.bind _) (funext fun v => funext fun S1 => ?_)
  cases v with
  | loc n => rfl
  | d y => cases y <;> rfl
@[simp] theorem seq_list (xs : List PyData) : seq? (.list xs) = some xs := rfl
@[simp] theorem seq_tuple (xs : List PyData) : seq? (.tuple xs) = some xs := rfl
@[simp] theorem zip_list (xs ys : List PyData) : zip? (.list xs) (.list ys) = some (zipL xs ys) := rfl
@[simp] theorem zip_tuple (xs ys : List PyData) : zip? (.tuple xs) (.tuple ys) = some (zipL xs ys) := rfl
@[simp] theorem data_lst (xs : List PyData) : MO.data (.lst xs) = .list xs := rfl
theorem ev_lc {F : Fns} {ws : List Nat} {t : T} {it : It} {cs : Es} {e : E} {ρ : Env} {S : Sto} {α : Type} {gs : List Nat} {l : List α} (g : α → PyData) (p : α → Bool) (f : α → PyData) (hit : evI F it ρ S = .ok (l.map g, gs) S) (hl : l.length ≤ cap)
    (h : ∀ a ∈ l, ∃ ρ', put t (g a) (wipe ρ ws) = some ρ' ∧ evt F cs ρ' S = .ok (p a) S ∧ (p a = true → ((ev F e ρ' S).bind fun v S2 => shut S2 v) = .ok (f a) S)) :
    ev F (.lc ws t it cs e) ρ S = .ok (.d (.list ((l.filter p).map f))) S := by
  simp only [ev, hit, R.bind_ok]
  rw [lcL_map g p f (chk_same _ _) l [] (by simpa [cap] using hl) fun a ha => by
    obtain ⟨ρ', h1, h2, h3⟩ := h a ha
    exact ⟨ρ', h1, by rw [h2]; rfl, fun hp => by rw [h3 hp]; rfl⟩]
  rfl
/-- the same without tests -/
theorem ev_lc0 {F : Fns} {ws : List Nat} {t : T} {it : It} {e : E} {ρ : Env} {S : Sto} {α : Type} {gs : List Nat} {l : List α} (g : α → PyData) (f : α → PyData) (hit : evI F it ρ S = .ok (l.map g, gs) S) (hl : l.length ≤ cap)
    (h : ∀ a ∈ l, ∃ ρ', put t (g a) (wipe ρ ws) = some ρ' ∧ ((ev F e ρ' S).bind fun v S2 => shut S2 v) = .ok (f a) S) :
    ev F (.lc ws t it .nil e) ρ S = .ok (.d (.list (l.map f))) S := by
  rw [ev_lc g (fun _ => true) f hit hl fun a ha => by
    obtain ⟨ρ', h1, h2⟩ := h a ha
    exact ⟨ρ', h1, by simp, fun _ => h2⟩]
  rw [List.filter_eq_self.mpr fun _ _ => rfl]
@[simp] theorem shut_loc {S : Sto} {n : Nat} {c : Cell} (h : S[n]? = some c) : shut S (.loc n) = .ok c.obj.data (S.set n ⟨false, c.obj⟩) := by simp only [shut, h]
@[simp] theorem put_nm (i : Nat) (x : PyData) (ρ : Env) : put (.nm i) x ρ = some (ρ.set i (some (.d x))) := by simp only [put]
@[simp] theorem put_tp (ts : Ts) (xs : List PyData) (ρ : Env) : put (.tp ts) (.tuple xs) ρ = if xs.length = ts.len then puts ts xs ρ else none := by simp only [put]
@[simp] theorem puts_nil (ρ : Env) : puts .nil [] ρ = some ρ := by simp only [puts]
@[simp] theorem puts_cons (t : T) (ts : Ts) (x : PyData) (xs : List PyData) (ρ : Env) : puts (.cons t ts) (x :: xs) ρ = (put t x ρ).bind (puts ts xs) := by simp only [puts]
@[simp] theorem tslen_nil : Ts.len .nil = 0 := rfl
@[simp] theorem tslen_cons (t : T) (ts : Ts) : Ts.len (.cons t ts) = ts.len + 1 := rfl
end In
/-! part InT -/
set_option linter.all false
set_option maxRecDepth 100000
set_option maxHeartbeats 2000000
/-! How a law draws from its script. -/
namespace In
open PySem
theorem forL_ok {α : Type} {ck : Sto → Bool} {asg : PyData → Env → Option Env} {b : Env → Sto → R Fl} (g : α → PyData) (I : List α → Env → Sto → Prop) : ∀ (l : List α) (ρ : Env) (S : Sto), I l ρ S →
    (∀ a l ρ S, I (a :: l) ρ S → ∃ ρ1, asg (g a) ρ = some ρ1 ∧ Ok (b ρ1 S) fun fl S1 => ∃ ρ2, fl = .nx ρ2 ∧ ck S1 = true ∧ I l ρ2 S1) → Ok (forL ck asg b (l.map g) ρ S) fun fl S' => ∃ ρ', fl = .nx ρ' ∧ I [] ρ' S'
  | [], ρ, S, h, _ => ⟨ρ, rfl, h⟩
  | a :: l, ρ, S, h, hs => by
    obtain ⟨ρ1, h1, h2⟩ := hs a l ρ S h
    simp only [List.map_cons, forL, h1, Ok_bind]
    refine h2.mono ?_
    rintro fl S1 ⟨ρ2, rfl, hck, hI⟩
    simp only [hck, if_true]
    exact forL_ok g I l ρ2 S1 hI hs
theorem Ok.get {α : Type} {r : R α} {Q : α → Sto → Prop} (h : Ok r Q) : ∃ a S, r = .ok a S ∧ Q a S := by
  cases r with
  | ok a S => exact ⟨a, S, rfl, h⟩
  | no => exact h.elim
  | ex _ _ _ => exact h.elim
@[simp] theorem Ok_opt {α : Type} (o : Option α) (S : Sto) (Q : α → Sto → Prop) : Ok (R.opt o S) Q = ∃ a, o = some a ∧ Q a S := by
  cases o with
  | none => simp [R.opt, Ok]
  | some a => simp [R.opt, Ok]
/-- the last cell -/
@[simp] theorem last_get (S : Sto) (c : Cell) : (S ++ [c])[S.length]? = some c := by simp
@[simp] theorem last_set (S : Sto) (c c' : Cell) : (S ++ [c]).set S.length c' = S ++ [c'] := by simp
@[simp] theorem last_take (S : Sto) (c : Cell) : (S ++ [c]).take S.length = S := by simp
@[simp] theorem lstAt_last (S : Sto) (xs : List PyData) : lstAt (S ++ [⟨true, .lst xs⟩]) (.loc S.length) = some (S.length, xs) := by simp [lstAt]
theorem rng_n (n : Nat) (h : n < 4611686018427387904) : range2 0 (n : Int) = some ((upFrom 0 n).map .int) := by
  unfold range2
  rw [if_pos (by simp [rangeOk]; omega)]
  simp
def bDraws : Cs := (.cons (.new 1 (.lst .nil)) (.cons (.loop (.nm 2) (.e (.sl (.var 0) .nil (.cons (.cst (.int 63)) .nil))) (.cons (.asg (.nm 3) (.u1 .abs (.var 2))) (.cons (.ite (.cmp .ge (.var 3) (.bin .pow (.cst (.int 10)) (.cst (.int 18)))) (.cons (.loop (.nm 4) (.rng1 (.cst (.int 60))) (.cons (.ite (.cmp .gt (.var 3) (.cst (.int 0))) (.cons (.app (.var 1) (.bin .mod (.u1 .int (.var 3)) (.cst (.int 1009)))) (.cons (.asg (.nm 3) (.bin .fdiv (.var 3) (.cst (.int 1009)))) .nil)) .nil) .nil)) .nil) (.cons (.asg (.nm 5) (.bin .mod (.u1 .int (.bin .add (.bin .mul (.var 3) (.cst (.int 48271))) (.cst (.int 11)))) (.cst (.int 2147483647)))) (.cons (.loop (.nm 4) (.rng1 (.cst (.int 12))) (.cons (.asg (.nm 5) (.bin .mod (.u1 .int (.bin .add (.bin .add (.bin .mul (.var 5) (.cst (.int 16807))) (.bin .mul (.cst (.int 69621)) (.var 4))) (.cst (.int 5)))) (.cst (.int 2147483629)))) (.cons (.app (.var 1) (.bin .fdiv (.var 5) (.cst (.int 1009)))) .nil))) .nil))) .nil))) (.cons (.ret (.var 1)) .nil)))
def bMore : Cs := (.cons (.asg (.nm 2) (.bin .mod (.u1 .int (.bin .add (.bin .add (.bin .mul (.var 1) (.cst (.int 48271))) (.u1 .len (.var 0))) (.cst (.int 11)))) (.cst (.int 2147483629)))) (.cons (.loop (.nm 3) (.rng1 (.cst (.int 3))) (.cons (.ite (.var 0) (.cons (.asg (.nm 2) (.bin .add (.var 2) (.ix (.var 0) (.bin .mod (.u1 .int (.bin .add (.bin .mul (.var 1) (.bin .add (.var 3) (.cst (.int 5)))) (.var 3))) (.u1 .len (.var 0)))))) .nil) .nil) (.cons (.asg (.nm 2) (.bin .mod (.u1 .int (.bin .add (.bin .add (.bin .mul (.var 2) (.cst (.int 16807))) (.bin .mul (.cst (.int 69621)) (.var 3))) (.cst (.int 5)))) (.cst (.int 2147483629)))) .nil))) (.cons (.ret (.bin .fdiv (.var 2) (.cst (.int 1009)))) .nil)))
def bTake (m : Nat) : Cs := (.cons (.asg (.nm 3) (.ix (.var 1) (.cst (.int 0)))) (.cons (.six (.var 1) (.cst (.int 0)) (.bin .add (.var 3) (.cst (.int 1)))) (.cons (.ret (.bin .mod (.u1 .int (.ite (.cmp .lt (.var 3) (.u1 .len (.var 0))) (.ix (.var 0) (.var 3)) (.call m (.cons (.var 0) (.cons (.var 3) .nil)) []))) (.var 2))) .nil)))
def bOne (m : Nat) : Cs := (.cons (.ret (.ix (.var 0) (.call m (.cons (.var 1) (.cons (.var 2) (.cons (.u1 .len (.var 0)) .nil))) []))) .nil)
theorem pow18 : binop .pow (.int 10) (.int 18) = some (.int 1000000000000000000) := rfl
theorem fdiv_p (i : Int) : binop .fdiv (.int i) (.int 1009) = some (.int (i / 1009)) := by
  show (if (decide ((1009 : Int) ≠ 0) && decide ((1009 : Int).natAbs < 1073741824)) = true then some (PyData.int (i.fdiv 1009)) else none) = _
  rw [if_pos (by decide), Int.fdiv_eq_ediv_of_nonneg i (by decide)]
theorem mul_r (i j : Int) (h : small j = true) : binop .mul (.int i) (.int j) = some (.int (i * j)) := bin_mul i j (.inr h)
theorem mul_l (i j : Int) (h : small i = true) : binop .mul (.int i) (.int j) = some (.int (i * j)) := bin_mul i j (.inl h)
variable {F : Fns} {W : Nat} {S : Sto}
abbrev nn (l : List Int) : Prop := ∀ d ∈ l, 0 ≤ d
theorem nn_app {l : List Int} {a : Int} (h : nn l) (h2 : 0 ≤ a) : nn (l ++ [a]) := fun d hd => by
  rcases List.mem_append.mp hd with q | q
  · exact h d q
  · have : d = a := by simpa using q
    omega
/-- a list of ints in the last cell -/
abbrev cl (S : Sto) (ds : List Int) : Sto := S ++ [⟨true, .lst (ds.map .int)⟩]
theorem app_cl {ρ : Env} {ds : List Int} {a : Int} (h : ds.length < 16777216) : appAt ρ (.int a) (cl S ds) (some (S.length, ds.map .int)) = .ok (.nx ρ) (cl S (ds ++ [a])) := by
  simp [appAt, h, cl]
def bIn1 : Cs := (.cons (.ite (.cmp .gt (.var 3) (.cst (.int 0))) (.cons (.app (.var 1) (.bin .mod (.u1 .int (.var 3)) (.cst (.int 1009)))) (.cons (.asg (.nm 3) (.bin .fdiv (.var 3) (.cst (.int 1009)))) .nil)) .nil) .nil)
def bIn2 : Cs := (.cons (.asg (.nm 5) (.bin .mod (.u1 .int (.bin .add (.bin .add (.bin .mul (.var 5) (.cst (.int 16807))) (.bin .mul (.cst (.int 69621)) (.var 4))) (.cst (.int 5)))) (.cst (.int 2147483629)))) (.cons (.app (.var 1) (.bin .fdiv (.var 5) (.cst (.int 1009)))) .nil))
theorem in1_ok {S0 : Sto} {x0 c m : Option Vl} (N : Nat) (hN : N ≤ 10000) (l : List Int) (r : Int) (k : Option Vl) (ds : List Int) (hd : nn ds) (hl : ds.length + l.length ≤ N) :
    Ok (forL (chk [] S0) (fun x ρ => put (.nm 4) x ρ) (fun ρ S => xs F W bIn1 ρ S) (l.map .int) [x0, some (.loc S.length), c, some (.d (.int r)), k, m] (cl S ds)) fun fl S' => ∃ (r' : Int) (k' : Option Vl) (ds' : List Int), fl = .nx [x0, some (.loc S.length), c, some (.d (.int r')), k', m] ∧ S' = cl S ds' ∧ nn ds' ∧ ds'.length ≤ N := by
  have h := forL_ok (ck := chk [] S0) (asg := fun x ρ => put (.nm 4) x ρ) (b := fun ρ S => xs F W bIn1 ρ S) PyData.int (fun l ρ S' => ∃ (r : Int) (k : Option Vl) (ds : List Int), ρ = [x0, some (.loc S.length), c, some (.d (.int r)), k, m] ∧ S' = cl S ds ∧ nn ds ∧ ds.length + l.length ≤ N) l _ _ ⟨r, k, ds, rfl, rfl, hd, hl⟩ ?_
  · refine h.mono ?_
    rintro fl S' ⟨ρ', rfl, r, k, ds, rfl, rfl, h1, h2⟩
    exact ⟨r, k, ds, rfl, rfl, h1, by simpa using h2⟩
  · rintro a l ρ S' ⟨r, k, ds, rfl, rfl, h1, h2⟩
    simp only [List.length_cons] at h2
    refine ⟨_, rfl, ?_⟩
    show Ok (xs F W bIn1 [x0, some (.loc S.length), c, some (.d (.int r)), some (.d (.int a)), m] (cl S ds)) _
    by_cases hr : 0 < r
    · have hlt : ds.length < 16777216 := by omega
      have e : xs F W bIn1 [x0, some (.loc S.length), c, some (.d (.int r)), some (.d (.int a)), m] (cl S ds) = .ok (.nx [x0, some (.loc S.length), c, some (.d (.int (r / 1009))), some (.d (.int a)), m]) (cl S (ds ++ [r % 1009])) := by
        simp [bIn1, hr, mod_pos, fdiv_p, hlt]
      rw [e]
      exact ⟨_, rfl, rfl, r / 1009, _, _, rfl, rfl, nn_app h1 (Int.emod_nonneg _ (by decide)), by simp; omega⟩
    · have e : xs F W bIn1 [x0, some (.loc S.length), c, some (.d (.int r)), some (.d (.int a)), m] (cl S ds) = .ok (.nx [x0, some (.loc S.length), c, some (.d (.int r)), some (.d (.int a)), m]) (cl S ds) := by
        simp [bIn1, hr]
      rw [e]
      exact ⟨_, rfl, rfl, r, _, _, rfl, rfl, h1, by omega⟩
theorem in2_ok {S0 : Sto} {x0 c r : Option Vl} (N : Nat) (hN : N ≤ 10000) (l : List Int) (m : Int) (hm : 0 ≤ m) (k : Option Vl) (ds : List Int) (hd : nn ds) (hl : ds.length + l.length ≤ N) (hk : ∀ a ∈ l, 0 ≤ a ∧ a ≤ 100) :
    Ok (forL (chk [] S0) (fun x ρ => put (.nm 4) x ρ) (fun ρ S => xs F W bIn2 ρ S) (l.map .int) [x0, some (.loc S.length), c, r, k, some (.d (.int m))] (cl S ds)) fun fl S' => ∃ (m' : Int) (k' : Option Vl) (ds' : List Int), fl = .nx [x0, some (.loc S.length), c, r, k', some (.d (.int m'))] ∧ S' = cl S ds' ∧ nn ds' ∧ ds'.length ≤ N := by
  have h := forL_ok (ck := chk [] S0) (asg := fun x ρ => put (.nm 4) x ρ) (b := fun ρ S => xs F W bIn2 ρ S) PyData.int (fun l ρ S' => ∃ (m : Int) (k : Option Vl) (ds : List Int), ρ = [x0, some (.loc S.length), c, r, k, some (.d (.int m))] ∧ S' = cl S ds ∧ nn ds ∧ ds.length + l.length ≤ N ∧ 0 ≤ m ∧ ∀ a ∈ l, 0 ≤ a ∧ a ≤ 100) l _ _ ⟨m, k, ds, rfl, rfl, hd, hl, hm, hk⟩ ?_
  · refine h.mono ?_
    rintro fl S' ⟨ρ', rfl, r, k, ds, rfl, rfl, h1, h2, _, _⟩
    exact ⟨r, k, ds, rfl, rfl, h1, by simpa using h2⟩
  · rintro a l ρ S' ⟨m, k, ds, rfl, rfl, h1, h2, h3, h4⟩
    simp only [List.length_cons] at h2
    refine ⟨_, rfl, ?_⟩
    show Ok (xs F W bIn2 [x0, some (.loc S.length), c, r, some (.d (.int a)), some (.d (.int m))] (cl S ds)) _
    have hlt : ds.length < 16777216 := by omega
    have ha := h4 a List.mem_cons_self
    have q1 : 0 ≤ (m * 16807 + 69621 * a + 5) % 2147483629 := Int.emod_nonneg _ (by decide)
    have e : xs F W bIn2 [x0, some (.loc S.length), c, r, some (.d (.int a)), some (.d (.int m))] (cl S ds) = .ok (.nx [x0, some (.loc S.length), c, r, some (.d (.int a)), some (.d (.int ((m * 16807 + 69621 * a + 5) % 2147483629)))]) (cl S (ds ++ [(m * 16807 + 69621 * a + 5) % 2147483629 / 1009])) := by
      have m1 : binop .mul (.int m) (.int 16807) = some (.int (m * 16807)) := mul_r m 16807 rfl
      have m2 : binop .mul (.int 69621) (.int a) = some (.int (69621 * a)) := mul_l 69621 a rfl
      simp [bIn2, m1, m2, mod_pos, fdiv_p, hlt]
    rw [e]
    exact ⟨_, rfl, rfl, _, _, _, rfl, rfl, nn_app h1 (Int.ediv_nonneg q1 (by decide)), by simp; omega, q1, fun b hb => h4 b (List.mem_cons_of_mem _ hb)⟩
theorem upFrom_mem : ∀ (n : Nat) (i a : Int), a ∈ upFrom i n → i ≤ a ∧ a < i + n
  | 0, _, _, h => by simp [upFrom] at h
  | n + 1, i, a, h => by
    rcases List.mem_cons.mp h with rfl | h
    · constructor <;> omega
    · have := upFrom_mem n (i + 1) a h
      constructor <;> omega
theorem upFrom_length : ∀ (n : Nat) (i : Int), (upFrom i n).length = n
  | 0, _ => rfl
  | n + 1, i => congrArg (· + 1) (upFrom_length n (i + 1))
theorem rng60 : range2 0 60 = some ((upFrom 0 60).map .int) := rng_n 60 (by decide)
theorem rng12 : range2 0 12 = some ((upFrom 0 12).map .int) := rng_n 12 (by decide)
theorem draws_ok (ns : List Int) (hl : ns.length ≤ 63) : ∃ ds : List Int, nn ds ∧ ds.length ≤ 3780 ∧ fin S.length (xs F W bDraws [some (.d (.list (ns.map .int))), none, none, none, none, none] S) = .ok (.list (ds.map .int)) S := by
  have loop : Ok (x1 F W (.loop (.nm 2) (.e (.sl (.var 0) .nil (.cons (.cst (.int 63)) .nil))) (.cons (.asg (.nm 3) (.u1 .abs (.var 2))) (.cons (.ite (.cmp .ge (.var 3) (.bin .pow (.cst (.int 10)) (.cst (.int 18)))) (.cons (.loop (.nm 4) (.rng1 (.cst (.int 60))) bIn1) .nil) (.cons (.asg (.nm 5) (.bin .mod (.u1 .int (.bin .add (.bin .mul (.var 3) (.cst (.int 48271))) (.cst (.int 11)))) (.cst (.int 2147483647)))) (.cons (.loop (.nm 4) (.rng1 (.cst (.int 12))) bIn2) .nil))) .nil))) [some (.d (.list (ns.map .int))), some (.loc S.length), none, none, none, none] (cl S [])) fun fl S' => ∃ (c r k m : Option Vl) (ds : List Int), fl = .nx [some (.d (.list (ns.map .int))), some (.loc S.length), c, r, k, m] ∧ S' = cl S ds ∧ nn ds ∧ ds.length ≤ 3780 := by
    have hs : slice (.list (ns.map .int)) none (some 63) = some (.list (ns.map .int)) := by
      have e : cut (ns.map PyData.int) none (some 63) = ns.map PyData.int := by
        unfold cut
        have h1 : HT.sIx (ns.map PyData.int).length 0 none = 0 := rfl
        have h2 : HT.sIx (ns.map PyData.int).length (ns.map PyData.int).length (some 63) = (ns.map PyData.int).length := by
          simp only [HT.sIx, List.length_map]
          have h3 : (63 : Int).toNat = 63 := rfl
          rw [h3]
          simp
          omega
        rw [h1, h2]
        simp only [List.drop_zero, Nat.sub_zero, List.take_length]
      show some (PyData.list (cut (ns.map PyData.int) none (some 63))) = _
      rw [e]
    have e1 : evI F (.e (.sl (.var 0) .nil (.cons (.cst (.int 63)) .nil))) [some (.d (.list (ns.map .int))), some (.loc S.length), none, none, none, none] (cl S []) = .ok (ns.map .int, []) (cl S []) := by
      simp [ev, evo, hs]
    rw [x1_loop, e1, R.bind_ok]
    refine (forL_ok (ck := chk [] (cl S [])) PyData.int (fun l ρ S' => ∃ (c r k m : Option Vl) (ds : List Int), ρ = [some (.d (.list (ns.map .int))), some (.loc S.length), c, r, k, m] ∧ S' = cl S ds ∧ nn ds ∧ ds.length + 60 * l.length ≤ 3780) ns _ _ ⟨none, none, none, none, [], rfl, rfl, fun d h => by simp at h, by simp; omega⟩ ?_).mono ?_
    · rintro a l ρ S' ⟨c, r, k, m, ds, rfl, rfl, h1, h2⟩
      simp only [List.length_cons] at h2
      refine ⟨_, rfl, ?_⟩
      show Ok (xs F W _ [some (.d (.list (ns.map .int))), some (.loc S.length), some (.d (.int a)), r, k, m] (cl S ds)) _
      generalize hab : (if a < 0 then -a else a) = b
      by_cases hb : 1000000000000000000 ≤ b
      · have e2 : xs F W (.cons (.asg (.nm 3) (.u1 .abs (.var 2))) (.cons (.ite (.cmp .ge (.var 3) (.bin .pow (.cst (.int 10)) (.cst (.int 18)))) (.cons (.loop (.nm 4) (.rng1 (.cst (.int 60))) bIn1) .nil) (.cons (.asg (.nm 5) (.bin .mod (.u1 .int (.bin .add (.bin .mul (.var 3) (.cst (.int 48271))) (.cst (.int 11)))) (.cst (.int 2147483647)))) (.cons (.loop (.nm 4) (.rng1 (.cst (.int 12))) bIn2) .nil))) .nil)) [some (.d (.list (ns.map .int))), some (.loc S.length), some (.d (.int a)), r, k, m] (cl S ds) =
            ((forL (chk [] (cl S ds)) (fun x ρ => put (.nm 4) x ρ) (fun ρ S => xs F W bIn1 ρ S) ((upFrom 0 60).map .int) [some (.d (.list (ns.map .int))), some (.loc S.length), some (.d (.int a)), some (.d (.int b)), k, m] (cl S ds)).bind (nxt F W .nil)).bind (nxt F W .nil) := by
          simp [hab, pow18, hb, rng60]
        rw [e2, Ok_bind, Ok_bind]
        refine (in1_ok (ds.length + 60) (by omega) _ b k ds h1 (by rw [upFrom_length]; exact Nat.le_refl _)).mono ?_
        rintro fl S' ⟨r', k', ds', rfl, rfl, h3, h4⟩
        exact ⟨_, rfl, rfl, _, _, _, _, _, rfl, rfl, h3, by omega⟩
      · have e2 : xs F W (.cons (.asg (.nm 3) (.u1 .abs (.var 2))) (.cons (.ite (.cmp .ge (.var 3) (.bin .pow (.cst (.int 10)) (.cst (.int 18)))) (.cons (.loop (.nm 4) (.rng1 (.cst (.int 60))) bIn1) .nil) (.cons (.asg (.nm 5) (.bin .mod (.u1 .int (.bin .add (.bin .mul (.var 3) (.cst (.int 48271))) (.cst (.int 11)))) (.cst (.int 2147483647)))) (.cons (.loop (.nm 4) (.rng1 (.cst (.int 12))) bIn2) .nil))) .nil)) [some (.d (.list (ns.map .int))), some (.loc S.length), some (.d (.int a)), r, k, m] (cl S ds) =
            ((forL (chk [] (cl S ds)) (fun x ρ => put (.nm 4) x ρ) (fun ρ S => xs F W bIn2 ρ S) ((upFrom 0 12).map .int) [some (.d (.list (ns.map .int))), some (.loc S.length), some (.d (.int a)), some (.d (.int b)), k, some (.d (.int ((b * 48271 + 11) % 2147483647)))] (cl S ds)).bind (nxt F W .nil)).bind (nxt F W .nil) := by
          have m1 : binop .mul (.int b) (.int 48271) = some (.int (b * 48271)) := mul_r b 48271 rfl
          simp [hab, pow18, hb, rng12, m1, mod_pos]
        rw [e2, Ok_bind, Ok_bind]
        refine (in2_ok (ds.length + 12) (by omega) _ _ (Int.emod_nonneg _ (by decide)) k ds h1 (by rw [upFrom_length]; exact Nat.le_refl _) fun x hx => by have := upFrom_mem _ _ _ hx; omega).mono ?_
        rintro fl S' ⟨m', k', ds', rfl, rfl, h3, h4⟩
        exact ⟨_, rfl, rfl, _, _, _, _, _, rfl, rfl, h3, by omega⟩
    · rintro fl S' ⟨ρ', rfl, c, r, k, m, ds, rfl, rfl, h1, h2⟩
      exact ⟨c, r, k, m, ds, rfl, rfl, h1, by simpa using h2⟩
  obtain ⟨fl, S', e, c, r, k, m, ds, rfl, rfl, h1, h2⟩ := loop.get
  refine ⟨ds, h1, h2, ?_⟩
  have e0 : xs F W bDraws [some (.d (.list (ns.map .int))), none, none, none, none, none] S = .ok (.rt (.list (ds.map .int))) (S ++ [⟨false, .lst (ds.map .int)⟩]) := by
    unfold bDraws
    rw [xs_cons, x1_new, ev_lst, evps_nil]
    simp only [R.bind_ok, live_list, nxt_nx, List.set_cons_succ, List.set_cons_zero]
    rw [xs_cons]
    have e' := e
    unfold bIn1 bIn2 at e'
    rw [show (S ++ [⟨true, .lst []⟩] : Sto) = cl S [] from rfl, e']
    simp [shut]
  rw [e0]
  simp
abbrev li (ds : List Int) : PyData := .list (ds.map .int)
theorem small_of {i : Int} (h : -1000 ≤ i) (h2 : i ≤ 1000) : small i = true := by
  simp only [small, Bool.and_eq_true, decide_eq_true_eq]
  omega
def bM3 : Cs := (.cons (.ite (.var 0) (.cons (.asg (.nm 2) (.bin .add (.var 2) (.ix (.var 0) (.bin .mod (.u1 .int (.bin .add (.bin .mul (.var 1) (.bin .add (.var 3) (.cst (.int 5)))) (.var 3))) (.u1 .len (.var 0)))))) .nil) .nil) (.cons (.asg (.nm 2) (.bin .mod (.u1 .int (.bin .add (.bin .add (.bin .mul (.var 2) (.cst (.int 16807))) (.bin .mul (.cst (.int 69621)) (.var 3))) (.cst (.int 5)))) (.cst (.int 2147483629)))) .nil))
theorem rng3 : range2 0 3 = some ((upFrom 0 3).map .int) := rng_n 3 (by decide)
theorem more_ok (ds : List Int) (hd : nn ds) (p : Int) (hp : 0 ≤ p) : ∃ v : Int, 0 ≤ v ∧ fin S.length (xs F W bMore [some (.d (li ds)), some (.d (.int p)), none, none] S) = .ok (.int v) S := by
  have loop : ∀ m : Int, 0 ≤ m → Ok (forL (chk [] S) (fun x ρ => put (.nm 3) x ρ) (fun ρ S => xs F W bM3 ρ S) ((upFrom 0 3).map .int) [some (.d (li ds)), some (.d (.int p)), some (.d (.int m)), none] S) fun fl S' => ∃ (m' : Int) (k : Option Vl), fl = .nx [some (.d (li ds)), some (.d (.int p)), some (.d (.int m')), k] ∧ S' = S ∧ 0 ≤ m' := by
    intro m hm
    refine (forL_ok (ck := chk [] S) PyData.int (fun l ρ S' => ∃ (m : Int) (k : Option Vl), ρ = [some (.d (li ds)), some (.d (.int p)), some (.d (.int m)), k] ∧ S' = S ∧ 0 ≤ m ∧ ∀ a ∈ l, 0 ≤ a ∧ a ≤ 100) _ _ _ ⟨m, none, rfl, rfl, hm, fun x hx => by have := upFrom_mem _ _ _ hx; omega⟩ ?_).mono ?_
    · rintro a l ρ S' ⟨m, k, rfl, rfl, h1, h2⟩
      have ha := h2 a List.mem_cons_self
      refine ⟨_, rfl, ?_⟩
      show Ok (xs F W bM3 [some (.d (li ds)), some (.d (.int p)), some (.d (.int m)), some (.d (.int a))] S') _
      have m2 : binop .mul (.int 69621) (.int a) = some (.int (69621 * a)) := mul_l 69621 a rfl
      have fin2 : ∀ x : Int, x1 F W (.asg (.nm 2) (.bin .mod (.u1 .int (.bin .add (.bin .add (.bin .mul (.var 2) (.cst (.int 16807))) (.bin .mul (.cst (.int 69621)) (.var 3))) (.cst (.int 5)))) (.cst (.int 2147483629)))) [some (.d (li ds)), some (.d (.int p)), some (.d (.int x)), some (.d (.int a))] S' = .ok (.nx [some (.d (li ds)), some (.d (.int p)), some (.d (.int ((x * 16807 + 69621 * a + 5) % 2147483629))), some (.d (.int a))]) S' := fun x => by
        have m1 : binop .mul (.int x) (.int 16807) = some (.int (x * 16807)) := mul_r x 16807 rfl
        simp [m1, m2, mod_pos]
      by_cases he : ds = []
      · have e : xs F W bM3 [some (.d (li ds)), some (.d (.int p)), some (.d (.int m)), some (.d (.int a))] S' = .ok (.nx [some (.d (li ds)), some (.d (.int p)), some (.d (.int ((m * 16807 + 69621 * a + 5) % 2147483629))), some (.d (.int a))]) S' := by
          subst he
          unfold bM3
          rw [xs_cons, x1_ite]
          simp only [ev_vr, List.getElem?_cons_zero, getV_some, R.bind_ok, List.map_nil, test_list, List.isEmpty_nil, Bool.not_true, Bool.false_eq_true, if_false, xs_nil, nxt_nx]
          rw [xs_cons]
          have := fin2 m
          simp only [li, List.map_nil] at this ⊢
          rw [this]
          simp
        rw [e]
        exact ⟨_, rfl, rfl, _, _, rfl, rfl, Int.emod_nonneg _ (by decide), fun b hb => h2 b (List.mem_cons_of_mem _ hb)⟩
      · have hl : 0 < ds.length := List.length_pos_iff.mpr he
        have hm3 : binop .mul (.int p) (.int (a + 5)) = some (.int (p * (a + 5))) := mul_r p (a + 5) (small_of (by omega) (by omega))
        have q1 : 0 ≤ (p * (a + 5) + a) % (ds.length : Int) := Int.emod_nonneg _ (by omega)
        have q2 : (p * (a + 5) + a) % (ds.length : Int) < ds.length := Int.emod_lt_of_pos _ (by omega)
        obtain ⟨j, hj⟩ := Int.eq_ofNat_of_zero_le q1
        have hj' : j < ds.length := by omega
        have hidx : index (li ds) (.int ((p * (a + 5) + a) % (ds.length : Int))) = some (.int ds[j]) := by
          rw [hj]
          exact (index_nat (by simp [hj'])).1
        have hdj : 0 ≤ ds[j] := hd _ (List.getElem_mem hj')
        have hmod : binop .mod (.int (p * (a + 5) + a)) (.int (ds.length : Int)) = some (.int ((p * (a + 5) + a) % (ds.length : Int))) := mod_pos _ _ (by omega)
        have hem : (ds.map PyData.int).isEmpty = false := by cases ds with | nil => exact absurd rfl he | cons _ _ => rfl
        have e : xs F W bM3 [some (.d (li ds)), some (.d (.int p)), some (.d (.int m)), some (.d (.int a))] S' = .ok (.nx [some (.d (li ds)), some (.d (.int p)), some (.d (.int (((m + ds[j]) * 16807 + 69621 * a + 5) % 2147483629))), some (.d (.int a))]) S' := by
          unfold bM3
          rw [xs_cons, x1_ite]
          simp only [ev_vr, List.getElem?_cons_zero, getV_some, R.bind_ok, test_list, hem, Bool.not_false, if_true]
          rw [xs_cons]
          have e1 : x1 F W (.asg (.nm 2) (.bin .add (.var 2) (.ix (.var 0) (.bin .mod (.u1 .int (.bin .add (.bin .mul (.var 1) (.bin .add (.var 3) (.cst (.int 5)))) (.var 3))) (.u1 .len (.var 0)))))) [some (.d (li ds)), some (.d (.int p)), some (.d (.int m)), some (.d (.int a))] S' = .ok (.nx [some (.d (li ds)), some (.d (.int p)), some (.d (.int (m + ds[j]))), some (.d (.int a))]) S' := by
            simp [hm3, hmod, hidx]
          rw [e1]
          simp only [R.bind_ok, nxt_nx, xs_nil]
          rw [xs_cons, fin2 (m + ds[j])]
          simp
        rw [e]
        exact ⟨_, rfl, rfl, _, _, rfl, rfl, Int.emod_nonneg _ (by decide), fun b hb => h2 b (List.mem_cons_of_mem _ hb)⟩
    · rintro fl S' ⟨ρ', rfl, m, k, rfl, rfl, h1, _⟩
      exact ⟨m, k, rfl, rfl, h1⟩
  have m1 : binop .mul (.int p) (.int 48271) = some (.int (p * 48271)) := mul_r p 48271 rfl
  obtain ⟨fl, S', e, m', k, rfl, rfl, h1⟩ := (loop ((p * 48271 + ds.length + 11) % 2147483629) (Int.emod_nonneg _ (by decide))).get
  refine ⟨m' / 1009, Int.ediv_nonneg h1 (by decide), ?_⟩
  have e2 : xs F W bMore [some (.d (li ds)), some (.d (.int p)), none, none] S' = (forL (chk [] S') (fun x ρ => put (.nm 3) x ρ) (fun ρ S => xs F W bM3 ρ S) ((upFrom 0 3).map .int) [some (.d (li ds)), some (.d (.int p)), some (.d (.int ((p * 48271 + ds.length + 11) % 2147483629))), none] S').bind (nxt F W (.cons (.ret (.bin .fdiv (.var 2) (.cst (.int 1009)))) .nil)) := by
    show xs F W (.cons (.asg (.nm 2) (.bin .mod (.u1 .int (.bin .add (.bin .add (.bin .mul (.var 1) (.cst (.int 48271))) (.u1 .len (.var 0))) (.cst (.int 11)))) (.cst (.int 2147483629)))) (.cons (.loop (.nm 3) (.rng1 (.cst (.int 3))) bM3) (.cons (.ret (.bin .fdiv (.var 2) (.cst (.int 1009)))) .nil))) _ _ = _
    simp [m1, mod_pos, rng3]
  rw [e2, e]
  simp [fdiv_p]
theorem take_ok (m : Nat) (ds : List Int) (hd : nn ds) (hF : ∀ (S : Sto) (p : Int), 0 ≤ p → ∃ v : Int, 0 ≤ v ∧ F m [.d (li ds), .d (.int p)] S = .ok (.int v) S) (n : Nat) (p many : Int) (hS : S[n]? = some ⟨true, .lst [.int p]⟩) (hp : 0 ≤ p) (hm : 0 < many) :
    ∃ v : Int, 0 ≤ v ∧ v < many ∧ fin S.length (xs F W (bTake m) [some (.d (li ds)), some (.loc n), some (.d (.int many)), none] S) = .ok (.int v) (S.set n ⟨true, .lst [.int (p + 1)]⟩) := by
  have hn : n < S.length := (List.getElem?_eq_some_iff.mp hS).1
  have i0 : index (.list [.int p]) (.int 0) = some (.int p) := (index_nat (i := 0) rfl).1
  have hl : lstAt S (.loc n) = some (n, [.int p]) := by simp [lstAt, hS]
  have hset : setAt S (.loc n) (.int 0) (.int (p + 1)) = .ok () (S.set n ⟨true, .lst [.int (p + 1)]⟩) := by
    simp [setAt, hl, L2.ixN]
  generalize hS' : S.set n ⟨true, .lst [.int (p + 1)]⟩ = S' at hset
  have hlen : S'.length = S.length := by rw [← hS']; simp
  have htk : S'.take S.length = S' := by rw [← hlen, List.take_length]
  have val : ∃ d : Int, 0 ≤ d ∧ ev F (.ite (.cmp .lt (.var 3) (.u1 .len (.var 0))) (.ix (.var 0) (.var 3)) (.call m (.cons (.var 0) (.cons (.var 3) .nil)) [])) [some (.d (li ds)), some (.loc n), some (.d (.int many)), some (.d (.int p))] S' = .ok (.d (.int d)) S' := by
    by_cases c : p < ds.length
    · obtain ⟨j, rfl⟩ := Int.eq_ofNat_of_zero_le hp
      have hj : j < ds.length := by omega
      have hidx : index (li ds) (.int (j : Int)) = some (.int ds[j]) := (index_nat (by simp [hj])).1
      refine ⟨ds[j], hd _ (List.getElem_mem hj), ?_⟩
      simp [c, hidx]
    · obtain ⟨v, hv, e⟩ := hF S' p hp
      exact ⟨v, hv, by simp [c, e]⟩
  obtain ⟨d, hd0, e⟩ := val
  refine ⟨d % many, Int.emod_nonneg _ (by omega), Int.emod_lt_of_pos _ hm, ?_⟩
  unfold bTake
  simp only [xs_cons, x1_asg, ev_ix, ev_vr, List.getElem?_cons_succ, List.getElem?_cons_zero, getV_some, R.bind_ok, ev_cst, view_loc, hS, Option.map_some, data_lst, view_d, Option.bind_some, i0, R.opt_some, shut_d, put_nm, List.set_cons_succ, List.set_cons_zero, nxt_nx, x1_six, ev_bin, bin_add, hset, x1_ret, ev_u1]
  rw [e]
  simp only [R.bind_ok, view_d, Option.bind_some, u1_int, Option.map_some, R.opt_some, List.getElem?_cons_succ, List.getElem?_cons_zero, getV_some, mod_pos _ _ hm, shut_d, nxt_rt, fin_rt, htk]
theorem one_ok (m : Nat) (dr : PyData) (rows : List PyData) (hr : rows ≠ []) (n : Nat) (S' : Sto) (hlen : S'.length = S.length) (hF : ∃ v : Int, 0 ≤ v ∧ v < rows.length ∧ F m [.d dr, .loc n, .d (.int rows.length)] S = .ok (.int v) S') :
    ∃ x ∈ rows, fin S.length (xs F W (bOne m) [some (.d (.list rows)), some (.d dr), some (.loc n)] S) = .ok x S' := by
  obtain ⟨v, h1, h2, e⟩ := hF
  obtain ⟨j, rfl⟩ := Int.eq_ofNat_of_zero_le h1
  have hj : j < rows.length := by omega
  have htk : S'.take S.length = S' := by rw [← hlen, List.take_length]
  refine ⟨rows[j], List.getElem_mem hj, ?_⟩
  have hidx : index (.list rows) (.int (j : Int)) = some rows[j] := (index_nat (by simp [hj])).1
  unfold bOne
  simp [e, hidx, htk]
end In
/-! part InU -/
set_option linter.all false
set_option maxRecDepth 100000
set_option maxHeartbeats 1000000
/-! More tools for runs. -/
namespace In
open PySem
variable {F : Fns} {W : Nat} {ρ : Env} {S : Sto}
theorem bind_left {α β : Type} {r r' : R α} {k : α → Sto → R β} (h : r = r') : r.bind k = r'.bind k := by rw [h]
theorem upFrom_range : ∀ (n : Nat) (i : Int), upFrom i n = (List.range n).map fun (k : Nat) => i + (k : Int)
  | 0, _ => rfl
  | n + 1, i => by
    rw [List.range_succ_eq_map, List.map_cons, List.map_map]
    show i :: upFrom (i + 1) n = _
    rw [upFrom_range n (i + 1)]
    congr 1
    · simp
    · refine List.map_congr_left fun k _ => ?_
      show i + 1 + (k : Int) = i + ((k + 1 : Nat) : Int)
      omega
theorem rng_nat (n : Nat) (h : n < 4611686018427387904) : range2 0 (n : Int) = some ((List.range n).map fun (k : Nat) => .int (k : Int)) := by
  rw [rng_n n h, upFrom_range, List.map_map]
  congr 1
  refine List.map_congr_left fun k _ => ?_
  show PyData.int (0 + (k : Int)) = _
  rw [Int.zero_add]
/-- a for by places -/
theorem forL_ix {ck : Sto → Bool} {asg : PyData → Env → Option Env} {b : Env → Sto → R Fl} (I : Nat → Env → Sto → Prop) (n : Nat) (h0 : I 0 ρ S)
    (hs : ∀ i ρ S, i < n → I i ρ S → ∃ ρ1, asg (.int (i : Int)) ρ = some ρ1 ∧ Ok (b ρ1 S) fun fl S1 => ∃ ρ2, fl = .nx ρ2 ∧ ck S1 = true ∧ I (i + 1) ρ2 S1) : Ok (forL ck asg b ((List.range n).map fun (k : Nat) => .int (k : Int)) ρ S) fun fl S' => ∃ ρ', fl = .nx ρ' ∧ I n ρ' S' := by
  have key : ∀ (m i : Nat) (ρ : Env) (S : Sto), i + m = n → I i ρ S → Ok (forL ck asg b ((List.range' i m).map fun (k : Nat) => .int (k : Int)) ρ S) fun fl S' => ∃ ρ', fl = .nx ρ' ∧ I n ρ' S' := by
    intro m
    induction m with
    | zero =>
      intro i ρ S e h
      have : i = n := by omega
      subst this
      exact ⟨ρ, rfl, h⟩
    | succ m ih =>
      intro i ρ S e h
      obtain ⟨ρ1, h1, h2⟩ := hs i ρ S (by omega) h
      rw [List.range'_succ, List.map_cons]
      simp only [forL, h1, Ok_bind]
      refine h2.mono ?_
      rintro fl S1 ⟨ρ2, rfl, hck, hI⟩
      simp only [hck, if_true]
      exact ih (i + 1) ρ2 S1 (by omega) hI
  rw [List.range_eq_range']
  exact key n 0 ρ S (by omega) h0
/-- a for that returns x at the first that p takes -/
theorem forL_any {α : Type} {ck : Sto → Bool} {asg : PyData → Env → Option Env} {b : Env → Sto → R Fl} (g : α → PyData) (p : α → Bool) (x : PyData) (I : Env → Prop) (hck : ck S = true)
    (hs : ∀ a ρ, I ρ → ∃ ρ1, asg (g a) ρ = some ρ1 ∧ (p a = true → b ρ1 S = .ok (.rt x) S) ∧ (p a = false → ∃ ρ2, b ρ1 S = .ok (.nx ρ2) S ∧ I ρ2)) : ∀ (l : List α) (ρ : Env), I ρ →
    (l.any p = true → forL ck asg b (l.map g) ρ S = .ok (.rt x) S) ∧ (l.any p = false → ∃ ρ', forL ck asg b (l.map g) ρ S = .ok (.nx ρ') S ∧ I ρ')
  | [], ρ, h => ⟨fun h => by simp at h, fun _ => ⟨ρ, rfl, h⟩⟩
  | a :: l, ρ, h => by
    obtain ⟨ρ1, h1, h2, h3⟩ := hs a ρ h
    simp only [List.map_cons, forL, h1, List.any_cons]
    cases hp : p a with
    | true => simp [h2 hp]
    | false =>
      obtain ⟨ρ2, h4, h5⟩ := h3 hp
      simp only [h4, R.bind_ok, hck, if_true, Bool.false_or]
      exact forL_any g p x I hck hs l ρ2 h5
theorem slice_initT (xs : List PyData) : slice (.tuple xs) none (some (-1)) = some (.tuple xs.dropLast) := by
  show some (PyData.tuple (cut xs none (some (-1)))) = _
  have : cut xs none (some (-1)) = xs.dropLast := by
    unfold cut
    have h1 : HT.sIx xs.length 0 none = 0 := rfl
    have h2 : HT.sIx xs.length xs.length (some (-1)) = xs.length - 1 := by
      simp [HT.sIx]; omega
    rw [h1, h2, List.dropLast_eq_take]
    simp
  rw [this]
theorem slice_initL (xs : List PyData) : slice (.list xs) none (some (-1)) = some (.list xs.dropLast) := by
  have := slice_initT xs
  simp only [slice, Option.some.injEq, PyData.tuple.injEq] at this
  simp only [slice, this]
theorem slice_tailT (xs : List PyData) : slice (.tuple xs) (some 1) none = some (.tuple xs.tail) := by
  show some (PyData.tuple (cut xs (some 1) none)) = _
  have : cut xs (some 1) none = xs.tail := by
    unfold cut
    cases xs with
    | nil => rfl
    | cons x r =>
      have h1 : HT.sIx (x :: r).length 0 (some 1) = 1 := by simp [HT.sIx]
      have h2 : HT.sIx (x :: r).length (x :: r).length none = r.length + 1 := rfl
      rw [h1, h2]
      simp
  rw [this]
theorem slice_tailL (xs : List PyData) : slice (.list xs) (some 1) none = some (.list xs.tail) := by
  have := slice_tailT xs
  simp only [slice, Option.some.injEq, PyData.tuple.injEq] at this
  simp only [slice, this]
@[simp] theorem ev_sl_init (a : E) : ev F (.sl a .nil (.cons (.u1 .neg (.cst (.int 1))) .nil)) ρ S = (ev F a ρ S).bind fun v S1 => R.opt ((view S1 v).bind fun x => (slice x none (some (-1))).map .d) S1 := by
  simp only [ev, evo, R.bind_ok, view_d, Option.bind_some, u1_neg, Option.map_some, R.opt_some]
@[simp] theorem ev_sl_tail (a : E) : ev F (.sl a (.cons (.cst (.int 1)) .nil) .nil) ρ S = (ev F a ρ S).bind fun v S1 => R.opt ((view S1 v).bind fun x => (slice x (some 1) none).map .d) S1 := by
  simp only [ev, evo, R.bind_ok]
/-- the store with one more list at its end -/
abbrev cd (S : Sto) (xs : List PyData) : Sto := S ++ [⟨true, .lst xs⟩]
/-- what runs to an end with x, and leaves the store -/
theorem fin_of {n : Nat} {r : R Fl} {x : PyData} {S' : Sto} (h : r = .ok (.rt x) S') : fin n r = .ok x (S'.take n) := by rw [h]; rfl
theorem xs_step {c : C} {cs : Cs} {ρ' : Env} {S' : Sto} {r : R Fl} (h : x1 F W c ρ S = .ok (.nx ρ') S') (h2 : xs F W cs ρ' S' = r) : xs F W (.cons c cs) ρ S = r := by
  rw [xs_cons, h]; exact h2
theorem fin_step {n : Nat} {c : C} {cs : Cs} {ρ' : Env} {S' : Sto} {r : R PyData} (h : x1 F W c ρ S = .ok (.nx ρ') S') (h2 : fin n (xs F W cs ρ' S') = r) : fin n (xs F W (.cons c cs) ρ S) = r := by
  rw [xs_cons, h]; exact h2
theorem Ok_eq {α : Type} {r : R α} {Q : α → Sto → Prop} {a : α} {S' : Sto} (h : r = .ok a S') (q : Q a S') : Ok r Q := by rw [h]; exact q
@[simp] theorem x1_set (i : Nat) (e : E) : x1 F W (.set i e) ρ S = (ev F e ρ S).bind fun v S1 => .ok (.nx (ρ.set i (some v))) S1 := by simp only [x1]
theorem index_neg1 {xs : List PyData} {x : PyData} (h : xs.getLast? = some x) : index (.list xs) (.int (-1)) = some x := by
  have hne : xs ≠ [] := by intro e; subst e; simp at h
  have hl : 0 < xs.length := List.length_pos_iff.mpr hne
  show L2.atI xs (-1) = _
  unfold L2.atI L2.ixN
  rw [List.getLast?_eq_getElem?] at h
  rw [if_neg (by omega), if_pos (by omega)]
  have e : ((-1 : Int) + xs.length).toNat = xs.length - 1 := by omega
  simp only [Option.bind_some]
  rw [← h]
  congr 1
/-! ### one statement after the other -/
theorem q_loop {n : Nat} {t : T} {it : It} {b cs : Cs} {l : List PyData} {gs : List Nat} {ρ' : Env} {S' S1 : Sto} {r : R PyData} (h : forL (chk gs S1) (fun x ρ => put t x ρ) (fun ρ S => xs F W b ρ S) l ρ S1 = .ok (.nx ρ') S') (hit : evI F it ρ S = .ok (l, gs) S1) (h2 : fin n (xs F W cs ρ' S') = r) : fin n (xs F W (.cons (.loop t it b) cs) ρ S) = r :=
  fin_step (by rw [x1_loop, hit]; exact h) h2
theorem q_loopR {n : Nat} {t : T} {it : It} {b cs : Cs} {l : List PyData} {gs : List Nat} {x : PyData} {S' S1 : Sto} (h : forL (chk gs S1) (fun x ρ => put t x ρ) (fun ρ S => xs F W b ρ S) l ρ S1 = .ok (.rt x) S') (hit : evI F it ρ S = .ok (l, gs) S1) : fin n (xs F W (.cons (.loop t it b) cs) ρ S) = .ok x (S'.take n) := by
  rw [xs_cons, x1_loop, hit, R.bind_ok]
  show fin n ((forL _ _ _ _ _ _).bind _) = _
  rw [h]
  rfl
theorem q_asg' {n : Nat} {t : T} {e : E} {cs : Cs} (x : PyData) {ρ' : Env} {S' : Sto} {r : R PyData} (h : ev F e ρ S = .ok (.d x) S') (hp : put t x ρ = some ρ') (h2 : fin n (xs F W cs ρ' S') = r) : fin n (xs F W (.cons (.asg t e) cs) ρ S) = r :=
  fin_step (by rw [x1_asg, h]; simp only [R.bind_ok, shut_d, hp, Option.map_some, R.opt_some]) h2
theorem q_asg {n : Nat} {t : T} {e : E} {cs : Cs} (x : PyData) {ρ' : Env} {r : R PyData} (h : ev F e ρ S = .ok (.d x) S) (hp : put t x ρ = some ρ') (h2 : fin n (xs F W cs ρ' S) = r) : fin n (xs F W (.cons (.asg t e) cs) ρ S) = r := q_asg' x h hp h2
theorem q_new {n : Nat} {i : Nat} {e : E} {cs : Cs} (ys : List PyData) {r : R PyData} (h : ev F e ρ S = .ok (.d (.list ys)) S) (h2 : fin n (xs F W cs (ρ.set i (some (.loc S.length))) (S ++ [⟨true, .lst ys⟩])) = r) : fin n (xs F W (.cons (.new i e) cs) ρ S) = r :=
  fin_step (by rw [x1_new, h]; simp only [R.bind_ok, live_list]) h2
theorem q_drop {n : Nat} {e : E} {cs : Cs} {x : PyData} {r : R PyData} (h : ev F e ρ S = .ok (.d x) S) (h2 : fin n (xs F W cs ρ S) = r) : fin n (xs F W (.cons (.drop e) cs) ρ S) = r :=
  fin_step (by rw [x1_drop, h]; simp only [R.bind_ok]) h2
theorem q_ret' {n : Nat} {e : E} {cs : Cs} (x : PyData) {S' : Sto} (h : ev F e ρ S = .ok (.d x) S') : fin n (xs F W (.cons (.ret e) cs) ρ S) = .ok x (S'.take n) := by
  rw [xs_cons, x1_ret, h]
  rfl
theorem q_ret {n : Nat} {e : E} {cs : Cs} (x : PyData) (h : ev F e ρ S = .ok (.d x) S) : fin n (xs F W (.cons (.ret e) cs) ρ S) = .ok x (S.take n) := q_ret' x h
theorem q_tst {c : E} {a b : Cs} {t : Bool} {S' : Sto} (h : ((ev F c ρ S).bind fun v S1 => test S1 v) = .ok t S') : x1 F W (.ite c a b) ρ S = if t then xs F W a ρ S' else xs F W b ρ S' := by
  rw [x1_ite]
  have e : ((ev F c ρ S).bind fun v S1 => (test S1 v).bind fun t S2 => if t then xs F W a ρ S2 else xs F W b ρ S2) = ((ev F c ρ S).bind fun v S1 => test S1 v).bind fun t S2 => if t then xs F W a ρ S2 else xs F W b ρ S2 := by
    cases ev F c ρ S <;> rfl
  rw [e, h]
  rfl
theorem q_no' {n : Nat} {c : E} {a cs : Cs} {S' : Sto} {r : R PyData} (h : ((ev F c ρ S).bind fun v S1 => test S1 v) = .ok false S') (h2 : fin n (xs F W cs ρ S') = r) : fin n (xs F W (.cons (.ite c a .nil) cs) ρ S) = r :=
  fin_step (by
    rw [q_tst h]
    simp) h2
theorem q_no {n : Nat} {c : E} {a cs : Cs} {r : R PyData} (h : ((ev F c ρ S).bind fun v S1 => test S1 v) = .ok false S) (h2 : fin n (xs F W cs ρ S) = r) : fin n (xs F W (.cons (.ite c a .nil) cs) ρ S) = r := q_no' h h2
theorem q_yes {n : Nat} {c : E} {a b cs : Cs} {r : R PyData} (h : ((ev F c ρ S).bind fun v S1 => test S1 v) = .ok true S) (h2 : fin n ((xs F W a ρ S).bind (nxt F W cs)) = r) : fin n (xs F W (.cons (.ite c a b) cs) ρ S) = r := by
  rw [xs_cons, q_tst h]
  exact h2
theorem evI_rlen {a : E} {n : Nat} {S1 : Sto} (h : ev F a ρ S = .ok (.d (.int (n : Int))) S1) (hn : n < 4611686018427387904) : evI F (.rng1 a) ρ S = .ok ((List.range n).map fun (k : Nat) => .int (k : Int), []) S1 := by
  rw [evI_rng1, h, R.bind_ok, intR_int, rng_nat n hn]
  rfl
theorem ev_u1_of {o : U1} {a : E} {x y : PyData} {S1 : Sto} (h : ev F a ρ S = .ok (.d x) S1) (h2 : u1 o x = some y) : ev F (.u1 o a) ρ S = .ok (.d y) S1 := by
  rw [ev_u1, h, R.bind_ok, view_d, Option.bind_some, h2]
  rfl
theorem ev_bin_of {o : B2} {a b : E} {x y z : PyData} {S1 S2 : Sto} (h : ev F a ρ S = .ok (.d x) S1) (h1 : ev F b ρ S1 = .ok (.d y) S2) (h2 : binop o x y = some z) : ev F (.bin o a b) ρ S = .ok (.d z) S2 := by
  rw [ev_bin, h, R.bind_ok, h1, R.bind_ok, view_d, view_d, Option.bind_some, Option.bind_some, h2]
  rfl
theorem ev_call1 {f : Nat} {a : E} {x : Vl} {r : PyData} {T : Sto} (h0 : ev F a ρ S = .ok x S) (h : F f [x] S = .ok r T) : ev F (.call f (.cons a .nil) []) ρ S = .ok (.d r) T := by
  rw [ev_call]
  have e : evs F (.cons a .nil) ρ S = .ok [x] S := by
    simp only [evs_cons, evs_nil, h0, R.bind_ok]
  rw [e, R.bind_ok]
  show ((F f [x] S).bind _) = _
  rw [h]
  rfl
theorem ev_call2 {f : Nat} {a b : E} {x y : Vl} {r : PyData} {T : Sto} (h0 : ev F a ρ S = .ok x S) (h1 : ev F b ρ S = .ok y S) (h : F f [x, y] S = .ok r T) : ev F (.call f (.cons a (.cons b .nil)) []) ρ S = .ok (.d r) T := by
  rw [ev_call]
  have e : evs F (.cons a (.cons b .nil)) ρ S = .ok [x, y] S := by
    simp only [evs_cons, evs_nil, h0, h1, R.bind_ok]
  rw [e, R.bind_ok]
  show ((F f [x, y] S).bind _) = _
  rw [h]
  rfl
theorem ev_call3 {f : Nat} {a b c : E} {x y z : Vl} {r : PyData} {T : Sto} (h0 : ev F a ρ S = .ok x S) (h1 : ev F b ρ S = .ok y S) (h2 : ev F c ρ S = .ok z S) (h : F f [x, y, z] S = .ok r T) : ev F (.call f (.cons a (.cons b (.cons c .nil))) []) ρ S = .ok (.d r) T := by
  rw [ev_call]
  have e : evs F (.cons a (.cons b (.cons c .nil))) ρ S = .ok [x, y, z] S := by
    simp only [evs_cons, evs_nil, h0, h1, h2, R.bind_ok]
  rw [e, R.bind_ok]
  show ((F f [x, y, z] S).bind _) = _
  rw [h]
  rfl
theorem ev_call4 {f : Nat} {a b c d : E} {x y z w : Vl} {r : PyData} {T : Sto} (h0 : ev F a ρ S = .ok x S) (h1 : ev F b ρ S = .ok y S) (h2 : ev F c ρ S = .ok z S) (h3 : ev F d ρ S = .ok w S) (h : F f [x, y, z, w] S = .ok r T) : ev F (.call f (.cons a (.cons b (.cons c (.cons d .nil)))) []) ρ S = .ok (.d r) T := by
  rw [ev_call]
  have e : evs F (.cons a (.cons b (.cons c (.cons d .nil)))) ρ S = .ok [x, y, z, w] S := by
    simp only [evs_cons, evs_nil, h0, h1, h2, h3, R.bind_ok]
  rw [e, R.bind_ok]
  show ((F f [x, y, z, w] S).bind _) = _
  rw [h]
  rfl
theorem take_app (S T : Sto) : (S ++ T).take S.length = S := by simp
end In
/-! part P74 -/
set_option linter.all false
set_option maxRecDepth 100000
set_option maxHeartbeats 1000000
/-! Signals: plain mathematics. -/
namespace P74
open PySem In
abbrev pw (l : List Int) : Prop := l.Pairwise (· < ·)
def cnt (ts : List Int) (t : Int) : Nat := (ts.filter fun x => decide (x ≤ t)).length
def val (b : Int) (ts : List Int) (t : Int) : Int := (b + cnt ts t) % 2
abbrev bit (b : Int) : Prop := b = 0 ∨ b = 1
theorem val_bit (b : Int) (ts : List Int) (t : Int) : bit (val b ts t) := by unfold val bit; omega
theorem cnt_lo {ts : List Int} {t : Int} (h : ∀ x ∈ ts, t < x) : cnt ts t = 0 := by
  unfold cnt
  rw [List.filter_eq_nil_iff.mpr fun x hx => by have := h x hx; simp; omega]
  rfl
theorem val_nil {b : Int} (hb : bit b) (t : Int) : val b [] t = b := by
  unfold val cnt; simp; unfold bit at hb; omega
theorem val_lo {b : Int} {ts : List Int} {t : Int} (hb : bit b) (h : ∀ x ∈ ts, t < x) : val b ts t = b := by
  unfold val
  rw [cnt_lo h]
  unfold bit at hb; omega
theorem val_cons_lo {b u : Int} {us : List Int} {t : Int} (hb : bit b) (h : pw (u :: us)) (ht : t < u) : val b (u :: us) t = b := by
  refine val_lo hb fun x hx => ?_
  rcases List.mem_cons.mp hx with rfl | hx
  · exact ht
  · have := (List.pairwise_cons.mp h).1 x hx; omega
theorem val_cons_hi {b u : Int} {us : List Int} {t : Int} (hb : bit b) (ht : u ≤ t) : val b (u :: us) t = val (1 - b) us t := by
  unfold val cnt
  rw [List.filter_cons, if_pos (by simpa using ht)]
  simp only [List.length_cons]
  unfold bit at hb
  omega
theorem bit_flip {b : Int} (h : bit b) : bit (1 - b) := by unfold bit at *; omega
theorem val_inj : ∀ (ts us : List Int) (b : Int), bit b → pw ts → pw us → (∀ x, val b ts x = val b us x) → ts = us
  | [], [], _, _, _, _, _ => rfl
  | [], u :: us, b, hb, _, h2, h => by
    have := h u
    rw [val_nil hb, val_cons_hi hb (Int.le_refl _), val_lo (bit_flip hb) (List.pairwise_cons.mp h2).1] at this
    unfold bit at hb; omega
  | t :: ts, [], b, hb, h1, _, h => by
    have := h t
    rw [val_nil hb, val_cons_hi hb (Int.le_refl _), val_lo (bit_flip hb) (List.pairwise_cons.mp h1).1] at this
    unfold bit at hb; omega
  | t :: ts, u :: us, b, hb, h1, h2, h => by
    have hf := bit_flip hb
    have e : t = u := by
      rcases Int.lt_trichotomy t u with q | q | q
      · have := h t
        rw [val_cons_lo hb h2 q, val_cons_hi hb (Int.le_refl _), val_lo hf (List.pairwise_cons.mp h1).1] at this
        unfold bit at hb; omega
      · exact q
      · have := h u
        rw [val_cons_lo hb h1 q, val_cons_hi hb (Int.le_refl _), val_lo hf (List.pairwise_cons.mp h2).1] at this
        unfold bit at hb; omega
    subst e
    rw [val_inj ts us (1 - b) hf (List.pairwise_cons.mp h1).2 (List.pairwise_cons.mp h2).2 fun x => by
      by_cases c : t ≤ x
      · have := h x
        rwa [val_cons_hi hb c, val_cons_hi hb c] at this
      · rw [val_lo hf fun y hy => by have := (List.pairwise_cons.mp h1).1 y hy; omega, val_lo hf fun y hy => by have := (List.pairwise_cons.mp h2).1 y hy; omega]]
/-- where the values change -/
def chg : Int → List (Int × Int) → List Int
  | _, [] => []
  | h, (t, v) :: r => if v = h then chg h r else t :: chg v r
theorem chg_mem : ∀ (r : List (Int × Int)) (h : Int), ∀ u ∈ chg h r, ∃ p ∈ r, p.1 = u
  | [], _, u, hu => by simp [chg] at hu
  | (t, v) :: r, h, u, hu => by
    unfold chg at hu
    split at hu
    · obtain ⟨p, hp, e⟩ := chg_mem r h u hu
      exact ⟨p, List.mem_cons_of_mem _ hp, e⟩
    · rcases List.mem_cons.mp hu with rfl | hu
      · exact ⟨_, List.mem_cons_self, rfl⟩
      · obtain ⟨p, hp, e⟩ := chg_mem r v u hu
        exact ⟨p, List.mem_cons_of_mem _ hp, e⟩
theorem chg_pw : ∀ (r : List (Int × Int)) (h : Int), pw (r.map Prod.fst) → pw (chg h r)
  | [], _, _ => by simp [chg]
  | (t, v) :: r, h, hp => by
    have h1 := (List.pairwise_cons.mp hp)
    unfold chg
    split
    · exact chg_pw r h h1.2
    · refine List.pairwise_cons.mpr ⟨fun u hu => ?_, chg_pw r v h1.2⟩
      obtain ⟨p, hp, rfl⟩ := chg_mem r v u hu
      exact h1.1 _ (List.mem_map.mpr ⟨p, hp, rfl⟩)
theorem chg_len : ∀ (r : List (Int × Int)) (h : Int), (chg h r).length ≤ r.length
  | [], _ => Nat.le_refl _
  | (t, v) :: r, h => by
    unfold chg
    split
    · have := chg_len r h; simp; omega
    · have := chg_len r v; simp; omega
theorem const_up {φ : Int → Int} {lo : Int} {P : Int → Prop} (h : ∀ x, lo < x → P x → φ x = φ (x - 1)) : ∀ (n : Nat), (∀ y, lo < y → y ≤ lo + n → P y) → φ (lo + n) = φ lo
  | 0, _ => by simp
  | n + 1, hp => by
    rw [h (lo + (n + 1 : Nat)) (by omega) (hp _ (by omega) (by omega))]
    have e : lo + ((n + 1 : Nat) : Int) - 1 = lo + n := by omega
    rw [e]
    exact const_up h n fun y h1 h2 => hp y h1 (by omega)
theorem const_le {φ : Int → Int} {lo x : Int} {P : Int → Prop} (hx : lo ≤ x) (h : ∀ x, lo < x → P x → φ x = φ (x - 1)) (hp : ∀ y, lo < y → y ≤ x → P y) : φ x = φ lo := by
  have e : x = lo + ((x - lo).toNat : Int) := by omega
  rw [e]
  exact const_up h _ fun y h1 h2 => hp y h1 (by omega)
theorem chg_val (φ : Int → Int) (h01 : ∀ x, bit (φ x)) : ∀ (us : List Int) (lo b : Int), (∀ u ∈ us, lo < u) → pw us → φ lo = b → (∀ x, lo < x → x ∉ us → φ x = φ (x - 1)) → ∀ x, lo ≤ x → val b (chg b (us.map fun u => (u, φ u))) x = φ x
  | [], lo, b, _, _, hb, hs, x, hx => by
    simp only [List.map_nil, chg]
    have := h01 lo
    rw [hb] at this
    rw [val_nil this, ← hb]
    exact (const_le (P := fun _ => True) hx (fun x h _ => hs x h (by simp)) fun _ _ _ => trivial).symm
  | u :: us, lo, b, hl, hp, hb, hs, x, hx => by
    have hlu := hl u List.mem_cons_self
    have hbb : bit b := by have := h01 lo; rwa [hb] at this
    have hp' := List.pairwise_cons.mp hp
    have ih := chg_val φ h01 us u (φ u) hp'.1 hp'.2 rfl fun x hx hn => hs x (by omega) fun hm => by
      rcases List.mem_cons.mp hm with rfl | hm
      · omega
      · exact hn hm
    have low : x < u → φ x = b := fun c => by
      rw [← hb]
      refine const_le (P := fun y => y < u) hx (fun y h1 h2 => hs y h1 fun hm => ?_) fun y h1 h2 => by omega
      rcases List.mem_cons.mp hm with rfl | hm
      · omega
      · have := hp'.1 y hm; omega
    have hm : ∀ v, ∀ y ∈ chg v (us.map fun u => (u, φ u)), u < y := fun v y hy => by
      obtain ⟨p, hp, rfl⟩ := chg_mem _ _ _ hy
      obtain ⟨w, hw, rfl⟩ := List.mem_map.mp hp
      exact hp'.1 w hw
    simp only [List.map_cons, chg]
    by_cases c : φ u = b
    · rw [if_pos c]
      by_cases d : x < u
      · rw [val_lo hbb fun y hy => by have := hm _ y hy; omega, low d]
      · have := ih x (by omega)
        rwa [c] at this
    · rw [if_neg c]
      by_cases d : x < u
      · rw [val_lo hbb fun y hy => ?_, low d]
        rcases List.mem_cons.mp hy with rfl | hy
        · exact d
        · have := hm _ y hy; omega
      · rw [val_cons_hi hbb (by omega)]
        have e : 1 - b = φ u := by
          have := h01 u
          unfold bit at *
          omega
        rw [e]
        exact ih x (by omega)
/-! ### held on -/
def wid (m : Int) : Int → List Int → List Int
  | _, [] => []
  | b, [t] => if b = 1 then [t + m] else [t]
  | b, t :: a :: r => if b = 1 then (if m < a - t then (t + m) :: a :: wid m 1 r else wid m 1 r) else t :: wid m 1 (a :: r)
def Held (m b : Int) (ts : List Int) (x : Int) : Prop := ∃ s, x - m ≤ s ∧ s ≤ x ∧ val b ts s = 1
theorem wid_mem (m : Int) (hm : 0 ≤ m) : ∀ (n : Nat) (ts : List Int) (b : Int), ts.length ≤ n → ∀ u ∈ wid m b ts, ∃ t ∈ ts, t ≤ u ∧ u ≤ t + m
  | _, [], b, _, u, hu => by simp [wid] at hu
  | _, [t], b, _, u, hu => by
    unfold wid at hu
    refine ⟨t, List.mem_cons_self, ?_⟩
    split at hu <;> (simp at hu; omega)
  | 0, t :: a :: r, b, hl, u, hu => by simp at hl
  | n + 1, t :: a :: r, b, hl, u, hu => by
    simp only [List.length_cons] at hl
    have hr := wid_mem m hm n r 1 (by omega)
    have har := wid_mem m hm n (a :: r) 1 (by simp; omega)
    unfold wid at hu
    split at hu
    · split at hu
      · rcases List.mem_cons.mp hu with rfl | hu
        · exact ⟨t, List.mem_cons_self, by omega, by omega⟩
        · rcases List.mem_cons.mp hu with rfl | hu
          · exact ⟨u, by simp, by omega, by omega⟩
          · obtain ⟨q, h1, h2⟩ := hr u hu
            exact ⟨q, by simp [h1], h2⟩
      · obtain ⟨q, h1, h2⟩ := hr u hu
        exact ⟨q, by simp [h1], h2⟩
    · rcases List.mem_cons.mp hu with rfl | hu
      · exact ⟨u, List.mem_cons_self, by omega, by omega⟩
      · obtain ⟨q, h1, h2⟩ := har u hu
        exact ⟨q, List.mem_cons_of_mem _ h1, h2⟩
theorem wid_len (m : Int) : ∀ (n : Nat) (ts : List Int) (b : Int), ts.length ≤ n → (wid m b ts).length ≤ ts.length
  | _, [], b, _ => by simp [wid]
  | _, [t], b, _ => by unfold wid; split <;> simp
  | 0, t :: a :: r, b, hl => by simp at hl
  | n + 1, t :: a :: r, b, hl => by
    simp only [List.length_cons] at hl
    have hr := wid_len m n r 1 (by omega)
    have har := wid_len m n (a :: r) 1 (by simp; omega)
    unfold wid
    split
    · split <;> (simp; omega)
    · simp at har ⊢; omega
theorem wid_pw (m : Int) (hm : 0 ≤ m) : ∀ (n : Nat) (ts : List Int) (b : Int), ts.length ≤ n → pw ts → pw (wid m b ts)
  | _, [], b, _, _ => by simp [wid]
  | _, [t], b, _, _ => by unfold wid; split <;> simp
  | 0, t :: a :: r, b, hl, _ => by simp at hl
  | n + 1, t :: a :: r, b, hl, hp => by
    simp only [List.length_cons] at hl
    have hp1 := List.pairwise_cons.mp hp
    have hp2 := List.pairwise_cons.mp hp1.2
    have hr := wid_pw m hm n r 1 (by omega) hp2.2
    have har := wid_pw m hm n (a :: r) 1 (by simp; omega) hp1.2
    have b1 : ∀ u ∈ wid m 1 r, a < u := fun u hu => by
      obtain ⟨q, h1, h2, _⟩ := wid_mem m hm _ r 1 (Nat.le_refl _) u hu
      have := hp2.1 q h1; omega
    have b2 : ∀ u ∈ wid m 1 (a :: r), t < u := fun u hu => by
      obtain ⟨q, h1, h2, _⟩ := wid_mem m hm _ (a :: r) 1 (Nat.le_refl _) u hu
      have := hp1.1 q h1; omega
    unfold wid
    split
    · split
      · refine List.pairwise_cons.mpr ⟨fun u hu => ?_, List.pairwise_cons.mpr ⟨b1, hr⟩⟩
        rcases List.mem_cons.mp hu with rfl | hu
        · omega
        · have := b1 u hu; omega
      · exact hr
    · exact List.pairwise_cons.mpr ⟨b2, har⟩
theorem wid_val (m : Int) (hm : 0 ≤ m) : ∀ (n : Nat) (ts : List Int) (b : Int), ts.length ≤ n → bit b → pw ts → ∀ x, val b (wid m b ts) x = 1 ↔ Held m b ts x
  | _, [], b, _, hb, _, x => by
    simp only [wid, Held, val_nil hb]
    constructor
    · intro h; exact ⟨x, by omega, by omega, h⟩
    · rintro ⟨_, _, _, h⟩; exact h
  | _, [t], b, _, hb, hp, x => by
    unfold wid Held
    have hf := bit_flip hb
    by_cases c : b = 1
    · subst c
      rw [if_pos rfl]
      constructor
      · intro h
        by_cases d : x < t + m
        · exact ⟨x - m, by omega, by omega, val_cons_lo hb hp (by omega)⟩
        · rw [val_cons_hi hb (by omega), val_nil hf] at h; omega
      · rintro ⟨s, h1, h2, h3⟩
        by_cases d : s < t
        · exact val_cons_lo hb (by simp) (by omega)
        · rw [val_cons_hi hb (by omega), val_nil hf] at h3; omega
    · rw [if_neg c]
      have c0 : b = 0 := by unfold bit at hb; omega
      subst c0
      constructor
      · intro h; exact ⟨x, by omega, by omega, h⟩
      · rintro ⟨s, h1, h2, h3⟩
        by_cases d : s < t
        · rw [val_cons_lo hb hp d] at h3; omega
        · rw [val_cons_hi hb (by omega), val_nil hf]; rfl
  | 0, t :: a :: r, b, hl, _, _, _ => by simp at hl
  | n + 1, t :: a :: r, b, hl, hb, hp, x => by
    simp only [List.length_cons] at hl
    have hp1 := List.pairwise_cons.mp hp
    have hp2 := List.pairwise_cons.mp hp1.2
    have hta : t < a := hp1.1 a List.mem_cons_self
    have b1 : bit 1 := .inr rfl
    have b0 : bit 0 := .inl rfl
    have hr := wid_val m hm n r 1 (by omega) b1 hp2.2
    have har := wid_val m hm n (a :: r) 1 (by simp; omega) b1 hp1.2
    have pr := wid_pw m hm _ r 1 (Nat.le_refl _) hp2.2
    have par := wid_pw m hm _ (a :: r) 1 (Nat.le_refl _) hp1.2
    have m1 : ∀ u ∈ wid m 1 r, a < u := fun u hu => by
      obtain ⟨q, h1, h2, _⟩ := wid_mem m hm _ r 1 (Nat.le_refl _) u hu
      have := hp2.1 q h1; omega
    have m2 : ∀ u ∈ wid m 1 (a :: r), t < u := fun u hu => by
      obtain ⟨q, h1, h2, _⟩ := wid_mem m hm _ (a :: r) 1 (Nat.le_refl _) u hu
      have := hp1.1 q h1; omega
    unfold wid
    by_cases c : b = 1
    · subst c
      rw [if_pos rfl]
      have v1 : ∀ s, s < t → val 1 (t :: a :: r) s = 1 := fun s hs => val_cons_lo b1 hp hs
      have v2 : ∀ s, t ≤ s → s < a → val 1 (t :: a :: r) s = 0 := fun s h1 h2 => by
        rw [val_cons_hi b1 h1]; exact val_cons_lo b0 hp1.2 h2
      have v3 : ∀ s, a ≤ s → val 1 (t :: a :: r) s = val 1 r s := fun s h1 => by
        rw [val_cons_hi b1 (by omega)]; exact val_cons_hi b0 h1
      have v4 : ∀ s, s ≤ a → val 1 r s = 1 := fun s h1 => val_lo b1 fun y hy => by have := hp2.1 y hy; omega
      by_cases g : m < a - t
      · rw [if_pos g]
        have pall : pw ((t + m) :: a :: wid m 1 r) := by
          refine List.pairwise_cons.mpr ⟨fun u hu => ?_, List.pairwise_cons.mpr ⟨m1, pr⟩⟩
          rcases List.mem_cons.mp hu with rfl | hu
          · omega
          · have := m1 u hu; omega
        by_cases d : x < t + m
        · rw [val_cons_lo b1 pall d]
          exact ⟨fun _ => ⟨x - m, by omega, by omega, v1 _ (by omega)⟩, fun _ => rfl⟩
        · rw [val_cons_hi b1 (by omega)]
          show val 0 (a :: wid m 1 r) x = 1 ↔ _
          by_cases d2 : x < a
          · rw [val_cons_lo b0 (List.pairwise_cons.mp pall).2 d2]
            constructor
            · intro h; omega
            · rintro ⟨s, h1, h2, h3⟩
              rw [v2 s (by omega) (by omega)] at h3; omega
          · rw [val_cons_hi b0 (by omega)]
            show val 1 (wid m 1 r) x = 1 ↔ _
            rw [hr x]
            constructor
            · rintro ⟨s, h1, h2, h3⟩
              by_cases k : a ≤ s
              · exact ⟨s, h1, h2, by rw [v3 s k]; exact h3⟩
              · exact ⟨a, by omega, by omega, by rw [v3 a (by omega)]; exact v4 a (by omega)⟩
            · rintro ⟨s, h1, h2, h3⟩
              by_cases k : a ≤ s
              · exact ⟨s, h1, h2, by rw [← v3 s k]; exact h3⟩
              · exact ⟨s, h1, h2, v4 s (by omega)⟩
      · rw [if_neg g, hr x]
        constructor
        · rintro ⟨s, h1, h2, h3⟩
          by_cases k : a ≤ s
          · exact ⟨s, h1, h2, by rw [v3 s k]; exact h3⟩
          · by_cases k2 : s < t
            · exact ⟨s, h1, h2, v1 s k2⟩
            · by_cases k3 : a ≤ x
              · exact ⟨a, by omega, by omega, by rw [v3 a (by omega)]; exact v4 a (by omega)⟩
              · exact ⟨t - 1, by omega, by omega, v1 _ (by omega)⟩
        · rintro ⟨s, h1, h2, h3⟩
          by_cases k : a ≤ s
          · exact ⟨s, h1, h2, by rw [← v3 s k]; exact h3⟩
          · exact ⟨s, h1, h2, v4 s (by omega)⟩
    · rw [if_neg c]
      have c0 : b = 0 := by unfold bit at hb; omega
      subst c0
      have pall : pw (t :: wid m 1 (a :: r)) := List.pairwise_cons.mpr ⟨m2, par⟩
      by_cases d : x < t
      · rw [val_cons_lo b0 pall d]
        constructor
        · intro h; omega
        · rintro ⟨s, h1, h2, h3⟩
          rw [val_cons_lo b0 hp (by omega)] at h3; omega
      · rw [val_cons_hi b0 (by omega)]
        show val 1 (wid m 1 (a :: r)) x = 1 ↔ _
        rw [har x]
        constructor
        · rintro ⟨s, h1, h2, h3⟩
          by_cases k : t ≤ s
          · exact ⟨s, h1, h2, by rw [val_cons_hi b0 k]; exact h3⟩
          · exact ⟨t, by omega, by omega, by rw [val_cons_hi b0 (Int.le_refl _)]; exact val_lo b1 hp1.1⟩
        · rintro ⟨s, h1, h2, h3⟩
          by_cases k : t ≤ s
          · exact ⟨s, h1, h2, by rw [val_cons_hi b0 k] at h3; exact h3⟩
          · rw [val_cons_lo b0 hp (by omega)] at h3; omega
/-! ### spans -/
def spn : Int → Option Int → List Int → List (Option Int × Option Int)
  | b, lo, [] => if b = 1 then [(lo, none)] else []
  | b, lo, t :: r => (if b = 1 then [(lo, some t)] else []) ++ spn (1 - b) (some t) r
def inS (x m : Int) (p : Option Int × Option Int) : Bool := (match p.1 with | none => true | some l => decide (l ≤ x)) && (match p.2 with | none => true | some h => decide (x - m < h))
theorem spn_held (m : Int) (hm : 0 ≤ m) (x : Int) : ∀ (ts : List Int) (b : Int) (lo : Option Int), bit b → pw ts → (∀ l, lo = some l → ∀ t ∈ ts, l < t) → ((spn b lo ts).any (inS x m) = true ↔ ∃ s, x - m ≤ s ∧ s ≤ x ∧ (∀ l, lo = some l → l ≤ s) ∧ val b ts s = 1)
  | [], b, lo, hb, _, _ => by
    unfold spn
    by_cases c : b = 1
    · subst c
      rw [if_pos rfl]
      simp only [List.any_cons, List.any_nil, Bool.or_false, inS, Bool.and_true, val_nil hb]
      cases lo with
      | none => exact ⟨fun _ => ⟨x, by omega, by omega, fun _ h => by simp at h, trivial⟩, fun _ => rfl⟩
      | some l =>
        simp only [decide_eq_true_eq]
        constructor
        · intro h; exact ⟨x, by omega, by omega, fun _ e => by cases e; exact h, trivial⟩
        · rintro ⟨s, _, h2, h3, _⟩
          have := h3 l rfl; omega
    · rw [if_neg c]
      simp only [List.any_nil, val_nil hb]
      constructor
      · intro h; simp at h
      · rintro ⟨_, _, _, _, h⟩; exact absurd h c
  | t :: r, b, lo, hb, hp, hl => by
    have hp1 := List.pairwise_cons.mp hp
    have ih := spn_held m hm x r (1 - b) (some t) (bit_flip hb) hp1.2 fun l e => by cases e; exact hp1.1
    unfold spn
    rw [List.any_append, Bool.or_eq_true, ih]
    have hlt : ∀ l, lo = some l → l < t := fun l e => hl l e t List.mem_cons_self
    constructor
    · rintro (h | ⟨s, h1, h2, h3, h4⟩)
      · split at h
        · rename_i c
          subst c
          simp only [List.any_cons, List.any_nil, Bool.or_false, inS, Bool.and_eq_true, decide_eq_true_eq] at h
          obtain ⟨h1, h2⟩ := h
          cases lo with
          | none =>
            by_cases k : x < t
            · exact ⟨x, by omega, by omega, fun _ e => by simp at e, val_cons_lo hb hp k⟩
            · exact ⟨t - 1, by omega, by omega, fun _ e => by simp at e, val_cons_lo hb hp (by omega)⟩
          | some l =>
            simp only [decide_eq_true_eq] at h1
            have hlt' := hlt l rfl
            by_cases k : x < t
            · exact ⟨x, by omega, by omega, fun _ e => by cases e; omega, val_cons_lo hb hp k⟩
            · exact ⟨t - 1, by omega, by omega, fun _ e => by cases e; omega, val_cons_lo hb hp (by omega)⟩
        · simp at h
      · have := h3 t rfl
        exact ⟨s, h1, h2, fun l e => by have := hlt l e; omega, by rw [val_cons_hi hb this]; exact h4⟩
    · rintro ⟨s, h1, h2, h3, h4⟩
      by_cases k : s < t
      · left
        rw [val_cons_lo hb hp k] at h4
        rw [if_pos h4]
        simp only [List.any_cons, List.any_nil, Bool.or_false, inS, Bool.and_eq_true, decide_eq_true_eq]
        refine ⟨?_, by omega⟩
        cases lo with
        | none => rfl
        | some l => have := h3 l rfl; simp; omega
      · right
        exact ⟨s, h1, h2, fun l e => by cases e; omega, by rw [val_cons_hi hb (by omega)] at h4; exact h4⟩
def heldB (m b : Int) (ts : List Int) (x : Int) : Bool := (spn b none ts).any (inS x m)
theorem heldB_iff {m b : Int} {ts : List Int} {x : Int} (hm : 0 ≤ m) (hb : bit b) (hp : pw ts) : heldB m b ts x = true ↔ Held m b ts x := by
  unfold heldB Held
  rw [spn_held m hm x ts b none hb hp fun l e => by simp at e]
  simp
/-! ### sorted, once each -/
def dd : List Int → List Int → List Int
  | acc, [] => acc
  | acc, t :: r => if t ∈ acc then dd acc r else dd (acc ++ [t]) r
theorem dd_mem : ∀ (l acc : List Int) (x : Int), x ∈ dd acc l ↔ x ∈ acc ∨ x ∈ l
  | [], acc, x => by simp [dd]
  | t :: r, acc, x => by
    unfold dd
    split
    · rename_i h
      rw [dd_mem r acc x]
      constructor
      · rintro (h1 | h1) <;> simp [h1]
      · rintro (h1 | h1)
        · exact .inl h1
        · rcases List.mem_cons.mp h1 with rfl | h1
          · exact .inl h
          · exact .inr h1
    · rw [dd_mem r _ x]
      simp [or_assoc]
theorem dd_nd : ∀ (l acc : List Int), acc.Nodup → (dd acc l).Nodup
  | [], acc, h => by simpa [dd] using h
  | t :: r, acc, h => by
    unfold dd
    split
    · exact dd_nd r acc h
    · rename_i hn
      refine dd_nd r _ ?_
      rw [List.nodup_append]
      exact ⟨h, by simp, fun a ha b hb => by simp at hb; subst hb; intro e; subst e; exact hn ha⟩
theorem dd_len : ∀ (l acc : List Int), (dd acc l).length ≤ acc.length + l.length
  | [], acc => by simp [dd]
  | t :: r, acc => by
    unfold dd
    split
    · have := dd_len r acc; simp; omega
    · have := dd_len r (acc ++ [t]); simp at this ⊢; omega
theorem ins_mem (i : Int) : ∀ (l : List Int) (x : Int), x ∈ insertI i l ↔ x = i ∨ x ∈ l
  | [], x => by simp [insertI]
  | j :: r, x => by
    unfold insertI
    split
    · simp
    · simp only [List.mem_cons, ins_mem i r x]
      constructor
      · rintro (h | h | h) <;> simp [h]
      · rintro (h | h | h) <;> simp [h]
theorem sort_mem : ∀ (l : List Int) (x : Int), x ∈ sortI l ↔ x ∈ l
  | [], x => by simp [sortI]
  | i :: r, x => by simp only [sortI, ins_mem, sort_mem r x, List.mem_cons]
theorem ins_pw (i : Int) : ∀ (l : List Int), pw l → i ∉ l → pw (insertI i l)
  | [], _, _ => by simp [insertI]
  | j :: r, hp, hn => by
    have hp1 := List.pairwise_cons.mp hp
    simp only [List.mem_cons, not_or] at hn
    unfold insertI
    split
    · refine List.pairwise_cons.mpr ⟨fun u hu => ?_, hp⟩
      rcases List.mem_cons.mp hu with rfl | hu
      · omega
      · have := hp1.1 u hu; omega
    · refine List.pairwise_cons.mpr ⟨fun u hu => ?_, ins_pw i r hp1.2 hn.2⟩
      rcases (ins_mem i r u).mp hu with rfl | hu
      · omega
      · exact hp1.1 u hu
theorem sort_pw : ∀ (l : List Int), l.Nodup → pw (sortI l)
  | [], _ => by simp [sortI]
  | i :: r, h => by
    have h1 := List.nodup_cons.mp h
    exact ins_pw i _ (sort_pw r h1.2) fun hm => h1.1 ((sort_mem r i).mp hm)
theorem ins_len (i : Int) : ∀ (l : List Int), (insertI i l).length = l.length + 1
  | [] => rfl
  | j :: r => by
    unfold insertI
    split
    · rfl
    · simp [ins_len i r]
theorem sort_len : ∀ (l : List Int), (sortI l).length = l.length
  | [] => rfl
  | i :: r => by simp [sortI, ins_len, sort_len r]
def srt (l : List Int) : List Int := sortI (dd [] l)
theorem srt_mem (l : List Int) (x : Int) : x ∈ srt l ↔ x ∈ l := by simp [srt, sort_mem, dd_mem]
theorem srt_pw (l : List Int) : pw (srt l) := sort_pw _ (dd_nd _ _ (by simp))
theorem srt_len (l : List Int) : (srt l).length ≤ l.length := by
  unfold srt
  rw [sort_len]
  have := dd_len l []
  simpa using this
def b2i (b : Bool) : Int := if b then 1 else 0
/-- the law's own held on -/
def lawHeld (m b : Int) (ts : List Int) : List Int := if m = 0 then ts else chg b ((srt (ts ++ ts.map (· + m))).map fun x => (x, b2i (heldB m b ts x)))
theorem val_step {b : Int} {ts : List Int} {x : Int} (h : x ∉ ts) : val b ts x = val b ts (x - 1) := by
  unfold val cnt
  rw [List.filter_congr fun y hy => ?_]
  have : y ≠ x := fun e => h (e ▸ hy)
  by_cases c : y ≤ x
  · rw [decide_eq_true c, decide_eq_true (by omega)]
  · rw [decide_eq_false c, decide_eq_false (by omega)]
theorem low_all (l : List Int) (x : Int) : ∃ lo, lo ≤ x ∧ ∀ u ∈ l, lo < u := by
  induction l with
  | nil => exact ⟨x, Int.le_refl _, fun _ h => by simp at h⟩
  | cons a l ih =>
    obtain ⟨lo, h1, h2⟩ := ih
    refine ⟨min lo (a - 1), by omega, fun u hu => ?_⟩
    rcases List.mem_cons.mp hu with rfl | hu
    · omega
    · have := h2 u hu; omega
theorem lawHeld_val {m b : Int} {ts : List Int} (hm : 0 ≤ m) (hb : bit b) (hp : pw ts) (x : Int) : val b (lawHeld m b ts) x = 1 ↔ Held m b ts x := by
  unfold lawHeld
  by_cases c : m = 0
  · rw [if_pos c]
    subst c
    unfold Held
    constructor
    · intro h; exact ⟨x, by omega, by omega, h⟩
    · rintro ⟨s, h1, h2, h3⟩
      have : s = x := by omega
      rwa [this] at h3
  · rw [if_neg c]
    have h01 : ∀ x, bit (b2i (heldB m b ts x)) := fun x => by unfold b2i bit; split <;> simp
    obtain ⟨lo, hlx, hlo⟩ := low_all (ts ++ ts.map (· + m)) x
    have e := chg_val (fun x => b2i (heldB m b ts x)) h01 (srt (ts ++ ts.map (· + m))) lo b (fun u hu => hlo u ((srt_mem _ _).mp hu)) (srt_pw _) ?_ ?_ x hlx
    · rw [e]
      rw [← heldB_iff hm hb hp]
      simp only [b2i]
      split <;> simp_all
    · have hall : ∀ y ≤ lo, val b ts y = b := fun y hy => val_lo hb fun t ht => by
        have := hlo t (List.mem_append_left _ ht); omega
      by_cases d : b = 1
      · have : heldB m b ts lo = true := (heldB_iff hm hb hp).mpr ⟨lo, by omega, by omega, by rw [hall lo (by omega)]; exact d⟩
        show b2i (heldB m b ts lo) = b
        rw [this, d]
        rfl
      · have : ¬ heldB m b ts lo = true := fun h => by
          obtain ⟨s, h1, h2, h3⟩ := (heldB_iff hm hb hp).mp h
          rw [hall s h2] at h3
          exact d h3
        simp only [b2i, this]
        unfold bit at hb
        simp
        omega
    · intro y hy hn
      have hn' : y ∉ ts ++ ts.map (· + m) := fun h => hn ((srt_mem _ _).mpr h)
      simp only [List.mem_append, not_or] at hn'
      have hn2 : y - m ∉ ts := fun h => hn'.2 (List.mem_map.mpr ⟨y - m, h, by omega⟩)
      have v1 := val_step (b := b) hn'.1
      have v2 := val_step (b := b) hn2
      have : (heldB m b ts y = true) = (heldB m b ts (y - 1) = true) := by
        rw [heldB_iff hm hb hp, heldB_iff hm hb hp]
        refine propext ⟨?_, ?_⟩
        · rintro ⟨s, h1, h2, h3⟩
          by_cases k : s = y
          · subst k
            exact ⟨s - 1, by omega, by omega, by rw [← v1]; exact h3⟩
          · exact ⟨s, by omega, by omega, h3⟩
        · rintro ⟨s, h1, h2, h3⟩
          by_cases k : s = y - m - 1
          · subst k
            exact ⟨y - m, by omega, by omega, by rw [v2]; exact h3⟩
          · exact ⟨s, by omega, by omega, h3⟩
      show b2i _ = b2i _
      unfold b2i
      simp only [this]
theorem lawHeld_pw {m b : Int} {ts : List Int} (hp : pw ts) : pw (lawHeld m b ts) := by
  unfold lawHeld
  split
  · exact hp
  · refine chg_pw _ _ ?_
    rw [List.map_map]
    have : (Prod.fst ∘ fun x => (x, b2i (heldB m b ts x))) = id := rfl
    rw [this, List.map_id]
    exact srt_pw _
theorem wid_law {m b : Int} {ts : List Int} (hm : 0 ≤ m) (hb : bit b) (hp : pw ts) : wid m b ts = lawHeld m b ts := by
  refine val_inj _ _ b hb (wid_pw m hm _ ts b (Nat.le_refl _) hp) (lawHeld_pw hp) fun x => ?_
  have h1 := wid_val m hm _ ts b (Nat.le_refl _) hb hp x
  have h2 := lawHeld_val (x := x) hm hb hp
  have a1 := val_bit b (wid m b ts) x
  have a2 := val_bit b (lawHeld m b ts) x
  have := h1.trans h2.symm
  unfold bit at a1 a2
  omega
theorem wid_add {w m b : Int} {ts : List Int} (hw : 0 ≤ w) (hm : 0 ≤ m) (hb : bit b) (hp : pw ts) : wid m b (wid w b ts) = lawHeld (w + m) b ts := by
  have pw1 := wid_pw w hw _ ts b (Nat.le_refl _) hp
  refine val_inj _ _ b hb (wid_pw m hm _ _ b (Nat.le_refl _) pw1) (lawHeld_pw hp) fun x => ?_
  have h1 := wid_val m hm _ (wid w b ts) b (Nat.le_refl _) hb pw1 x
  have h2 := lawHeld_val (m := w + m) (x := x) (by omega) hb hp
  have h3 : Held m b (wid w b ts) x ↔ Held (w + m) b ts x := by
    constructor
    · rintro ⟨s, k1, k2, k3⟩
      obtain ⟨s', q1, q2, q3⟩ := (wid_val w hw _ ts b (Nat.le_refl _) hb hp s).mp k3
      exact ⟨s', by omega, by omega, q3⟩
    · rintro ⟨s, k1, k2, k3⟩
      by_cases c : x - m ≤ s
      · exact ⟨s, c, k2, (wid_val w hw _ ts b (Nat.le_refl _) hb hp s).mpr ⟨s, by omega, by omega, k3⟩⟩
      · exact ⟨x - m, by omega, by omega, (wid_val w hw _ ts b (Nat.le_refl _) hb hp _).mpr ⟨s, by omega, by omega, k3⟩⟩
  have a1 := val_bit b (wid m b (wid w b ts)) x
  have a2 := val_bit b (lawHeld (w + m) b ts) x
  have := h1.trans (h3.trans h2.symm)
  unfold bit at a1 a2
  omega
/-! ### neighbours -/
def prs : List Int → List (Int × Int)
  | a :: b :: r => (a, b) :: prs (b :: r)
  | _ => []
/-- how long between p and q it is 1 -/
def lenOn : Int → List Int → Int → Int → Int
  | b, [], p, q => if b = 1 then q - p else 0
  | b, t :: r, p, q => if t ≤ p then lenOn (1 - b) r p q else if q ≤ t then (if b = 1 then q - p else 0) else (if b = 1 then t - p else 0) + lenOn (1 - b) r t q
def sumOn (b : Int) (ts : List Int) (l : List Int) : Int := (((prs l).filter fun p => decide (val b ts p.1 = 1)).map fun p => p.2 - p.1).sum
theorem sumOn_congr {b b' : Int} {ts ts' : List Int} : ∀ (l : List Int), (∀ x ∈ l, val b ts x = val b' ts' x) → sumOn b ts l = sumOn b' ts' l
  | [], _ => rfl
  | [_], _ => rfl
  | x :: y :: r, h => by
    have ih := sumOn_congr (y :: r) fun z hz => h z (List.mem_cons_of_mem _ hz)
    unfold sumOn at ih ⊢
    simp only [prs, List.filter_cons, h x List.mem_cons_self]
    split
    · simp only [List.map_cons, List.sum_cons, ih]
    · exact ih
theorem sumOn_two (b : Int) (ts : List Int) (x y : Int) (r : List Int) : sumOn b ts (x :: y :: r) = (if val b ts x = 1 then y - x else 0) + sumOn b ts (y :: r) := by
  unfold sumOn
  simp only [prs, List.filter_cons]
  by_cases c : val b ts x = 1
  · simp [c]
  · simp [c]
abbrev mid (p q : Int) (ts : List Int) : List Int := ts.filter fun t => decide (p < t) && decide (t < q)
theorem sumOn_lenOn : ∀ (ts : List Int) (b p q : Int), bit b → pw ts → p ≤ q → sumOn b ts (p :: (mid p q ts ++ [q])) = lenOn b ts p q
  | [], b, p, q, hb, _, _ => by
    show sumOn b [] [p, q] = _
    rw [sumOn_two, val_nil hb]
    show _ + 0 = _
    unfold lenOn; simp
  | t :: r, b, p, q, hb, hp, hpq => by
    have hp1 := List.pairwise_cons.mp hp
    have hf := bit_flip hb
    unfold lenOn
    by_cases c1 : t ≤ p
    · rw [if_pos c1]
      have e : mid p q (t :: r) = mid p q r := by
        simp only [mid, List.filter_cons]
        rw [if_neg (by simp; omega)]
      rw [e, ← sumOn_lenOn r (1 - b) p q hf hp1.2 hpq]
      refine sumOn_congr _ fun x hx => val_cons_hi hb ?_
      rcases List.mem_cons.mp hx with rfl | hx
      · exact c1
      · rcases List.mem_append.mp hx with hx | hx
        · have := (List.mem_filter.mp hx).2; simp at this; omega
        · simp at hx; omega
    · rw [if_neg c1]
      by_cases c2 : q ≤ t
      · rw [if_pos c2]
        have e : mid p q (t :: r) = [] := List.filter_eq_nil_iff.mpr fun x hx => by
          rcases List.mem_cons.mp hx with rfl | hx
          · simp; omega
          · have := hp1.1 x hx; simp; omega
        rw [e]
        show sumOn b (t :: r) [p, q] = _
        rw [sumOn_two, val_cons_lo hb hp (by omega)]
        show _ + 0 = _
        simp
      · rw [if_neg c2]
        have e : mid p q (t :: r) = t :: mid t q r := by
          simp only [mid, List.filter_cons]
          rw [if_pos (by simp; omega)]
          congr 1
          refine List.filter_congr fun x hx => ?_
          have := hp1.1 x hx
          rw [decide_eq_true (by omega : p < x), decide_eq_true this]
        rw [e]
        show sumOn b (t :: r) (p :: t :: (mid t q r ++ [q])) = _
        rw [sumOn_two, val_cons_lo hb hp (by omega), ← sumOn_lenOn r (1 - b) t q hf hp1.2 (by omega)]
        congr 1
        refine sumOn_congr _ fun x hx => val_cons_hi hb ?_
        rcases List.mem_cons.mp hx with rfl | hx
        · omega
        · rcases List.mem_append.mp hx with hx | hx
          · have := (List.mem_filter.mp hx).2; simp at this; omega
          · simp at hx; omega
def cutLen (p q : Int) (s : Option Int × Option Int) : Int := max 0 ((match s.2 with | none => q | some h => min q h) - (match s.1 with | none => p | some l => max p l))
def spanLen (p q : Int) (l : List (Option Int × Option Int)) : Int := (l.map (cutLen p q)).sum
def fromLo (p : Int) : Option Int → Int
  | none => p
  | some l => max p l
theorem spn_zero : ∀ (ts : List Int) (b l p q : Int), q ≤ l → (∀ t ∈ ts, q ≤ t) → spanLen p q (spn b (some l) ts) = 0
  | [], b, l, p, q, h, _ => by
    unfold spn spanLen
    split
    · simp [cutLen]; omega
    · rfl
  | t :: r, b, l, p, q, h, ht => by
    have ih := spn_zero r (1 - b) t p q (ht t List.mem_cons_self) fun x hx => ht x (List.mem_cons_of_mem _ hx)
    unfold spanLen at ih ⊢
    unfold spn
    rw [List.map_append, List.sum_append, ih]
    split
    · simp [cutLen]; omega
    · rfl
theorem spn_lenOn : ∀ (ts : List Int) (b : Int) (lo : Option Int) (p q : Int), pw ts → (∀ l, lo = some l → ∀ t ∈ ts, l < t) → fromLo p lo ≤ q → spanLen p q (spn b lo ts) = lenOn b ts (fromLo p lo) q
  | [], b, lo, p, q, _, _, h => by
    unfold spn spanLen lenOn
    split
    · cases lo <;> (simp only [fromLo] at h; simp [cutLen, fromLo]; omega)
    · rfl
  | t :: r, b, lo, p, q, hp, hl, h => by
    have hp1 := List.pairwise_cons.mp hp
    have hlt : ∀ l, lo = some l → l < t := fun l e => hl l e t List.mem_cons_self
    have ih := spn_lenOn r (1 - b) (some t) p q hp1.2 fun l e => by cases e; exact hp1.1
    have z := spn_zero r (1 - b) t p q
    unfold spn lenOn
    have e0 : spanLen p q ((if b = 1 then [(lo, some t)] else []) ++ spn (1 - b) (some t) r) = (if b = 1 then cutLen p q (lo, some t) else 0) + spanLen p q (spn (1 - b) (some t) r) := by
      unfold spanLen
      rw [List.map_append, List.sum_append]
      split <;> simp
    rw [e0]
    by_cases c1 : t ≤ fromLo p lo
    · rw [if_pos c1]
      have e1 : fromLo p (some t) = fromLo p lo := by
        cases lo with
        | none => simp only [fromLo] at c1 ⊢; omega
        | some l => have := hlt l rfl; simp only [fromLo] at c1 ⊢; omega
      rw [ih (by rw [e1]; exact h), e1]
      have e2 : cutLen p q (lo, some t) = 0 := by
        cases lo <;> (simp only [fromLo] at c1 h; simp only [cutLen]; omega)
      rw [e2]
      simp
    · rw [if_neg c1]
      by_cases c2 : q ≤ t
      · rw [if_pos c2, z c2 fun x hx => by have := hp1.1 x hx; omega]
        have e2 : cutLen p q (lo, some t) = q - fromLo p lo := by
          cases lo <;> (simp only [fromLo] at c1 h ⊢; simp only [cutLen]; omega)
        rw [e2]; simp
      · rw [if_neg c2]
        have e1 : fromLo p (some t) = t := by
          cases lo with
          | none => simp only [fromLo] at c1 ⊢; omega
          | some l => simp only [fromLo] at c1 ⊢; omega
        rw [ih (by rw [e1]; omega), e1]
        have e2 : cutLen p q (lo, some t) = t - fromLo p lo := by
          cases lo <;> (simp only [fromLo] at c1 h ⊢; simp only [cutLen]; omega)
        rw [e2]
theorem lenOn_bd : ∀ (ts : List Int) (b p q : Int), p ≤ q → 0 ≤ lenOn b ts p q ∧ lenOn b ts p q ≤ q - p
  | [], b, p, q, h => by unfold lenOn; split <;> omega
  | t :: r, b, p, q, h => by
    unfold lenOn
    split
    · exact lenOn_bd r _ p q h
    · split
      · split <;> omega
      · have := lenOn_bd r (1 - b) t q (by omega)
        split <;> omega
/-- the law's total and the program's measure -/
theorem total_ok {ts : List Int} {b p q : Int} (hb : bit b) (hp : pw ts) (h : p ≤ q) : spanLen p q (spn b none ts) = sumOn b ts (p :: (mid p q ts ++ [q])) := by
  rw [sumOn_lenOn ts b p q hb hp h]
  exact spn_lenOn ts b none p q hp (fun l e => by simp at e) h
end P74
/-! part M74a -/
set_option linter.all false
set_option maxRecDepth 100000
set_option maxHeartbeats 1000000
/-! What the program's own defs compute. -/
namespace M74
open PySem In Tx P74
def isInt : PyData → Bool
  | .int _ => true
  | _ => false
theorem f0 (k : Nat) (x : PyData) (S : Sto) : callAt fns W (k + 1) 0 [.d x] S = .ok (.bool (isInt x)) S := by
  rw [r_0]
  cases x <;> simp [b_0, In.isType, isInt, In.truthy]
def inR (lo hi : Int) : PyData → Bool
  | .int i => decide (lo ≤ i) && decide (i ≤ hi)
  | _ => false
theorem f1 (k : Nat) (x : PyData) (lo hi : Int) (S : Sto) : callAt fns W (k + 2) 1 [.d x, .d (.int lo), .d (.int hi)] S = .ok (.bool (inR lo hi x)) S := by
  rw [r_1]
  have h := f0 k x S
  cases x with
  | int i =>
    by_cases c : lo ≤ i <;> simp [b_1, h, isInt, inR, c]
  | _ => simp [b_1, h, isInt, inR]
/-- a signal -/
abbrev iL (ts : List Int) : List PyData := ts.map .int
abbrev sg (b : Int) (ts : List Int) : PyData := .tuple [.int b, .tuple (iL ts)]
structure OkS (b : Int) (ts : List Int) : Prop where
  bit : bit b
  len : ts.length ≤ 40
  lim : ∀ t ∈ ts, -1000000 ≤ t ∧ t ≤ 1000000
  pw : pw ts
@[simp] theorem ix0 (x : PyData) (xs : List PyData) : index (.tuple (x :: xs)) (.int 0) = some x := (index_nat (i := 0) (by rfl)).2
@[simp] theorem ix1 (x y : PyData) (xs : List PyData) : index (.tuple (x :: y :: xs)) (.int 1) = some y := (index_nat (i := 1) (by rfl)).2
abbrev pr (p : Int × Int) : PyData := .tuple [.int p.1, .int p.2]
theorem zip_prs : ∀ ts : List Int, zipL (iL ts).dropLast (iL ts).tail = (prs ts).map pr
  | [] => rfl
  | [_] => rfl
  | a :: b :: r => by
    have ih := zip_prs (b :: r)
    simp only [iL, List.map_cons, List.dropLast_cons₂, List.tail_cons, zipL, prs] at ih ⊢
    rw [← ih]
theorem prs_mem : ∀ (ts : List Int), pw ts → ∀ p ∈ prs ts, p.1 < p.2 ∧ p.1 ∈ ts ∧ p.2 ∈ ts
  | [], _, _, h => by simp [prs] at h
  | [_], _, _, h => by simp [prs] at h
  | a :: b :: r, hp, p, h => by
    have hp1 := List.pairwise_cons.mp hp
    simp only [prs] at h
    rcases List.mem_cons.mp h with rfl | h
    · exact ⟨hp1.1 b List.mem_cons_self, by simp, by simp⟩
    · obtain ⟨h1, h2, h3⟩ := prs_mem (b :: r) hp1.2 p h
      exact ⟨h1, List.mem_cons_of_mem _ h2, List.mem_cons_of_mem _ h3⟩
theorem prs_len : ∀ (ts : List Int), (prs ts).length ≤ ts.length
  | [] => by simp [prs]
  | [_] => by simp [prs]
  | a :: b :: r => by
    have := prs_len (b :: r)
    simp only [prs, List.length_cons] at this ⊢
    omega
theorem isT (xs : List PyData) : In.isType (.tuple xs) "tuple" = some true := by simp [In.isType]
theorem f2 (k : Nat) {b : Int} {ts : List Int} (h : OkS b ts) (S : Sto) : callAt fns W (k + 3) 2 [.d (sg b ts)] S = .ok (.bool true) S := by
  rw [r_2]
  have h1 := f1 k (.int b) 0 1 S
  have hb : inR 0 1 (.int b) = true := by have := h.bit; simp only [inR]; unfold P74.bit at this; simp; omega
  have l1 : ¬ (40 : Int) < ts.length := by have := h.len; omega
  have e1 : ev (callAt fns W (k + 2)) (.lc [1] (.nm 1) (.e (.ix (.var 0) (.cst (.int 1)))) .nil (.call 1 (.cons (.var 1) (.cons (.u1 .neg (.cst (.int 1000000))) (.cons (.cst (.int 1000000)) .nil))) [])) [some (.d (sg b ts)), none, none, none] S = .ok (.d (.list (ts.map fun t => .bool (inR (-1000000) 1000000 (.int t))))) S := by
    refine ev_lc0 (gs := []) PyData.int _ (by simp) (by have := h.len; simp only [cap]; omega) fun a ha => ⟨_, rfl, ?_⟩
    simp [wipe, f1]
  have e2 : ev (callAt fns W (k + 2)) (.lc [2, 3] (.tp (.cons (.nm 2) (.cons (.nm 3) .nil))) (.zip (.sl (.ix (.var 0) (.cst (.int 1))) .nil (.cons (.u1 .neg (.cst (.int 1))) .nil)) (.sl (.ix (.var 0) (.cst (.int 1))) (.cons (.cst (.int 1)) .nil) .nil)) .nil (.cmp .lt (.var 2) (.var 3))) [some (.d (sg b ts)), none, none, none] S = .ok (.d (.list ((prs ts).map fun p => .bool (decide (p.1 < p.2))))) S := by
    refine ev_lc0 (gs := []) pr _ (by simp [slice_initT, slice_tailT, zip_prs]) (by have := h.len; have := prs_len ts; simp only [cap]; omega) fun a ha => ⟨_, by simp [wipe]; rfl, ?_⟩
    simp
  have a1 : u1 .all (.list (ts.map fun t => .bool (inR (-1000000) 1000000 (.int t)))) = some (.bool true) := by
    have := u1_all (ts.map fun t => inR (-1000000) 1000000 (.int t))
    rw [List.map_map] at this
    rw [show (ts.map fun t => PyData.bool (inR (-1000000) 1000000 (.int t))) = ts.map (PyData.bool ∘ fun t => inR (-1000000) 1000000 (.int t)) from rfl, this]
    congr 2
    simp only [List.all_map, List.all_eq_true]
    intro t ht
    have := h.lim t ht
    simp [inR]; omega
  have a2 : u1 .all (.list ((prs ts).map fun p => .bool (decide (p.1 < p.2)))) = some (.bool true) := by
    have := u1_all ((prs ts).map fun p => decide (p.1 < p.2))
    rw [List.map_map] at this
    rw [show ((prs ts).map fun p => PyData.bool (decide (p.1 < p.2))) = (prs ts).map (PyData.bool ∘ fun p => decide (p.1 < p.2)) from rfl, this]
    congr 2
    simp only [List.all_map, List.all_eq_true]
    intro p hp
    have := (prs_mem ts h.pw p hp).1
    simpa using this
  simp [b_2, isT, h1, hb, l1, e1, e2, a1, a2]
theorem f3 (k : Nat) {b : Int} {ts : List Int} (h : OkS b ts) (r : PyData) (S : Sto) : callAt fns W (k + 4) 3 [.d (sg b ts), .d r] S = .ok .none S := by
  rw [r_3]
  simp [b_3, f2 k h S]
/-- no signal -/
def Bad (x : PyData) : Prop := ∀ k S, callAt fns W (k + 3) 2 [.d x] S = .ok (.bool false) S
theorem f3b (k : Nat) {x : PyData} (h : Bad x) (r : PyData) (S : Sto) : callAt fns W (k + 4) 3 [.d x, .d r] S = .ex "ArgumentError" r S := by
  rw [r_3]
  simp [b_3, h k S]
theorem f4 (k : Nat) (b t : Int) (ts : List Int) (S : Sto) (hl : ts.length ≤ 1000) : callAt fns W (k + 1) 4 [.d (sg b ts), .d (.int t)] S = .ok (.int (val b ts t)) S := by
  rw [r_4]
  have h1 : ev (callAt fns W k) (.lc [2] (.nm 2) (.e (.ix (.var 0) (.cst (.int 1)))) (.cons (.cmp .le (.var 2) (.var 1)) .nil) (.var 2)) [some (.d (sg b ts)), some (.d (.int t)), none] S = .ok (.d (.list ((ts.filter fun x => decide (x ≤ t)).map .int))) S := by
    refine ev_lc PyData.int _ _ (gs := []) (by simp) (by simp only [cap]; omega) fun a ha => ⟨_, rfl, ?_, fun _ => ?_⟩
    · simp [wipe]
    · simp [wipe]
  simp [b_4, h1, mod_two, val, cnt]
theorem f30 (k : Nat) (b t : Int) (ts : List Int) (S : Sto) (hl : ts.length ≤ 1000) : callAt fns W (k + 1) 30 [.d (sg b ts), .d (.int t)] S = .ok (.int (val b ts t)) S := by
  rw [r_30]
  have h1 : ev (callAt fns W k) (.lc [2] (.nm 2) (.e (.ix (.var 0) (.cst (.int 1)))) (.cons (.cmp .le (.var 2) (.var 1)) .nil) (.var 2)) [some (.d (sg b ts)), some (.d (.int t)), none] S = .ok (.d (.list ((ts.filter fun x => decide (x ≤ t)).map .int))) S := by
    refine ev_lc PyData.int _ _ (gs := []) (by simp) (by simp only [cap]; omega) fun a ha => ⟨_, rfl, ?_, fun _ => ?_⟩
    · simp [wipe]
    · simp [wipe]
  simp [b_30, h1, mod_two, val, cnt]
abbrev lim (t : Int) : Prop := -1000000 ≤ t ∧ t ≤ 1000000
theorem f5 (k : Nat) {b t : Int} {ts : List Int} (h : OkS b ts) (ht : lim t) (S : Sto) : callAt fns W (k + 5) 5 [.d (sg b ts), .d (.int t)] S = .ok (.int (val b ts t)) S := by
  rw [r_5]
  have h1 : inR (-1000000) 1000000 (.int t) = true := by simp [inR]; omega
  simp [b_5, f3 k h, f1, h1, f4 _ b t ts S (by have := h.len; omega)]
/-- what is in no range -/
def NoR (lo hi : Int) (x : PyData) : Prop := inR lo hi x = false
theorem f5b (k : Nat) {b : Int} {ts : List Int} (h : OkS b ts) {x : PyData} (hx : inR (-1000000) 1000000 x = false) (S : Sto) : callAt fns W (k + 5) 5 [.d (sg b ts), .d x] S = .ex "ArgumentError" (.str "time") S := by
  rw [r_5]
  simp [b_5, f3 k h, f1, hx]
theorem f7 (k : Nat) {b : Int} {ts : List Int} (h : OkS b ts) (S : Sto) : callAt fns W (k + 5) 7 [.d (sg b ts)] S = .ok (sg (1 - b) ts) S := by
  rw [r_7]
  simp [b_7, f3 k h]
theorem f8 (k : Nat) {w : Int} (h1 : 0 ≤ w) (h2 : w ≤ 1000000) (r : PyData) (S : Sto) : callAt fns W (k + 3) 8 [.d (.int w), .d r] S = .ok .none S := by
  rw [r_8]
  have h1 : inR 0 1000000 (.int w) = true := by simp [inR]; omega
  simp [b_8, f1, h1]
theorem f8b (k : Nat) {x : PyData} (h : inR 0 1000000 x = false) (r : PyData) (S : Sto) : callAt fns W (k + 3) 8 [.d x, .d r] S = .ex "ArgumentError" r S := by
  rw [r_8]
  simp [b_8, f1, h]
theorem f9 (k : Nat) {b w : Int} {ts : List Int} (h : OkS b ts) (h1 : 0 ≤ w) (h2 : w ≤ 1000000) (S : Sto) : callAt fns W (k + 5) 9 [.d (sg b ts), .d (.int w)] S = .ok (sg b (ts.map (· + w))) S := by
  rw [r_9]
  have e1 : ev (callAt fns W (k + 4)) (.lc [2] (.nm 2) (.e (.ix (.var 0) (.cst (.int 1)))) .nil (.bin .add (.var 2) (.var 1))) [some (.d (sg b ts)), some (.d (.int w)), none] S = .ok (.d (.list (ts.map fun t => .int (t + w)))) S := by
    refine ev_lc0 (gs := []) PyData.int _ (by simp) (by have := h.len; simp only [cap]; omega) fun a ha => ⟨_, rfl, ?_⟩
    simp [wipe]
  simp [b_9, f3 k h, f8 (k + 1) h1 h2, e1]
theorem f9b (k : Nat) {b : Int} {ts : List Int} (h : OkS b ts) {x : PyData} (hx : inR 0 1000000 x = false) (S : Sto) : callAt fns W (k + 5) 9 [.d (sg b ts), .d x] S = .ex "ArgumentError" (.str "wait") S := by
  rw [r_9]
  simp [b_9, f3 k h, f8b (k + 1) hx]
/-- rows of times and values under construction -/
theorem f6v (k : Nat) (b : Int) (rows : List (Int × Int)) (hl : rows.length ≤ 1000) (S : Sto) (v : Vl) (hv : view (cl S []) v = some (.list (rows.map pr))) (hc : ∀ ds, chk (guard v) (cl S []) (cl S ds) = true) : callAt fns W (k + 1) 6 [.d (.int b), v] S = .ok (sg b (chg b rows)) S := by
  rw [r_6]
  have loop := (forL_ok (ck := chk (guard v) (cl S [])) (asg := fun x ρ => put (.tp (.cons (.nm 4) (.cons (.nm 5) .nil))) x ρ) (b := fun ρ S => xs (callAt fns W k) W (.cons (.ite (.cmp .ne (.var 5) (.var 3)) (.cons (.app (.var 2) (.var 4)) (.cons (.asg (.nm 3) (.var 5)) .nil)) .nil) .nil) ρ S) pr (fun l ρ S' => ∃ (h : Int) (ds : List Int) (u v' : Option Vl), ρ = [some (.d (.int b)), some v, some (.loc S.length), some (.d (.int h)), u, v'] ∧ S' = cl S ds ∧ ds ++ chg h l = chg b rows ∧ ds.length + l.length ≤ 1000) rows _ _ ⟨b, [], none, none, rfl, rfl, rfl, by simpa using hl⟩ ?_).get
  · obtain ⟨fl, S', e, ρ', rfl, h, ds, u, v', rfl, rfl, h1, h2⟩ := loop
    simp only [chg, List.append_nil] at h1
    subst h1
    rw [b_6]
    refine q_new [] (by simp) ?_
    refine q_asg (.int b) (by simp) rfl ?_
    refine q_loop e (by simp [evI, hv, cl] at hv ⊢; simp [hv]) ?_
    rw [q_ret (sg b (chg b rows)) (by simp)]
    simp
  · rintro ⟨t, w⟩ l ρ S' ⟨h, ds, u, v', rfl, rfl, h1, h2⟩
    simp only [List.length_cons] at h2
    refine ⟨_, by simp; rfl, ?_⟩
    by_cases c : w = h
    · refine Ok_eq (a := .nx _) (S' := cl S ds) (by simp [c]; exact ⟨rfl, rfl⟩) ⟨_, rfl, hc _, h, ds, _, _, rfl, rfl, ?_, by omega⟩
      rw [← h1, chg, if_pos c]
    · have hlt : ds.length < 16777216 := by omega
      refine Ok_eq (a := .nx _) (S' := cl S (ds ++ [t])) (by simp [c, hlt]; exact ⟨rfl, rfl⟩) ⟨_, rfl, hc _, w, ds ++ [t], _, _, rfl, rfl, ?_, by simp; omega⟩
      rw [← h1]
      simp only [chg, if_neg c, List.append_assoc, List.cons_append, List.nil_append]
theorem f6 (k : Nat) (b : Int) (rows : List (Int × Int)) (hl : rows.length ≤ 1000) (S : Sto) : callAt fns W (k + 1) 6 [.d (.int b), .d (.list (rows.map pr))] S = .ok (sg b (chg b rows)) S := f6v k b rows hl S _ rfl fun _ => rfl
theorem f6l (k : Nat) (b : Int) (rows : List (Int × Int)) (hl : rows.length ≤ 1000) (S : Sto) (n : Nat) (hn : S[n]? = some ⟨true, .lst (rows.map pr)⟩) : callAt fns W (k + 1) 6 [.d (.int b), .loc n] S = .ok (sg b (chg b rows)) S := by
  have hlt : n < S.length := (List.getElem?_eq_some_iff.mp hn).1
  refine f6v k b rows hl S _ ?_ fun ds => ?_
  · simp [List.getElem?_append_left hlt, hn]
  · show ([n].all fun n => decide ((cl S ds)[n]? = (cl S [])[n]?)) = true
    simp [List.getElem?_append_left hlt]
end M74
/-! part M74b -/
set_option linter.all false
set_option maxRecDepth 100000
set_option maxHeartbeats 1000000
/-! Signals joined, filtered, held. -/
namespace M74
open PySem In Tx P74
inductive Wrd where
  | an | oo | un
def Wrd.d : Wrd → PyData
  | .an => .str "and"
  | .oo => .str "or"
  | .un => .str "unlike"
def pt : Wrd → Int → Int → Int
  | .an, x, y => x * y
  | .oo, x, y => if y > x then y else x
  | .un, x, y => if x - y < 0 then -(x - y) else x - y
theorem pt_bit (w : Wrd) {x y : Int} (hx : bit x) (hy : bit y) : bit (pt w x y) := by
  rcases hx with rfl | rfl <;> rcases hy with rfl | rfl <;> cases w <;> decide
theorem w_and (w : Wrd) : cmpop .eq w.d (.str "and") = some (match w with | .an => true | _ => false) := by cases w <;> decide +kernel
theorem w_or (w : Wrd) : cmpop .eq w.d (.str "or") = some (match w with | .oo => true | _ => false) := by cases w <;> decide +kernel
theorem w_in (w : Wrd) : cmpop .notin w.d (.tuple [.str "and", .str "or", .str "unlike"]) = some false := by cases w <;> decide +kernel
theorem w_str (w : Wrd) : In.isType w.d "str" = some true := by cases w <;> decide +kernel
theorem f11 (k : Nat) (w : Wrd) {x y : Int} (hx : bit x) (hy : bit y) (S : Sto) : callAt fns W (k + 1) 11 [.d (.int x), .d (.int y), .d w.d] S = .ok (.int (pt w x y)) S := by
  rw [r_11]
  have m : binop .mul (.int x) (.int y) = some (.int (x * y)) := bin_mul x y (.inl (by rcases hx with rfl | rfl <;> rfl))
  have e1 := w_and w
  have e2 := w_or w
  cases w <;> simp [b_11, e1, e2, m, pt]
theorem f37 (k : Nat) (w : Wrd) {x y : Int} (hx : bit x) (hy : bit y) (S : Sto) : callAt fns W (k + 1) 37 [.d (.int x), .d (.int y), .d w.d] S = .ok (.int (pt w x y)) S := by
  rw [r_37]
  have e1 := w_and w
  have e2 := w_or w
  rcases hx with rfl | rfl <;> rcases hy with rfl | rfl <;> cases w <;> simp [b_37, e1, e2, pt]
theorem kStore_in {v : PyData} {acc : List Int} {t : Int} (h : t ∈ acc) : kStore (acc.map fun t => (PyData.int t, v)) (.int t) v = acc.map fun t => (PyData.int t, v) := by
  unfold kStore
  rw [if_pos]
  · rw [List.map_map]
    refine List.map_congr_left fun a _ => ?_
    show (if PyData.eqv (.int a) (.int t) = true then (PyData.int a, v) else (PyData.int a, v)) = _
    split <;> rfl
  · rw [List.any_map, List.any_eq_true]
    exact ⟨t, h, by simp [PyData.eqv]⟩
theorem kStore_out {v : PyData} {acc : List Int} {t : Int} (h : t ∉ acc) : kStore (acc.map fun t => (PyData.int t, v)) (.int t) v = (acc ++ [t]).map fun t => (PyData.int t, v) := by
  unfold kStore
  rw [if_neg]
  · simp
  · rw [List.any_map, List.any_eq_true]
    rintro ⟨a, ha, e⟩
    simp [PyData.eqv] at e
    exact h (e ▸ ha)
theorem dictOf_dd (v : PyData) : ∀ (l acc : List Int), dictOf? (l.map fun t => .tuple [.int t, v]) (acc.map fun t => (PyData.int t, v)) = some ((dd acc l).map fun t => (PyData.int t, v))
  | [], acc => rfl
  | t :: r, acc => by
    simp only [List.map_cons, dictOf?, scalarKey, if_true, dd]
    by_cases h : t ∈ acc
    · rw [if_pos h, kStore_in h]; exact dictOf_dd v r acc
    · rw [if_neg h, kStore_out h]; exact dictOf_dd v r _
theorem u1_dict (v : PyData) (l : List Int) : u1 .dict (.list (l.map fun t => .tuple [.int t, v])) = some (.dict ((dd [] l).map fun t => (PyData.int t, v))) := by
  show (dictOf? _ _).map PyData.dict = _
  rw [show ([] : List (PyData × PyData)) = ([] : List Int).map fun t => (PyData.int t, v) from rfl, dictOf_dd]
  rfl
theorem u1_sortd (v : PyData) (l : List Int) : u1 .sorted (.dict ((dd [] l).map fun t => (PyData.int t, v))) = some (.list (iL (srt l))) := by
  show (ints? (((dd [] l).map fun t => (PyData.int t, v)).map (·.1))).map _ = _
  rw [List.map_map, show ((fun x : PyData × PyData => x.1) ∘ fun t => (PyData.int t, v)) = PyData.int from rfl, ints_map]
  rfl
theorem dcL_dd {ck : Sto → Bool} {asg : PyData → Option In.Env} {kv : In.Env → Sto → R (PyData × PyData)} {S : Sto} (v : PyData) (hck : ck S = true) : ∀ (l acc : List Int), acc.length + l.length ≤ 10000 → (∀ a ∈ l, ∃ ρ, asg (.int a) = some ρ ∧ kv ρ S = .ok (.int a, v) S) → dcL ck asg kv (iL l) (acc.map fun t => (PyData.int t, v)) S = .ok ((dd acc l).map fun t => (PyData.int t, v)) S
  | [], acc, _, _ => rfl
  | t :: r, acc, hl, h => by
    obtain ⟨ρ, h1, h2⟩ := h t List.mem_cons_self
    have ht := fun a (ha : a ∈ r) => h a (List.mem_cons_of_mem _ ha)
    simp only [List.length_cons] at hl
    have hlt : acc.length < 16777216 := by omega
    simp only [iL, List.map_cons, dcL, h1, h2, R.bind_ok, List.length_map, hlt, decide_true, scalarKey, hck, Bool.and_self, if_true, dd]
    by_cases hm : t ∈ acc
    · rw [if_pos hm, kStore_in hm]; exact dcL_dd v hck r acc (by omega) ht
    · rw [if_neg hm, kStore_out hm]; exact dcL_dd v hck r _ (by simp; omega) ht
def jn (w : Wrd) (b : Int) (ts : List Int) (c : Int) (us : List Int) : List Int := chg (pt w b c) ((srt (ts ++ us)).map fun t => (t, pt w (val b ts t) (val c us t)))
theorem f10 (k : Nat) (w : Wrd) {b c : Int} {ts us : List Int} (h1 : OkS b ts) (h2 : OkS c us) (S : Sto) : callAt fns W (k + 2) 10 [.d (sg b ts), .d (sg c us), .d w.d] S = .ok (sg (pt w b c) (jn w b ts c us)) S := by
  rw [r_10, b_10]
  have l1 := h1.len
  have l2 := h2.len
  have sl := srt_len (ts ++ us)
  simp only [List.length_append] at sl
  have cat : binop .add (.tuple (iL ts)) (.tuple (iL us)) = some (.tuple (iL (ts ++ us))) := by
    rw [bin_catT _ _ (by simp only [iL, List.length_map, cap]; omega)]; simp
  have e1 : ev (callAt fns W (k + 1)) (.u1 .sorted (.dc [5] (.nm 5) (.e (.bin .add (.ix (.var 0) (.cst (.int 1))) (.ix (.var 1) (.cst (.int 1))))) (.var 5) (.cst (.bool true)))) [some (.d (sg b ts)), some (.d (sg c us)), some (.d w.d), none, none, none] S = .ok (.d (.list (iL (srt (ts ++ us))))) S := by
    have e0 : ev (callAt fns W (k + 1)) (.dc [5] (.nm 5) (.e (.bin .add (.ix (.var 0) (.cst (.int 1))) (.ix (.var 1) (.cst (.int 1))))) (.var 5) (.cst (.bool true))) [some (.d (sg b ts)), some (.d (sg c us)), some (.d w.d), none, none, none] S = .ok (.d (.dict ((dd [] (ts ++ us)).map fun t => (PyData.int t, .bool true)))) S := by
      have hit : evI (callAt fns W (k + 1)) (.e (.bin .add (.ix (.var 0) (.cst (.int 1))) (.ix (.var 1) (.cst (.int 1))))) [some (.d (sg b ts)), some (.d (sg c us)), some (.d w.d), none, none, none] S = .ok (iL (ts ++ us), []) S := by
        simp [cat, -List.map_append]
      simp only [ev, hit, R.bind_ok]
      rw [show ([] : List (PyData × PyData)) = ([] : List Int).map fun t => (PyData.int t, PyData.bool true) from rfl]
      rw [dcL_dd (.bool true) (chk_nil _ _) (ts ++ us) [] (by simp; omega) fun a ha => ⟨[some (Vl.d (sg b ts)), some (Vl.d (sg c us)), some (Vl.d w.d), none, none, some (Vl.d (.int a))], rfl, by simp only [ev, List.getElem?_cons_succ, List.getElem?_cons_zero, R.bind_ok, shut_d, R.calm_ok]⟩]
      rfl
    rw [ev_u1, e0]
    simp only [R.bind_ok, view_d, Option.bind_some, u1_sortd, Option.map_some, R.opt_some]
  refine q_asg _ e1 rfl ?_
  refine q_asg (.int (pt w b c)) (by simp [f11 k w h1.bit h2.bit]) rfl ?_
  have e2 : ∀ ρ : In.Env, ρ = [some (.d (sg b ts)), some (.d (sg c us)), some (.d w.d), some (.d (.list (iL (srt (ts ++ us))))), some (.d (.int (pt w b c))), none] → ev (callAt fns W (k + 1)) (.lc [5] (.nm 5) (.e (.var 3)) .nil (.tup (.cons (.var 5) (.cons (.call 11 (.cons (.call 4 (.cons (.var 0) (.cons (.var 5) .nil)) []) (.cons (.call 4 (.cons (.var 1) (.cons (.var 5) .nil)) []) (.cons (.var 2) .nil))) []) .nil)))) ρ S = .ok (.d (.list (((srt (ts ++ us)).map fun t => (t, pt w (val b ts t) (val c us t))).map pr))) S := by
    rintro ρ rfl
    rw [List.map_map]
    refine ev_lc0 (gs := []) PyData.int _ (by simp) (by simp only [cap]; omega) fun a ha => ⟨_, rfl, ?_⟩
    simp [wipe, f4 k b a ts S (by omega), f4 k c a us S (by omega), f11 k w (val_bit b ts a) (val_bit c us a)]
  rw [q_ret (sg (pt w b c) (jn w b ts c us))]
  · simp
  · simp only [ev_call, evs_cons, evs_nil]
    have e2' := e2 _ rfl
    have := f6 k (pt w b c) ((srt (ts ++ us)).map fun t => (t, pt w (val b ts t) (val c us t))) (by simp; omega) S
    simp only [List.set_cons_succ, List.set_cons_zero, ev_vr, List.getElem?_cons_succ, List.getElem?_cons_zero, getV_some, R.bind_ok, e2', List.map_nil, List.append_nil, List.cons_append, List.nil_append, this]
    rfl
theorem f12 (k : Nat) (w : Wrd) {b c : Int} {ts us : List Int} (h1 : OkS b ts) (h2 : OkS c us) (S : Sto) : callAt fns W (k + 5) 12 [.d (sg b ts), .d (sg c us), .d w.d] S = .ok (sg (pt w b c) (jn w b ts c us)) S := by
  rw [r_12]
  simp [b_12, f3 k h1, f3 k h2, w_in, w_str, f10 _ w h1 h2]
theorem f22 (k : Nat) {b c : Int} {ts us : List Int} (h1 : OkS b ts) (h2 : OkS c us) (S : Sto) : callAt fns W (k + 5) 22 [.d (sg b ts), .d (sg c us)] S = .ok (if pt .un b c = 1 then .tuple [.str "always"] else match jn .un b ts c us with | [] => .none | t :: _ => .int t) S := by
  rw [r_22]
  have e := f10 (k + 2) .un h1 h2 S
  have ed : Wrd.d .un = .str "unlike" := rfl
  rw [ed] at e
  by_cases q : pt .un b c = 1
  · simp [b_22, f3 k h1, f3 k h2, e, q]
  · cases hj : jn .un b ts c us with
    | nil => simp [b_22, f3 k h1, f3 k h2, e, q, hj]
    | cons t r => simp [b_22, f3 k h1, f3 k h2, e, q, hj]
/-- the law's own change list -/
theorem drop_cons {ts : List Int} {i : Nat} {t : Int} {r : List Int} (h : ts.drop i = t :: r) : ts[i]? = some t ∧ ts.drop (i + 1) = r ∧ i < ts.length ∧ ts.length = i + 1 + r.length := by
  have hl : i < ts.length := by
    have := congrArg List.length h
    simp at this; omega
  have e := List.drop_eq_getElem_cons hl
  rw [h] at e
  injection e with e1 e2
  refine ⟨by rw [List.getElem?_eq_getElem hl, e1], e2.symm, hl, ?_⟩
  have := congrArg List.length h
  simp at this; omega
theorem f32v (k : Nat) (b : Int) (ts vs : List Int) (hv : vs.length = ts.length) (hl : ts.length ≤ 1000) (S : Sto) (z : Vl) (hz : ∀ T, view (S ++ T) z = some (.list (iL ts))) : callAt fns W (k + 1) 32 [.d (.int b), z, .d (.list (iL vs))] S = .ok (sg b (chg b (ts.zip vs))) S := by
  rw [r_32]
  have loop := (forL_ix (ρ := [some (.d (.int b)), some z, some (.d (.list (iL vs))), none, some (.loc S.length), some (.d (.int b))]) (S := cl S []) (ck := chk [] (cl S [])) (asg := fun x ρ => put (.nm 3) x ρ) (b := fun ρ S => xs (callAt fns W k) W (.cons (.ite (.cmp .ne (.ix (.var 2) (.var 3)) (.var 5)) (.cons (.app (.var 4) (.ix (.var 1) (.var 3))) (.cons (.asg (.nm 5) (.ix (.var 2) (.var 3))) .nil)) .nil) .nil) ρ S) (fun i ρ S' => ∃ (h : Int) (ds : List Int) (u : Option Vl), ρ = [some (.d (.int b)), some z, some (.d (.list (iL vs))), u, some (.loc S.length), some (.d (.int h))] ∧ S' = cl S ds ∧ ds ++ chg h ((ts.zip vs).drop i) = chg b (ts.zip vs) ∧ ds.length ≤ i) ts.length ⟨b, [], none, rfl, rfl, rfl, Nat.le_refl _⟩ ?_).get
  · obtain ⟨fl, S', e, ρ', rfl, h, ds, u, rfl, rfl, h1, h2⟩ := loop
    rw [List.drop_eq_nil_of_le (by simp only [List.length_zip]; omega)] at h1
    simp only [chg, List.append_nil] at h1
    subst h1
    rw [b_32]
    refine fin_step (ρ' := [some (.d (.int b)), some z, some (.d (.list (iL vs))), none, some (.loc S.length), some (.d (.int b))]) (S' := cl S []) (by simp) ?_
    refine q_loop e (evI_rlen (by simp [hz]) (by omega)) ?_
    rw [q_ret (sg b (chg b (ts.zip vs))) (by simp)]
    simp
  · rintro i ρ S' hi ⟨h, ds, u, rfl, rfl, h1, h2⟩
    refine ⟨_, rfl, ?_⟩
    have hi2 : i < vs.length := by omega
    have d : (ts.zip vs).drop i = (ts[i], vs[i]) :: (ts.zip vs).drop (i + 1) := by
      rw [List.drop_eq_getElem_cons (by simp; omega)]
      simp
    rw [d] at h1
    have i1 : index (.list (iL ts)) (.int (i : Int)) = some (.int ts[i]) := (index_nat (by simp [hi])).1
    have i2 : index (.list (iL vs)) (.int (i : Int)) = some (.int vs[i]) := (index_nat (by simp [hi2])).1
    by_cases c : vs[i] = h
    · refine Ok_eq (a := .nx _) (S' := cl S ds) (by simp [hz, i1, i2, c]; rfl) ⟨_, rfl, rfl, h, ds, _, rfl, rfl, ?_, by omega⟩
      rw [← h1, chg, if_pos c]
    · have hlt : ds.length < 16777216 := by omega
      refine Ok_eq (a := .nx _) (S' := cl S (ds ++ [ts[i]])) (by simp [hz, i1, i2, c, hlt]; rfl) ⟨_, rfl, rfl, vs[i], ds ++ [ts[i]], _, rfl, rfl, ?_, by simp; omega⟩
      rw [← h1]
      simp only [chg, if_neg c, List.append_assoc, List.cons_append, List.nil_append]
theorem f32 (k : Nat) (b : Int) (ts vs : List Int) (hv : vs.length = ts.length) (hl : ts.length ≤ 1000) (S : Sto) : callAt fns W (k + 1) 32 [.d (.int b), .d (.list (iL ts)), .d (.list (iL vs))] S = .ok (sg b (chg b (ts.zip vs))) S := f32v k b ts vs hv hl S _ fun _ => rfl
theorem f32l (k : Nat) (b : Int) (ts vs : List Int) (hv : vs.length = ts.length) (hl : ts.length ≤ 1000) (S : Sto) (n : Nat) (hn : S[n]? = some ⟨true, .lst (iL ts)⟩) : callAt fns W (k + 1) 32 [.d (.int b), .loc n, .d (.list (iL vs))] S = .ok (sg b (chg b (ts.zip vs))) S := by
  have hlt : n < S.length := (List.getElem?_eq_some_iff.mp hn).1
  refine f32v k b ts vs hv hl S _ fun T => ?_
  rw [view_loc, List.getElem?_append_left hlt, hn]
  rfl
theorem zip_map {α : Type} (l : List Int) (f : Int → α) : l.zip (l.map f) = l.map fun x => (x, f x) := by
  induction l with
  | nil => rfl
  | cons a l ih => simp [ih]
theorem f38 (k : Nat) (w : Wrd) {b c : Int} {ts us : List Int} (h1 : OkS b ts) (h2 : OkS c us) (S : Sto) : callAt fns W (k + 2) 38 [.d (sg b ts), .d (sg c us), .d w.d] S = .ok (sg (pt w b c) (jn w b ts c us)) S := by
  rw [r_38, b_38]
  have l1 := h1.len
  have l2 := h2.len
  have sl := srt_len (ts ++ us)
  simp only [List.length_append] at sl
  have cat : binop .add (.tuple (iL ts)) (.tuple (iL us)) = some (.tuple (iL (ts ++ us))) := by
    rw [bin_catT _ _ (by simp only [iL, List.length_map, cap]; omega)]; simp
  have e0 : ev (callAt fns W (k + 1)) (.lc [5] (.nm 5) (.e (.bin .add (.ix (.var 0) (.cst (.int 1))) (.ix (.var 1) (.cst (.int 1))))) .nil (.tup (.cons (.var 5) (.cons (.cst (.int 0)) .nil)))) [some (.d (sg b ts)), some (.d (sg c us)), some (.d w.d), none, none, none] S = .ok (.d (.list ((ts ++ us).map fun t => .tuple [.int t, .int 0]))) S := by
    refine ev_lc0 (gs := []) PyData.int _ (by simp [cat, -List.map_append]) (by simp only [cap, List.length_append]; omega) fun a ha => ⟨_, rfl, ?_⟩
    simp [wipe]
  refine q_asg (.list (iL (srt (ts ++ us)))) (ev_u1_of (ev_u1_of e0 (u1_dict (.int 0) _)) (u1_sortd (.int 0) _)) rfl ?_
  refine q_asg (.list (iL ((srt (ts ++ us)).map fun t => pt w (val b ts t) (val c us t)))) ?_ rfl ?_
  · rw [show iL ((srt (ts ++ us)).map fun t => pt w (val b ts t) (val c us t)) = (srt (ts ++ us)).map fun t => .int (pt w (val b ts t) (val c us t)) from List.map_map ..]
    refine ev_lc0 (gs := []) PyData.int _ (by simp) (by simp only [cap]; omega) fun a ha => ⟨_, rfl, ?_⟩
    simp [wipe, f30 k b a ts S (by omega), f30 k c a us S (by omega), f37 k w (val_bit b ts a) (val_bit c us a)]
  rw [q_ret (sg (pt w b c) (jn w b ts c us))]
  · simp
  · have := f32 k (pt w b c) (srt (ts ++ us)) ((srt (ts ++ us)).map fun t => pt w (val b ts t) (val c us t)) (by simp) (by omega) S
    rw [zip_map] at this
    exact ev_call3 (ev_call3 (by simp) (by simp) (by simp) (f37 k w h1.bit h2.bit S)) (by simp) (by simp) this
end M74
/-! part M74c -/
set_option linter.all false
set_option maxRecDepth 100000
set_option maxHeartbeats 1000000
/-! Filtered, widened, spans. -/
namespace M74
open PySem In Tx P74
/-- the times that are kept -/
def kp (m : Int) : List Int → List Int
  | [] => []
  | [t] => [t]
  | t :: a :: r => if m ≤ a - t then t :: kp m (a :: r) else kp m (a :: r)
theorem kp_len (m : Int) : ∀ ts : List Int, (kp m ts).length ≤ ts.length
  | [] => Nat.le_refl _
  | [t] => Nat.le_refl _
  | t :: a :: r => by
    have := kp_len m (a :: r)
    simp only [kp]
    split <;> (simp at this ⊢; omega)
def flt (m b : Int) (ts : List Int) : List Int := chg b ((kp m ts).map fun t => (t + m, val b ts t))
theorem enum_map : ∀ (ts : List Int) (n : Nat), enumL n (iL ts) = (ts.zipIdx n).map fun p => .tuple [.int (p.2 : Int), .int p.1]
  | [], _ => rfl
  | t :: r, n => by
    have ih := enum_map r (n + 1)
    simp only [iL, List.map_cons, enumL, List.zipIdx_cons] at ih ⊢
    rw [ih]
theorem f13 (k : Nat) {b m : Int} {ts : List Int} (h : OkS b ts) (S : Sto) : callAt fns W (k + 2) 13 [.d (sg b ts), .d (.int m)] S = .ok (sg b (flt m b ts)) S := by
  rw [r_13, b_13]
  have hlen := h.len
  have loop := (forL_ok (ck := chk [] (cd S [])) (asg := fun x ρ => put (.tp (.cons (.nm 4) (.cons (.nm 5) .nil))) x ρ) (b := fun ρ S => xs (callAt fns W (k + 1)) W (.cons (.ite (.or (.cmp .eq (.bin .add (.var 4) (.cst (.int 1))) (.u1 .len (.var 3))) (.cmp .ge (.bin .sub (.ix (.var 3) (.bin .add (.var 4) (.cst (.int 1)))) (.var 5)) (.var 1))) (.cons (.app (.var 2) (.tup (.cons (.bin .add (.var 5) (.var 1)) (.cons (.call 4 (.cons (.var 0) (.cons (.var 5) .nil)) []) .nil)))) .nil) .nil) .nil) ρ S) (fun p : Int × Nat => PyData.tuple [.int (p.2 : Int), .int p.1])
    (fun l ρ S' => ∃ (rs : List (Int × Int)) (i : Nat) (u v : Option Vl), ρ = [some (.d (sg b ts)), some (.d (.int m)), some (.loc S.length), some (.d (.tuple (iL ts))), u, v] ∧ S' = cd S (rs.map pr) ∧ l = (ts.drop i).zipIdx i ∧ rs ++ (kp m (ts.drop i)).map (fun t => (t + m, val b ts t)) = (kp m ts).map (fun t => (t + m, val b ts t)) ∧ rs.length ≤ i) (ts.zipIdx 0) _ _ ⟨[], 0, none, none, rfl, rfl, rfl, rfl, Nat.le_refl _⟩ ?_).get
  · obtain ⟨fl, S', e, ρ', rfl, rs, i, u, v, rfl, rfl, hl, h1, h2⟩ := loop
    have hd : ts.drop i = [] := by
      have := congrArg List.length hl
      simp at this
      exact List.drop_eq_nil_of_le (by omega)
    rw [hd] at h1
    simp only [kp, List.map_nil, List.append_nil] at h1
    subst h1
    refine q_new [] (by simp) ?_
    refine q_asg (.tuple (iL ts)) (by simp) rfl ?_
    refine q_loop e (by simp [enum_map]) ?_
    have kl := kp_len m ts
    have e6 := f6l k b ((kp m ts).map fun t => (t + m, val b ts t)) (by simp; omega) (cd S (((kp m ts).map fun t => (t + m, val b ts t)).map pr)) S.length (by simp)
    rw [q_ret (sg b (flt m b ts))]
    · simp
    · exact ev_call2 (by simp) (by simp) e6
  · rintro ⟨t, j⟩ l ρ S' ⟨rs, i, u, v, rfl, rfl, hl, h1, h2⟩
    cases hd : ts.drop i with
    | nil => rw [hd] at hl; simp at hl
    | cons t' r =>
      rw [hd, List.zipIdx_cons] at hl
      injection hl with hl1 hl2
      injection hl1 with e1 e2
      subst e1 e2 hl2
      obtain ⟨d1, d2, d3, d4⟩ := drop_cons hd
      have i1 : j + 1 < ts.length → index (.tuple (iL ts)) (.int ((j : Int) + 1)) = (r.head?).map PyData.int := fun hlt => by
        have := (index_nat (xs := iL ts) (i := j + 1) (x := .int ts[j + 1]) (by simp [hlt])).2
        rw [show ((j : Int) + 1) = ((j + 1 : Nat) : Int) from rfl, this, ← d2, List.head?_drop, List.getElem?_eq_getElem hlt]
        rfl
      have e4 : ∀ S, callAt fns W (k + 1) 4 [.d (sg b ts), .d (.int t)] S = .ok (.int (val b ts t)) S := fun S => f4 k b t ts S (by omega)
      have hlt : rs.length < 16777216 := by omega
      refine ⟨_, by simp; rfl, ?_⟩
      rw [hd] at h1
      cases r with
      | nil =>
        have c1 : (j : Int) + 1 = ts.length := by simp at d4; omega
        refine Ok_eq (a := .nx _) (S' := cd S ((rs ++ [(t + m, val b ts t)]).map pr)) (by simp [c1, e4, hlt]; exact ⟨rfl, rfl⟩) ⟨_, rfl, rfl, rs ++ [(t + m, val b ts t)], j + 1, _, _, rfl, rfl, by rw [d2], ?_, by simp; omega⟩
        rw [d2, ← h1]
        simp [kp]
      | cons a r =>
        have c1 : ¬ (j : Int) + 1 = ts.length := by simp at d4; omega
        have i2 := i1 (by simp at d4; omega)
        simp only [List.head?_cons, Option.map_some] at i2
        by_cases c : m ≤ a - t
        · refine Ok_eq (a := .nx _) (S' := cd S ((rs ++ [(t + m, val b ts t)]).map pr)) (by simp [c1, i2, c, e4, hlt]; exact ⟨rfl, rfl⟩) ⟨_, rfl, rfl, rs ++ [(t + m, val b ts t)], j + 1, _, _, rfl, rfl, by rw [d2], ?_, by simp; omega⟩
          rw [d2, ← h1]
          simp only [kp, if_pos c]
          simp
        · refine Ok_eq (a := .nx _) (S' := cd S (rs.map pr)) (by simp [c1, i2, c]; exact ⟨rfl, rfl⟩) ⟨_, rfl, rfl, rs, j + 1, _, _, rfl, rfl, by rw [d2], ?_, by omega⟩
          rw [d2, ← h1]
          simp only [kp, if_neg c]
theorem f14 (k : Nat) {b m : Int} {ts : List Int} (h : OkS b ts) (h1 : 0 ≤ m) (h2 : m ≤ 1000000) (S : Sto) : callAt fns W (k + 5) 14 [.d (sg b ts), .d (.int m)] S = .ok (sg b (flt m b ts)) S := by
  rw [r_14]
  simp [b_14, f3 k h, f8 (k + 1) h1 h2, f13 (k + 2) h]
theorem f14b (k : Nat) {b : Int} {ts : List Int} (h : OkS b ts) {x : PyData} (hx : inR 0 1000000 x = false) (S : Sto) : callAt fns W (k + 5) 14 [.d (sg b ts), .d x] S = .ex "ArgumentError" (.str "least") S := by
  rw [r_14]
  simp [b_14, f3 k h, f8b (k + 1) hx]
/-- the rows of widened -/
def wr (m : Int) : Int → List Int → List (Int × Int)
  | _, [] => []
  | c, t :: r => if c = 1 then (match r with | [] => [(t + m, 0)] | a :: _ => if m < a - t then [(t + m, 0)] else []) ++ wr m 0 r else (t, 1) :: wr m 1 r
theorem wr0 (m t : Int) (r : List Int) : wr m 0 (t :: r) = (t, 1) :: wr m 1 r := by simp [wr]
theorem wr1n (m t : Int) : wr m 1 [t] = [(t + m, 0)] := by simp [wr]
theorem wr1c (m t a : Int) (r : List Int) : wr m 1 (t :: a :: r) = (if m < a - t then [(t + m, 0)] else []) ++ wr m 0 (a :: r) := by simp [wr]
theorem wr_len (m : Int) : ∀ (ts : List Int) (c : Int), (wr m c ts).length ≤ ts.length
  | [], _ => Nat.le_refl _
  | t :: r, c => by
    have h0 := wr_len m r 0
    have h1 := wr_len m r 1
    unfold wr
    split
    · cases r with
      | nil => simp [wr]
      | cons a r' => dsimp only; split <;> (simp only [List.length_append, List.length_cons, List.length_nil] at *; omega)
    · simp only [List.length_cons] at *; omega
theorem chg_wr (m : Int) : ∀ (n : Nat) (ts : List Int) (c : Int), ts.length ≤ n → bit c → chg c (wr m c ts) = wid m c ts
  | _, [], _, _, _ => rfl
  | _, [t], c, _, hc => by rcases hc with rfl | rfl <;> simp [wr, wid, chg]
  | 0, t :: a :: r, c, hl, _ => by simp at hl
  | n + 1, t :: a :: r, c, hl, hc => by
    simp only [List.length_cons] at hl
    have h1 := chg_wr m n r 1 (by omega) (.inr rfl)
    have h2 := chg_wr m n (a :: r) 1 (by simp; omega) (.inr rfl)
    rcases hc with rfl | rfl
    · rw [wr0]
      simp only [wid, chg]
      rw [if_neg (by decide), if_neg (by decide), h2]
    · rw [wr1c, wr0]
      simp only [wid, if_true]
      split
      · simp [chg, h1]
      · simp [chg, h1]
theorem val_at {b : Int} {ts : List Int} {i : Nat} {t : Int} {r : List Int} (hp : pw ts) (hd : ts.drop i = t :: r) : val b ts t = (b + (i + 1 : Nat)) % 2 := by
  have hi := (drop_cons hd).2.2.1
  have e : ts = ts.take i ++ t :: r := by rw [← hd, List.take_append_drop]
  have hp' := hp
  rw [e, pw, List.pairwise_append] at hp'
  obtain ⟨_, q2, q3⟩ := hp'
  have q4 := List.pairwise_cons.mp q2
  unfold val cnt
  have c : (ts.filter fun x => decide (x ≤ t)) = ts.take i ++ [t] := by
    conv => lhs; rw [e]
    rw [List.filter_append, List.filter_cons, if_pos (by simp), List.filter_eq_self.mpr fun x hx => ?_, List.filter_eq_nil_iff.mpr fun x hx => ?_]
    · have := q4.1 x hx; simp; omega
    · have := q3 x hx t List.mem_cons_self; simp; omega
  rw [c]
  simp [Nat.min_eq_left (Nat.le_of_lt hi)]
theorem f15 (k : Nat) {b m : Int} {ts : List Int} (h : OkS b ts) (S : Sto) : callAt fns W (k + 2) 15 [.d (sg b ts), .d (.int m)] S = .ok (sg b (wid m b ts)) S := by
  rw [r_15, b_15]
  have hlen := h.len
  have hbit := h.bit
  have loop := (forL_ok (ck := chk [] (cd S [])) (asg := fun x ρ => put (.tp (.cons (.nm 4) (.cons (.nm 5) .nil))) x ρ) (b := fun ρ S => xs (callAt fns W (k + 1)) W (.cons (.ite (.cmp .eq (.call 4 (.cons (.var 0) (.cons (.var 5) .nil)) []) (.cst (.int 0))) (.cons (.asg (.nm 6) (.ite (.cmp .lt (.bin .add (.var 4) (.cst (.int 1))) (.u1 .len (.ix (.var 0) (.cst (.int 1))))) (.ix (.ix (.var 0) (.cst (.int 1))) (.bin .add (.var 4) (.cst (.int 1)))) (.cst .none))) (.cons (.ite (.or (.cmp .is_ (.var 6) (.cst .none)) (.cmp .gt (.bin .sub (.var 6) (.var 5)) (.var 1))) (.cons (.app (.var 2) (.tup (.cons (.bin .add (.var 5) (.var 1)) (.cons (.cst (.int 0)) .nil)))) .nil) .nil) .nil)) (.cons (.app (.var 2) (.tup (.cons (.var 5) (.cons (.cst (.int 1)) .nil)))) .nil)) .nil) ρ S) (fun p : Int × Nat => PyData.tuple [.int (p.2 : Int), .int p.1])
    (fun l ρ S' => ∃ (rs : List (Int × Int)) (i : Nat) (u v w : Option Vl), ρ = [some (.d (sg b ts)), some (.d (.int m)), some (.loc S.length), some (.d .none), u, v, w] ∧ S' = cd S (rs.map pr) ∧ l = (ts.drop i).zipIdx i ∧ rs ++ wr m ((b + i) % 2) (ts.drop i) = wr m b ts ∧ rs.length ≤ i) (ts.zipIdx 0) _ _ ⟨[], 0, none, none, none, rfl, rfl, rfl, by rcases hbit with rfl | rfl <;> rfl, Nat.le_refl _⟩ ?_).get
  · obtain ⟨fl, S', e, ρ', rfl, rs, i, u, v, w, rfl, rfl, hl, h1, h2⟩ := loop
    have hd : ts.drop i = [] := by
      have := congrArg List.length hl
      simp at this
      exact List.drop_eq_nil_of_le (by omega)
    rw [hd] at h1
    simp only [wr, List.append_nil] at h1
    subst h1
    refine q_new [] (by simp) ?_
    refine q_asg .none (by simp) rfl ?_
    refine q_loop e (by simp [enum_map]) ?_
    have kl := wr_len m ts b
    have e6 := f6l k b (wr m b ts) (by omega) (cd S ((wr m b ts).map pr)) S.length (by simp)
    rw [chg_wr m _ ts b (Nat.le_refl _) hbit] at e6
    rw [q_ret (sg b (wid m b ts))]
    · simp
    · exact ev_call2 (by simp) (by simp) e6
  · rintro ⟨t, j⟩ l ρ S' ⟨rs, i, u, v, w, rfl, rfl, hl, h1, h2⟩
    cases hd : ts.drop i with
    | nil => rw [hd] at hl; simp at hl
    | cons t' r =>
      rw [hd, List.zipIdx_cons] at hl
      injection hl with hl1 hl2
      injection hl1 with e1 e2
      subst e1 e2 hl2
      obtain ⟨d1, d2, d3, d4⟩ := drop_cons hd
      have i1 : j + 1 < ts.length → index (.tuple (iL ts)) (.int ((j : Int) + 1)) = (r.head?).map PyData.int := fun hlt => by
        have := (index_nat (xs := iL ts) (i := j + 1) (x := .int ts[j + 1]) (by simp [hlt])).2
        rw [show ((j : Int) + 1) = ((j + 1 : Nat) : Int) from rfl, this, ← d2, List.head?_drop, List.getElem?_eq_getElem hlt]
        rfl
      have va := val_at (b := b) h.pw hd
      have e4 : ∀ S, callAt fns W (k + 1) 4 [.d (sg b ts), .d (.int t)] S = .ok (.int (val b ts t)) S := fun S => f4 k b t ts S (by omega)
      have hlt : rs.length < 16777216 := by omega
      refine ⟨_, by simp; rfl, ?_⟩
      rw [hd] at h1
      by_cases q : val b ts t = 0
      · have cur : (b + (j : Int)) % 2 = 1 := by rw [va] at q; omega
        have nxt : (b + ((j + 1 : Nat) : Int)) % 2 = 0 := by omega
        rw [q] at e4
        rw [cur] at h1
        cases r with
        | nil =>
          rw [wr1n] at h1
          have c1 : ¬ (j : Int) + 1 < ts.length := by simp at d4; omega
          refine Ok_eq (a := .nx _) (S' := cd S ((rs ++ [(t + m, 0)]).map pr)) (by simp [c1, e4, hlt]; exact ⟨rfl, rfl, rfl⟩) ⟨_, rfl, rfl, rs ++ [(t + m, 0)], j + 1, _, _, _, rfl, rfl, by rw [d2], ?_, by simp; omega⟩
          rw [d2, nxt, ← h1]
          simp [wr]
        | cons a r =>
          rw [wr1c] at h1
          have c1 : (j : Int) + 1 < ts.length := by simp at d4; omega
          have i2 := i1 (by omega)
          simp only [List.head?_cons, Option.map_some] at i2
          by_cases c : m < a - t
          · refine Ok_eq (a := .nx _) (S' := cd S ((rs ++ [(t + m, 0)]).map pr)) (by simp [c1, i2, c, e4, hlt]; exact ⟨rfl, rfl, rfl⟩) ⟨_, rfl, rfl, rs ++ [(t + m, 0)], j + 1, _, _, _, rfl, rfl, by rw [d2], ?_, by simp; omega⟩
            rw [d2, nxt, ← h1]
            simp [c]
          · refine Ok_eq (a := .nx _) (S' := cd S (rs.map pr)) (by simp [c1, i2, c, e4]; exact ⟨rfl, rfl, rfl⟩) ⟨_, rfl, rfl, rs, j + 1, _, _, _, rfl, rfl, by rw [d2], ?_, by omega⟩
            rw [d2, nxt, ← h1]
            simp [c]
      · have q1 : val b ts t = 1 := by have := val_bit b ts t; unfold P74.bit at this; omega
        have cur : (b + (j : Int)) % 2 = 0 := by rw [va] at q1; omega
        have nxt : (b + ((j + 1 : Nat) : Int)) % 2 = 1 := by omega
        rw [q1] at e4
        rw [cur, wr0] at h1
        refine Ok_eq (a := .nx _) (S' := cd S ((rs ++ [(t, 1)]).map pr)) (by simp [e4, hlt]; exact ⟨rfl, rfl, rfl⟩) ⟨_, rfl, rfl, rs ++ [(t, 1)], j + 1, _, _, _, rfl, rfl, by rw [d2], ?_, by simp; omega⟩
        rw [d2, nxt, ← h1]
        simp
theorem OkS.flip {b : Int} {ts : List Int} (h : OkS b ts) : OkS (1 - b) ts := ⟨bit_flip h.bit, h.len, h.lim, h.pw⟩
theorem f16 (k : Nat) {b m : Int} {ts : List Int} (h : OkS b ts) (S : Sto) : callAt fns W (k + 3) 16 [.d (sg b ts), .d (.int m)] S = .ok (sg b (wid m (1 - b) ts)) S := by
  rw [r_16]
  have := f15 k (m := m) h.flip S
  simp [b_16, this]
  omega
theorem f17 (k : Nat) {b m : Int} {ts : List Int} (h : OkS b ts) (h1 : 0 ≤ m) (h2 : m ≤ 1000000) (S : Sto) : callAt fns W (k + 5) 17 [.d (sg b ts), .d (.int m)] S = .ok (sg b (wid m b ts)) S := by
  rw [r_17]
  simp [b_17, f3 k h, f8 (k + 1) h1 h2, f15 (k + 2) h]
theorem f17b (k : Nat) {b : Int} {ts : List Int} (h : OkS b ts) {x : PyData} (hx : inR 0 1000000 x = false) (S : Sto) : callAt fns W (k + 5) 17 [.d (sg b ts), .d x] S = .ex "ArgumentError" (.str "more") S := by
  rw [r_17]
  simp [b_17, f3 k h, f8b (k + 1) hx]
theorem f18 (k : Nat) {b m : Int} {ts : List Int} (h : OkS b ts) (h1 : 0 ≤ m) (h2 : m ≤ 1000000) (S : Sto) : callAt fns W (k + 5) 18 [.d (sg b ts), .d (.int m)] S = .ok (sg b (wid m (1 - b) ts)) S := by
  rw [r_18]
  simp [b_18, f3 k h, f8 (k + 1) h1 h2, f16 (k + 1) h]
theorem f18b (k : Nat) {b : Int} {ts : List Int} (h : OkS b ts) {x : PyData} (hx : inR 0 1000000 x = false) (S : Sto) : callAt fns W (k + 5) 18 [.d (sg b ts), .d x] S = .ex "ArgumentError" (.str "more") S := by
  rw [r_18]
  simp [b_18, f3 k h, f8b (k + 1) hx]
end M74
/-! part M74d -/
set_option linter.all false
set_option maxRecDepth 100000
set_option maxHeartbeats 1000000
/-! Spans, measures, the law's own held on. -/
namespace M74
open PySem In Tx P74
def oi : Option Int → PyData
  | none => .none
  | some i => .int i
@[simp] theorem oi_n : oi none = .none := rfl
@[simp] theorem oi_s (i : Int) : oi (some i) = .int i := rfl
abbrev sp (p : Option Int × Option Int) : PyData := .tuple [oi p.1, oi p.2]
theorem spn_len : ∀ (ts : List Int) (b : Int) (lo : Option Int), (spn b lo ts).length ≤ ts.length + 1
  | [], b, lo => by unfold spn; split <;> simp
  | t :: r, b, lo => by
    have := spn_len r (1 - b) (some t)
    unfold spn
    split <;> (simp only [List.length_append, List.length_cons, List.length_nil]; omega)
theorem f19 (k : Nat) {b : Int} {ts : List Int} (h : OkS b ts) (S : Sto) : callAt fns W (k + 5) 19 [.d (sg b ts)] S = .ok (.tuple ((spn b none ts).map sp)) S := by
  rw [r_19, b_19]
  have hlen := h.len
  have hbit := h.bit
  have loop := (forL_ok (ck := chk [] (cd S [])) (asg := fun x ρ => put (.nm 4) x ρ) (b := fun ρ S => xs (callAt fns W (k + 4)) W (.cons (.ite (.cmp .eq (.var 3) (.cst (.int 1))) (.cons (.app (.var 1) (.tup (.cons (.var 2) (.cons (.var 4) .nil)))) .nil) .nil) (.cons (.asg (.nm 2) (.var 4)) (.cons (.asg (.nm 3) (.bin .sub (.cst (.int 1)) (.var 3))) .nil))) ρ S) PyData.int
    (fun l ρ S' => ∃ (rs : List (Option Int × Option Int)) (c : Int) (lo : Option Int) (u : Option Vl), ρ = [some (.d (sg b ts)), some (.loc S.length), some (.d (oi lo)), some (.d (.int c)), u] ∧ S' = cd S (rs.map sp) ∧ rs ++ spn c lo l = spn b none ts ∧ rs.length + l.length ≤ 100) ts _ _ ⟨[], b, none, none, rfl, rfl, rfl, by simp; omega⟩ ?_).get
  · obtain ⟨fl, S', e, ρ', rfl, rs, c, lo, u, rfl, rfl, h1, h2⟩ := loop
    refine q_drop (by simp [f3 k h]; rfl) ?_
    refine q_new [] (by simp) ?_
    refine q_asg .none (by simp) rfl ?_
    refine q_asg (.int b) (by simp) rfl ?_
    refine q_loop e (by simp) ?_
    rw [← h1]
    simp only [List.length_nil, Nat.add_zero] at h2
    have hlt : rs.length < 16777216 := by omega
    by_cases q : c = 1
    · subst q
      simp [spn, hlt, sp, oi]
    · simp [spn, q]
  · rintro t l ρ S' ⟨rs, c, lo, u, rfl, rfl, h1, h2⟩
    refine ⟨_, rfl, ?_⟩
    simp only [List.length_cons] at h2
    have hlt : rs.length < 16777216 := by omega
    by_cases q : c = 1
    · subst q
      refine Ok_eq (a := .nx _) (S' := cd S ((rs ++ [(lo, some t)]).map sp)) (by simp [hlt, sp, oi]; rfl) ⟨_, rfl, rfl, rs ++ [(lo, some t)], 1 - 1, some t, _, rfl, rfl, ?_, by simp; omega⟩
      rw [← h1]
      simp [spn]
    · refine Ok_eq (a := .nx _) (S' := cd S (rs.map sp)) (by simp [q]; rfl) ⟨_, rfl, rfl, rs, 1 - c, some t, _, rfl, rfl, ?_, by omega⟩
      rw [← h1]
      simp [spn, q]
theorem f19b (k : Nat) {x : PyData} (h : Bad x) (S : Sto) : callAt fns W (k + 5) 19 [.d x] S = .ex "ArgumentError" (.str "signal") S := by
  rw [r_19]
  simp [b_19, f3b k h]
abbrev en (lo : Option Int) (ts : List Int) : List PyData := oi lo :: (iL ts ++ [.none])
theorem spn_range : ∀ (ts : List Int) (b : Int) (lo : Option Int), bit b → (spn b lo ts).map sp = ((List.range (ts.length + 1)).filter fun (k : Nat) => decide ((b + (k : Int)) % 2 = 1)).map fun (k : Nat) => .tuple [(en lo ts).getD k .none, (en lo ts).getD (k + 1) .none]
  | [], b, lo, hb => by
    rcases hb with rfl | rfl <;> simp [spn, List.range_succ, en]
  | t :: r, b, lo, hb => by
    have ih := spn_range r (1 - b) (some t) (bit_flip hb)
    rw [List.length_cons, List.range_succ_eq_map, List.filter_cons, List.filter_map, spn, List.map_append, ih]
    have e : (List.filter ((fun (k : Nat) => decide ((b + (k : Int)) % 2 = 1)) ∘ Nat.succ) (List.range (r.length + 1))) = List.filter (fun (k : Nat) => decide ((1 - b + (k : Int)) % 2 = 1)) (List.range (r.length + 1)) := by
      refine List.filter_congr fun k _ => ?_
      simp only [Function.comp]
      have : ((b + ((k.succ : Nat) : Int)) % 2 = 1) ↔ ((1 - b + (k : Int)) % 2 = 1) := by
        unfold P74.bit at hb
        omega
      simp only [this]
    rw [e]
    rcases hb with rfl | rfl
    · simp [Function.comp_def, en]
    · simp [Function.comp_def, en]
theorem f31 (k : Nat) {b : Int} {ts : List Int} (h : OkS b ts) (S : Sto) : callAt fns W (k + 1) 31 [.d (sg b ts)] S = .ok (.tuple ((spn b none ts).map sp)) S := by
  rw [r_31, b_31]
  have hlen := h.len
  have cat1 : binop .add (.list [.none]) (.list (iL ts)) = some (.list (.none :: iL ts)) := by
    rw [bin_cat _ _ (by simp [cap]; omega)]; rfl
  have cat2 : binop .add (.list (.none :: iL ts)) (.list [.none]) = some (.list (en none ts)) := by
    rw [bin_cat _ _ (by simp [cap]; omega)]; rfl
  refine q_asg (.list (en none ts)) (ev_bin_of (S1 := S) (ev_bin_of (S1 := S) (x := .list [.none]) (y := .list (iL ts)) (by simp) (by simp) cat1) (y := .list [.none]) (by simp) cat2) rfl ?_
  have ln : ((en none ts).length : Int) - 1 = ((ts.length + 1 : Nat) : Int) := by simp
  have e : ∀ ρ : In.Env, ρ = [some (.d (sg b ts)), some (.d (.list (en none ts))), none] → ev (callAt fns W k) (.lc [2] (.nm 2) (.rng1 (.bin .sub (.u1 .len (.var 1)) (.cst (.int 1)))) (.cons (.cmp .eq (.bin .mod (.u1 .int (.bin .add (.ix (.var 0) (.cst (.int 0))) (.var 2))) (.cst (.int 2))) (.cst (.int 1))) .nil) (.tup (.cons (.ix (.var 1) (.var 2)) (.cons (.ix (.var 1) (.bin .add (.var 2) (.cst (.int 1)))) .nil)))) ρ S = .ok (.d (.list ((spn b none ts).map sp))) S := by
    rintro ρ rfl
    rw [spn_range ts b none h.bit]
    have el : ev (callAt fns W k) (.bin .sub (.u1 .len (.var 1)) (.cst (.int 1))) [some (.d (sg b ts)), some (.d (.list (en none ts))), none] S = .ok (.d (.int ((ts.length + 1 : Nat) : Int))) S := by
      refine ev_bin_of (S1 := S) (ev_u1_of (x := .list (en none ts)) (by simp) (u1_lenl _)) (y := .int 1) (by simp) ?_
      rw [bin_sub, ln]
    refine ev_lc (fun (k : Nat) => .int (k : Int)) _ _ (evI_rlen el (by omega)) (by simp [cap]; omega) fun j hj => ⟨_, rfl, ?_, fun _ => ?_⟩
    · simp [wipe, mod_two]
    · have hj' : j < ts.length + 1 := List.mem_range.mp hj
      have i1 : index (.list (en none ts)) (.int (j : Int)) = some ((en none ts).getD j .none) := by
        refine (index_nat ?_).1
        rw [List.getD_eq_getElem?_getD, List.getElem?_eq_getElem (by simp; omega)]; rfl
      have i2 : index (.list (en none ts)) (.int ((j : Int) + 1)) = some ((en none ts).getD (j + 1) .none) := by
        refine (index_nat (i := j + 1) ?_).1
        rw [List.getD_eq_getElem?_getD, List.getElem?_eq_getElem (by simp; omega)]; rfl
      simp [wipe, i1, i2, -List.getElem?_cons_succ]
  refine (q_ret (.tuple ((spn b none ts).map sp)) (ev_u1_of (e _ rfl) (u1_tupl _))).trans ?_
  simp
@[simp] theorem isNone_oi (o : Option Int) : isNone (oi o) = o.isNone := by cases o <;> rfl
theorem f33 (k : Nat) {b m x : Int} {ts : List Int} (h : OkS b ts) (S : Sto) : callAt fns W (k + 2) 33 [.d (sg b ts), .d (.int x), .d (.int m)] S = .ok (.bool (heldB m b ts x)) S := by
  rw [r_33, b_33]
  have l := forL_any (S := S) (ck := chk [] S) (asg := fun x ρ => put (.tp (.cons (.nm 3) (.cons (.nm 4) .nil))) x ρ) (b := fun ρ S => xs (callAt fns W (k + 1)) W (.cons (.ite (.and (.or (.cmp .is_ (.var 3) (.cst .none)) (.cmp .le (.var 3) (.var 1))) (.or (.cmp .is_ (.var 4) (.cst .none)) (.cmp .gt (.var 4) (.bin .sub (.var 1) (.var 2))))) (.cons (.ret (.cst (.bool true))) .nil) .nil) .nil) ρ S) sp (inS x m) (.bool true) (fun ρ => ∃ u v : Option Vl, ρ = [some (.d (sg b ts)), some (.d (.int x)), some (.d (.int m)), u, v]) rfl ?_ (spn b none ts) _ ⟨none, none, rfl⟩
  · have hit : evI (callAt fns W (k + 1)) (.e (.call 31 (.cons (.var 0) .nil) [])) [some (.d (sg b ts)), some (.d (.int x)), some (.d (.int m)), none, none] S = .ok ((spn b none ts).map sp, []) S := by
      rw [evI_e, ev_call1 (by simp) (f31 k h S)]
      rfl
    cases q : heldB m b ts x with
    | true =>
      refine (q_loopR (l.1 q) hit).trans ?_
      simp
    | false =>
      obtain ⟨ρ', e, u, v, rfl⟩ := l.2 q
      refine q_loop e hit ?_
      refine (q_ret (.bool false) (by simp)).trans ?_
      simp
  · rintro ⟨lo, hi⟩ ρ ⟨u, v, rfl⟩
    refine ⟨[some (.d (sg b ts)), some (.d (.int x)), some (.d (.int m)), some (.d (oi lo)), some (.d (oi hi))], by simp, fun hp => ?_, fun hp => ⟨[some (.d (sg b ts)), some (.d (.int x)), some (.d (.int m)), some (.d (oi lo)), some (.d (oi hi))], ?_, _, _, rfl⟩⟩
    · cases lo with
      | none =>
        cases hi with
        | none => simp
        | some j => simp [inS] at hp; simp [hp]
      | some i =>
        cases hi with
        | none => simp [inS] at hp; simp [hp]
        | some j => simp [inS] at hp; simp [hp]
    · cases lo with
      | none =>
        cases hi with
        | none => simp [inS] at hp
        | some j =>
          have c : ¬ x - m < j := by simpa [inS] using hp
          simp [c]
      | some i =>
        by_cases c1 : i ≤ x
        · cases hi with
          | none => simp [inS, c1] at hp
          | some j =>
            have c : ¬ x - m < j := by simpa [inS, c1] using hp
            simp [c1, c]
        · simp [c1]
theorem f34 (k : Nat) {b m : Int} {ts : List Int} (h : OkS b ts) (S : Sto) : callAt fns W (k + 3) 34 [.d (sg b ts), .d (.int m)] S = .ok (sg b (lawHeld m b ts)) S := by
  rw [r_34, b_34]
  have hlen := h.len
  by_cases c : m = 0
  · subst c
    simp [lawHeld]
  · refine q_no (by simp [c]) ?_
    have sl := srt_len (ts ++ ts.map (· + m))
    simp only [List.length_append, List.length_map] at sl
    have e1 : ev (callAt fns W (k + 2)) (.lc [3] (.nm 3) (.e (.ix (.var 0) (.cst (.int 1)))) .nil (.tup (.cons (.var 3) (.cons (.cst (.int 0)) .nil)))) [some (.d (sg b ts)), some (.d (.int m)), none, none] S = .ok (.d (.list (ts.map fun t => .tuple [.int t, .int 0]))) S := by
      refine ev_lc0 (gs := []) PyData.int _ (by simp) (by simp only [cap]; omega) fun a ha => ⟨_, rfl, ?_⟩
      simp [wipe]
    have e2 : ev (callAt fns W (k + 2)) (.lc [3] (.nm 3) (.e (.ix (.var 0) (.cst (.int 1)))) .nil (.tup (.cons (.bin .add (.var 3) (.var 1)) (.cons (.cst (.int 0)) .nil)))) [some (.d (sg b ts)), some (.d (.int m)), none, none] S = .ok (.d (.list ((ts.map (· + m)).map fun t => .tuple [.int t, .int 0]))) S := by
      rw [List.map_map]
      refine ev_lc0 (gs := []) PyData.int _ (by simp) (by simp only [cap]; omega) fun a ha => ⟨_, rfl, ?_⟩
      simp [wipe]
    have cat : binop .add (.list (ts.map fun t => .tuple [.int t, .int 0])) (.list ((ts.map (· + m)).map fun t => .tuple [.int t, .int 0])) = some (.list ((ts ++ ts.map (· + m)).map fun t => .tuple [.int t, .int 0])) := by
      rw [bin_cat _ _ (by simp only [List.length_map, cap]; omega), List.map_append]
    refine q_asg (.list (iL (srt (ts ++ ts.map (· + m))))) (ev_u1_of (ev_u1_of (ev_bin_of e1 e2 cat) (u1_dict (.int 0) _)) (u1_sortd (.int 0) _)) rfl ?_
    have e3 : ∀ ρ : In.Env, ρ = [some (.d (sg b ts)), some (.d (.int m)), some (.d (.list (iL (srt (ts ++ ts.map (· + m)))))), none] → ev (callAt fns W (k + 2)) (.lc [3] (.nm 3) (.e (.var 2)) .nil (.u1 .int (.call 33 (.cons (.var 0) (.cons (.var 3) (.cons (.var 1) .nil))) []))) ρ S = .ok (.d (.list (iL ((srt (ts ++ ts.map (· + m))).map fun x => b2i (heldB m b ts x))))) S := by
      rintro ρ rfl
      rw [show iL ((srt (ts ++ ts.map (· + m))).map fun x => b2i (heldB m b ts x)) = (srt (ts ++ ts.map (· + m))).map fun x => .int (b2i (heldB m b ts x)) from List.map_map ..]
      refine ev_lc0 (gs := []) PyData.int _ (by simp) (by simp only [cap]; omega) fun a ha => ⟨_, rfl, ?_⟩
      rw [ev_u1_of (ev_call3 (by simp [wipe]) (by simp [wipe]; rfl) (by simp [wipe]; rfl) (f33 k h S)) (u1_intb _)]
      rfl
    have e4 := f32 (k + 1) b (srt (ts ++ ts.map (· + m))) ((srt (ts ++ ts.map (· + m))).map fun x => b2i (heldB m b ts x)) (by simp) (by omega) S
    rw [zip_map] at e4
    refine (q_ret (sg b (lawHeld m b ts)) ?_).trans (by simp)
    rw [lawHeld, if_neg c]
    exact ev_call3 (by simp) (by simp) (e3 _ rfl) e4
theorem f35 (k : Nat) {b m : Int} {ts : List Int} (h : OkS b ts) (S : Sto) : callAt fns W (k + 4) 35 [.d (sg b ts), .d (.int m)] S = .ok (sg b (lawHeld m (1 - b) ts)) S := by
  rw [r_35]
  have := f34 k (m := m) h.flip S
  simp [b_35, this]
  omega
end M74
/-! part M74e -/
set_option linter.all false
set_option maxRecDepth 100000
set_option maxHeartbeats 1000000
/-! The law's own filtered; measure, shortest, kept. -/
namespace M74
open PySem In Tx P74
theorem f36 (k : Nat) {b m : Int} {ts : List Int} (h : OkS b ts) (S : Sto) : callAt fns W (k + 2) 36 [.d (sg b ts), .d (.int m)] S = .ok (sg b (flt m b ts)) S := by
  rw [r_36, b_36]
  have hlen := h.len
  have loop := (forL_ix (ρ := [some (.d (sg b ts)), some (.d (.int m)), none, none, some (.d (.tuple (iL ts))), some (.loc S.length), none]) (S := cl S []) (ck := chk [] (cl S [])) (asg := fun x ρ => put (.nm 2) x ρ) (b := fun ρ S => xs (callAt fns W (k + 1)) W (.cons (.ite (.or (.cmp .eq (.bin .add (.var 2) (.cst (.int 1))) (.u1 .len (.var 4))) (.cmp .ge (.bin .sub (.ix (.var 4) (.bin .add (.var 2) (.cst (.int 1)))) (.ix (.var 4) (.var 2))) (.var 1))) (.cons (.app (.var 5) (.bin .add (.ix (.var 4) (.var 2)) (.var 1))) .nil) .nil) .nil) ρ S)
    (fun i ρ S' => ∃ (ds : List Int) (u : Option Vl), ρ = [some (.d (sg b ts)), some (.d (.int m)), u, none, some (.d (.tuple (iL ts))), some (.loc S.length), none] ∧ S' = cl S ds ∧ ds ++ (kp m (ts.drop i)).map (· + m) = (kp m ts).map (· + m) ∧ ds.length ≤ i) ts.length ⟨[], none, rfl, rfl, rfl, Nat.le_refl _⟩ ?_).get
  · obtain ⟨fl, S', e, ρ', rfl, ds, u, rfl, rfl, h1, h2⟩ := loop
    rw [List.drop_length] at h1
    simp only [kp, List.map_nil, List.append_nil] at h1
    subst h1
    have kl := kp_len m ts
    refine fin_step (ρ' := [some (.d (sg b ts)), some (.d (.int m)), none, none, some (.d (.tuple (iL ts))), some (.loc S.length), none]) (S' := cl S []) (by simp) ?_
    refine q_loop e (evI_rlen (by simp) (by omega)) ?_
    have e1 : ev (callAt fns W (k + 1)) (.lc [6] (.nm 6) (.e (.var 5)) .nil (.call 30 (.cons (.var 0) (.cons (.bin .sub (.var 6) (.var 1)) .nil)) [])) [some (.d (sg b ts)), some (.d (.int m)), u, none, some (.d (.tuple (iL ts))), some (.loc S.length), none] (cl S ((kp m ts).map (· + m))) = .ok (.d (.list (iL ((kp m ts).map fun t => val b ts t)))) (cl S ((kp m ts).map (· + m))) := by
      rw [show iL ((kp m ts).map fun t => val b ts t) = (kp m ts).map fun t => .int (val b ts t) from List.map_map ..]
      refine ev_lc0 (gs := [S.length]) (fun t => .int (t + m)) _ ?_ (by simp only [cap]; omega) fun a ha => ⟨_, rfl, ?_⟩
      · simp
        rfl
      · rw [ev_call2 (x := .d (sg b ts)) (y := .d (.int a)) (by simp [wipe]) (by simp [wipe]) (f30 k b a ts _ (by omega))]
        rfl
    refine q_asg _ e1 rfl ?_
    have e4 := f32l k b ((kp m ts).map (· + m)) ((kp m ts).map fun t => val b ts t) (by simp) (by simp; omega) (cl S ((kp m ts).map (· + m))) S.length (by simp)
    have z : ((kp m ts).map (· + m)).zip ((kp m ts).map fun t => val b ts t) = (kp m ts).map fun t => (t + m, val b ts t) := List.zip_map' ..
    rw [z] at e4
    refine (q_ret (sg b (flt m b ts)) (ev_call3 (by simp) (by simp) (by simp) e4)).trans (by simp)
  · rintro i ρ S' hi ⟨ds, u, rfl, rfl, h1, h2⟩
    refine ⟨_, rfl, ?_⟩
    have hd : ts.drop i = ts[i] :: ts.drop (i + 1) := List.drop_eq_getElem_cons hi
    have i0 : index (.tuple (iL ts)) (.int (i : Int)) = some (.int ts[i]) := (index_nat (by simp [hi])).2
    have hlt : ds.length < 16777216 := by omega
    rw [hd] at h1
    cases hr : ts.drop (i + 1) with
    | nil =>
      have c1 : (i : Int) + 1 = ts.length := by
        have := congrArg List.length hr
        simp at this; omega
      rw [hr] at h1
      refine Ok_eq (a := .nx _) (S' := cl S (ds ++ [ts[i] + m])) (by simp [c1, i0, hlt]; rfl) ⟨_, rfl, rfl, ds ++ [ts[i] + m], _, rfl, rfl, ?_, by simp; omega⟩
      rw [← h1]
      simp [kp]
    | cons a r =>
      obtain ⟨d1, d2, d3, d4⟩ := drop_cons hr
      have c1 : ¬ (i : Int) + 1 = ts.length := by omega
      have i2 : index (.tuple (iL ts)) (.int ((i : Int) + 1)) = some (.int a) := (index_nat (i := i + 1) (by simp [d1])).2
      rw [hr] at h1
      by_cases c : m ≤ a - ts[i]
      · refine Ok_eq (a := .nx _) (S' := cl S (ds ++ [ts[i] + m])) (by simp [c1, i0, i2, c, hlt]; rfl) ⟨_, rfl, rfl, ds ++ [ts[i] + m], _, rfl, rfl, ?_, by simp; omega⟩
        rw [← h1]
        simp only [kp, if_pos c]
        simp
      · refine Ok_eq (a := .nx _) (S' := cl S ds) (by simp [c1, i0, i2, c]; rfl) ⟨_, rfl, rfl, ds, _, rfl, rfl, ?_, by omega⟩
        rw [← h1]
        simp only [kp, if_neg c]
/-- kept rises -/
def kt (m b : Int) (ts0 : List Int) (both : Bool) : Option Int → List Int → List Int
  | _, [] => []
  | last, t :: r => if (decide (val b ts0 t = 1) || both) && (match last with | none => true | some l => decide (m ≤ t - l)) then t :: kt m b ts0 both (some t) r else kt m b ts0 both last r
theorem kt_cons (m b : Int) (ts0 : List Int) (both : Bool) (last : Option Int) (t : Int) (r : List Int) : kt m b ts0 both last (t :: r) = if (decide (val b ts0 t = 1) || both) && (match last with | none => true | some l => decide (m ≤ t - l)) then t :: kt m b ts0 both (some t) r else kt m b ts0 both last r := by
  cases last <;> rfl
theorem idx_last {ds : List Int} {l : Int} (h : ds.getLast? = some l) : index (.list (iL ds)) (.int (-1)) = some (.int l) := index_neg1 (by simp [iL, List.getLast?_map, h])
theorem eqOk_ints (ds : List Int) : eqOk (.list (iL ds)) = true := by
  have h1 : PyData.canLayAll0 (iL ds) = true := by
    induction ds with
    | nil => rfl
    | cons a r ih =>
      simp only [iL, List.map_cons, PyData.canLayAll0] at ih ⊢
      rw [ih]; rfl
  have h2 : PyData.depthAll (iL ds) ≤ 1 := by
    clear h1
    induction ds with
    | nil => decide
    | cons a r ih =>
      have := ih
      simp only [iL, List.map_cons, PyData.depthAll, PyData.depth] at this ⊢
      omega
  show (PyData.canLay0 (.list (iL ds)) && decide (PyData.depth (.list (iL ds)) ≤ 64)) = true
  rw [show PyData.canLay0 (.list (iL ds)) = true from h1, Bool.true_and, decide_eq_true_eq]
  show PyData.depthAll (iL ds) + 1 ≤ 64
  omega
theorem eq_nil (ds : List Int) : cmpop .eq (.list (iL ds)) (.list []) = some (decide (ds = [])) := by
  show (if (eqOk (.list (iL ds)) && eqOk (.list [])) = true then some (PyData.eqv (.list (iL ds)) (.list [])) else none) = _
  rw [eqOk_ints, show eqOk (.list []) = true from rfl]
  cases ds <;> simp [PyData.eqv, PyData.eqvAll]
theorem f39 (k : Nat) {b m : Int} {ts : List Int} (h : OkS b ts) (both : Bool) (S : Sto) : callAt fns W (k + 2) 39 [.d (sg b ts), .d (.bool both), .d (.int m)] S = .ok (.tuple (iL (kt m b ts both none ts))) S := by
  rw [r_39, b_39]
  have hlen := h.len
  have loop := (forL_ok (ck := chk [] (cl S [])) (asg := fun x ρ => put (.nm 4) x ρ) (b := fun ρ S => xs (callAt fns W (k + 1)) W (.cons (.ite (.and (.or (.var 1) (.cmp .eq (.call 30 (.cons (.var 0) (.cons (.var 4) .nil)) []) (.cst (.int 1)))) (.or (.cmp .eq (.var 3) (.lst .nil)) (.cmp .ge (.bin .sub (.var 4) (.ix (.var 3) (.u1 .neg (.cst (.int 1))))) (.var 2)))) (.cons (.app (.var 3) (.var 4)) .nil) .nil) .nil) ρ S) PyData.int
    (fun l ρ S' => ∃ (ds : List Int) (u : Option Vl), ρ = [some (.d (sg b ts)), some (.d (.bool both)), some (.d (.int m)), some (.loc S.length), u] ∧ S' = cl S ds ∧ ds ++ kt m b ts both ds.getLast? l = kt m b ts both none ts ∧ ds.length + l.length ≤ 100) ts _ _ ⟨[], none, rfl, rfl, rfl, by simp; omega⟩ ?_).get
  · obtain ⟨fl, S', e, ρ', rfl, ds, u, rfl, rfl, h1, h2⟩ := loop
    simp only [kt, List.append_nil] at h1
    subst h1
    refine q_new [] (by simp) ?_
    refine q_loop e (by simp) ?_
    exact (q_ret (.tuple (iL (kt m b ts both none ts))) (by simp)).trans (by simp)
  · rintro t l ρ S' ⟨ds, u, rfl, rfl, h1, h2⟩
    refine ⟨[some (.d (sg b ts)), some (.d (.bool both)), some (.d (.int m)), some (.loc S.length), some (.d (.int t))], rfl, ?_⟩
    simp only [List.length_cons] at h2
    have hlt : ds.length < 16777216 := by omega
    have e4 : ∀ S, callAt fns W (k + 1) 30 [.d (sg b ts), .d (.int t)] S = .ok (.int (val b ts t)) S := fun S => f30 k b t ts S (by omega)
    have cond : ((ev (callAt fns W (k + 1)) (.and (.or (.var 1) (.cmp .eq (.call 30 (.cons (.var 0) (.cons (.var 4) .nil)) []) (.cst (.int 1)))) (.or (.cmp .eq (.var 3) (.lst .nil)) (.cmp .ge (.bin .sub (.var 4) (.ix (.var 3) (.u1 .neg (.cst (.int 1))))) (.var 2)))) [some (.d (sg b ts)), some (.d (.bool both)), some (.d (.int m)), some (.loc S.length), some (.d (.int t))] (cl S ds)).bind fun v S1 => test S1 v) = .ok ((decide (val b ts t = 1) || both) && (match ds.getLast? with | none => true | some l => decide (m ≤ t - l))) (cl S ds) := by
      have a1 : ((ev (callAt fns W (k + 1)) (.or (.var 1) (.cmp .eq (.call 30 (.cons (.var 0) (.cons (.var 4) .nil)) []) (.cst (.int 1)))) [some (.d (sg b ts)), some (.d (.bool both)), some (.d (.int m)), some (.loc S.length), some (.d (.int t))] (cl S ds))) = .ok (.d (.bool (decide (val b ts t = 1) || both))) (cl S ds) := by
        cases both <;> simp [e4]
      have a2 : ((ev (callAt fns W (k + 1)) (.or (.cmp .eq (.var 3) (.lst .nil)) (.cmp .ge (.bin .sub (.var 4) (.ix (.var 3) (.u1 .neg (.cst (.int 1))))) (.var 2))) [some (.d (sg b ts)), some (.d (.bool both)), some (.d (.int m)), some (.loc S.length), some (.d (.int t))] (cl S ds))) = .ok (.d (.bool (match ds.getLast? with | none => true | some l => decide (m ≤ t - l)))) (cl S ds) := by
        have c0 := eq_nil ds
        cases hl : ds.getLast? with
        | none =>
          have : ds = [] := by simpa using hl
          subst this
          simp at c0
          simp [c0]
        | some l =>
          have i1 := idx_last hl
          have hne : ds ≠ [] := by intro e; subst e; simp at hl
          simp [hne] at c0
          simp [c0, i1]
      rw [ev_and, a1, R.bind_ok, test_bool, R.bind_ok]
      split
      · rename_i q
        rw [a2, q]; rfl
      · rename_i q
        simp only [Bool.not_eq_true] at q
        rw [q]; rfl
    have st : ∀ e : E, True := fun _ => trivial
    cases q : ((decide (val b ts t = 1) || both) && (match ds.getLast? with | none => true | some l => decide (m ≤ t - l))) with
    | true =>
      rw [q] at cond
      refine Ok_eq (a := .nx _) (S' := cl S (ds ++ [t])) (by rw [xs_cons, q_tst cond]; simp [hlt]; rfl) ⟨_, rfl, rfl, ds ++ [t], _, rfl, rfl, ?_, by simp; omega⟩
      rw [← h1, kt_cons, if_pos q]
      simp
    | false =>
      rw [q] at cond
      refine Ok_eq (a := .nx _) (S' := cl S ds) (by rw [xs_cons, q_tst cond]; simp; rfl) ⟨_, rfl, rfl, ds, _, rfl, rfl, ?_, by omega⟩
      rw [← h1, kt_cons, if_neg (by rw [q]; decide)]
end M74
/-! part M74f -/
set_option linter.all false
set_option maxRecDepth 100000
set_option maxHeartbeats 1000000
/-! Kept rises, shortest, measure. -/
namespace M74
open PySem In Tx P74
def okL (m t : Int) : Option Int → Bool
  | none => true
  | some l => decide (m ≤ t - l)
theorem kt_cons' (m b : Int) (ts0 : List Int) (both : Bool) (last : Option Int) (t : Int) (r : List Int) : kt m b ts0 both last (t :: r) = if ((decide (val b ts0 t = 1) || both) && okL m t last) = true then t :: kt m b ts0 both (some t) r else kt m b ts0 both last r := by
  cases last <;> rfl
theorem f23 (k : Nat) {b m : Int} {ts : List Int} (h : OkS b ts) (both : Bool) (g1 : 0 ≤ m) (g2 : m ≤ 1000000) (S : Sto) : callAt fns W (k + 5) 23 [.d (sg b ts), .d (.bool both), .d (.int m)] S = .ok (.tuple (iL (kt m b ts both none ts))) S := by
  rw [r_23, b_23]
  have hlen := h.len
  have loop := (forL_ok (ck := chk [] (cl S [])) (asg := fun x ρ => put (.nm 4) x ρ) (b := fun ρ S => xs (callAt fns W (k + 4)) W (.cons (.ite (.and (.or (.cmp .eq (.call 4 (.cons (.var 0) (.cons (.var 4) .nil)) []) (.cst (.int 1))) (.var 1)) (.or (.not (.var 3)) (.cmp .ge (.bin .sub (.var 4) (.ix (.var 3) (.u1 .neg (.cst (.int 1))))) (.var 2)))) (.cons (.app (.var 3) (.var 4)) .nil) .nil) .nil) ρ S) PyData.int
    (fun l ρ S' => ∃ (ds : List Int) (u : Option Vl), ρ = [some (.d (sg b ts)), some (.d (.bool both)), some (.d (.int m)), some (.loc S.length), u] ∧ S' = cl S ds ∧ ds ++ kt m b ts both ds.getLast? l = kt m b ts both none ts ∧ ds.length + l.length ≤ 100) ts _ _ ⟨[], none, rfl, rfl, rfl, by simp; omega⟩ ?_).get
  · obtain ⟨fl, S', e, ρ', rfl, ds, u, rfl, rfl, h1, h2⟩ := loop
    simp only [kt, List.append_nil] at h1
    subst h1
    refine q_drop (x := .none) (by simp [f3 k h]) ?_
    refine q_no (by simp [In.isType]) ?_
    refine q_drop (x := .none) (by simp [f8 (k + 1) g1 g2]) ?_
    refine q_new [] (by simp) ?_
    refine q_loop e (by simp) ?_
    exact (q_ret (.tuple (iL (kt m b ts both none ts))) (by simp)).trans (by simp)
  · rintro t l ρ S' ⟨ds, u, rfl, rfl, h1, h2⟩
    refine ⟨[some (.d (sg b ts)), some (.d (.bool both)), some (.d (.int m)), some (.loc S.length), some (.d (.int t))], rfl, ?_⟩
    simp only [List.length_cons] at h2
    have hlt : ds.length < 16777216 := by omega
    have e4 : ∀ S, callAt fns W (k + 4) 4 [.d (sg b ts), .d (.int t)] S = .ok (.int (val b ts t)) S := fun S => f4 (k + 3) b t ts S (by omega)
    have cond : ((ev (callAt fns W (k + 4)) (.and (.or (.cmp .eq (.call 4 (.cons (.var 0) (.cons (.var 4) .nil)) []) (.cst (.int 1))) (.var 1)) (.or (.not (.var 3)) (.cmp .ge (.bin .sub (.var 4) (.ix (.var 3) (.u1 .neg (.cst (.int 1))))) (.var 2)))) [some (.d (sg b ts)), some (.d (.bool both)), some (.d (.int m)), some (.loc S.length), some (.d (.int t))] (cl S ds)).bind fun v S1 => test S1 v) = .ok ((decide (val b ts t = 1) || both) && okL m t ds.getLast?) (cl S ds) := by
      have a1 : ((ev (callAt fns W (k + 4)) (.or (.cmp .eq (.call 4 (.cons (.var 0) (.cons (.var 4) .nil)) []) (.cst (.int 1))) (.var 1)) [some (.d (sg b ts)), some (.d (.bool both)), some (.d (.int m)), some (.loc S.length), some (.d (.int t))] (cl S ds))) = .ok (.d (.bool (decide (val b ts t = 1) || both))) (cl S ds) := by
        by_cases c : val b ts t = 1 <;> simp [e4, c]
      have a2 : ((ev (callAt fns W (k + 4)) (.or (.not (.var 3)) (.cmp .ge (.bin .sub (.var 4) (.ix (.var 3) (.u1 .neg (.cst (.int 1))))) (.var 2))) [some (.d (sg b ts)), some (.d (.bool both)), some (.d (.int m)), some (.loc S.length), some (.d (.int t))] (cl S ds))) = .ok (.d (.bool (okL m t ds.getLast?))) (cl S ds) := by
        have tl : test (cl S ds) (.loc S.length) = .ok (!(iL ds).isEmpty) (cl S ds) := by
          unfold test
          rw [view_loc, last_get]
          rfl
        simp only [cl, iL] at tl
        cases hl : ds.getLast? with
        | none =>
          have : ds = [] := by simpa using hl
          subst this
          have tl' : test (cl S []) (.loc S.length) = .ok false (cl S []) := tl
          rw [ev_or, ev_not, ev_vr]
          simp only [List.getElem?_cons_succ, List.getElem?_cons_zero, getV_some, R.bind_ok, tl']
          simp [okL]
        | some l =>
          have i1 := idx_last hl
          have hne : ds ≠ [] := by intro e; subst e; simp at hl
          have h0 : (ds.map PyData.int).isEmpty = false := by cases ds with | nil => exact absurd rfl hne | cons _ _ => rfl
          rw [h0] at tl
          simp [tl, i1, okL]
      rw [ev_and, a1, R.bind_ok, test_bool, R.bind_ok]
      split
      · rename_i q
        rw [a2, q]; rfl
      · rename_i q
        simp only [Bool.not_eq_true] at q
        rw [q]; rfl
    cases q : ((decide (val b ts t = 1) || both) && okL m t ds.getLast?) with
    | true =>
      rw [q] at cond
      refine Ok_eq (a := .nx _) (S' := cl S (ds ++ [t])) (by rw [xs_cons, q_tst cond]; simp [hlt]; rfl) ⟨_, rfl, rfl, ds ++ [t], _, rfl, rfl, ?_, by simp; omega⟩
      rw [← h1, kt_cons', if_pos q]
      simp
    | false =>
      rw [q] at cond
      refine Ok_eq (a := .nx _) (S' := cl S ds) (by rw [xs_cons, q_tst cond]; simp; rfl) ⟨_, rfl, rfl, ds, _, rfl, rfl, ?_, by omega⟩
      rw [← h1, kt_cons', if_neg (by rw [q]; decide)]
theorem f23b (k : Nat) {b : Int} {ts : List Int} (h : OkS b ts) {y : PyData} (hy : In.isType y "bool" = some false) (x : PyData) (S : Sto) : callAt fns W (k + 5) 23 [.d (sg b ts), .d y, .d x] S = .ex "ArgumentError" (.str "both") S := by
  rw [r_23]
  simp [b_23, f3 k h, hy]
theorem f23c (k : Nat) {b : Int} {ts : List Int} (h : OkS b ts) {x : PyData} (hx : inR 0 1000000 x = false) (both : Bool) (S : Sto) : callAt fns W (k + 5) 23 [.d (sg b ts), .d (.bool both), .d x] S = .ex "ArgumentError" (.str "least") S := by
  rw [r_23]
  simp [b_23, f3 k h, In.isType, f8b (k + 1) hx]
def gp (ts : List Int) : List Int := (prs ts).map fun p => p.2 - p.1
def mn : List Int → PyData
  | [] => .none
  | a :: r => .int (minI (a :: r))
theorem f21 (k : Nat) {b : Int} {ts : List Int} (h : OkS b ts) (S : Sto) : callAt fns W (k + 5) 21 [.d (sg b ts)] S = .ok (mn (gp ts)) S := by
  rw [r_21, b_21]
  have pl := prs_len ts
  have hlen := h.len
  refine q_drop (x := .none) (by simp [f3 k h]) ?_
  have e2 : ev (callAt fns W (k + 4)) (.lc [2, 3] (.tp (.cons (.nm 2) (.cons (.nm 3) .nil))) (.zip (.sl (.ix (.var 0) (.cst (.int 1))) .nil (.cons (.u1 .neg (.cst (.int 1))) .nil)) (.sl (.ix (.var 0) (.cst (.int 1))) (.cons (.cst (.int 1)) .nil) .nil)) .nil (.bin .sub (.var 3) (.var 2))) [some (.d (sg b ts)), none, none, none] S = .ok (.d (.list (iL (gp ts)))) S := by
    rw [show iL (gp ts) = (prs ts).map fun p => .int (p.2 - p.1) from List.map_map ..]
    refine ev_lc0 (gs := []) pr _ (by simp [slice_initT, slice_tailT, zip_prs]) (by simp only [cap]; omega) fun a ha => ⟨_, by simp [wipe]; rfl, ?_⟩
    simp
  refine q_asg _ e2 rfl ?_
  cases hg : gp ts with
  | nil => exact (q_ret .none (by simp)).trans (by simp [mn])
  | cons a r =>
    have := u1_minl a r
    refine (q_ret (.int (minI (a :: r))) ?_).trans (by simp [mn])
    simp [-List.map_cons, this]
theorem f20 (k : Nat) {b p q : Int} {ts : List Int} (h : OkS b ts) (hp : lim p) (hq : lim q) (hpq : p ≤ q) (S : Sto) : callAt fns W (k + 5) 20 [.d (sg b ts), .d (.int p), .d (.int q)] S = .ok (.int (sumOn b ts (p :: (mid p q ts ++ [q])))) S := by
  rw [r_20, b_20]
  have hlen := h.len
  have ml : (mid p q ts).length ≤ ts.length := List.length_filter_le _ _
  have pl := prs_len (p :: (mid p q ts ++ [q]))
  simp only [List.length_cons, List.length_append, List.length_nil] at pl
  have g1 : inR (-1000000) 1000000 (.int p) = true := by simp [inR]; omega
  have g2 : inR p 1000000 (.int q) = true := by simp [inR]; omega
  refine q_drop (x := .none) (by simp [f3 k h]) ?_
  refine q_no (by simp [f1, g1]) ?_
  refine q_no (by simp [f1, g2]) ?_
  have e1 : ev (callAt fns W (k + 4)) (.lc [4] (.nm 4) (.e (.ix (.var 0) (.cst (.int 1)))) (.cons (.ch .lt .lt (.var 1) (.var 4) (.var 2)) .nil) (.var 4)) [some (.d (sg b ts)), some (.d (.int p)), some (.d (.int q)), none, none, none, none] S = .ok (.d (.list (iL (mid p q ts)))) S := by
    refine ev_lc (gs := []) PyData.int _ _ (by simp) (by simp only [cap]; omega) fun a ha => ⟨_, rfl, ?_, fun _ => ?_⟩
    · by_cases c : p < a <;> simp [wipe, c]
    · simp [wipe]
  have cat1 : binop .add (.list [.int p]) (.list (iL (mid p q ts))) = some (.list (iL (p :: mid p q ts))) := by
    rw [bin_cat _ _ (by simp only [iL, List.length_map, List.length_cons, List.length_nil, cap]; omega)]; rfl
  have cat2 : binop .add (.list (iL (p :: mid p q ts))) (.list [.int q]) = some (.list (iL (p :: (mid p q ts ++ [q])))) := by
    rw [bin_cat _ _ (by simp only [iL, List.length_map, List.length_cons, List.length_nil, cap]; omega)]
    simp
  refine q_asg (.list (iL (p :: (mid p q ts ++ [q])))) (ev_bin_of (ev_bin_of (x := .list [.int p]) (S1 := S) (by simp) e1 cat1) (y := .list [.int q]) (by simp) cat2) rfl ?_
  have e2 : ∀ ρ : In.Env, ρ = [some (.d (sg b ts)), some (.d (.int p)), some (.d (.int q)), some (.d (.list (iL (p :: (mid p q ts ++ [q]))))), none, none, none] → ev (callAt fns W (k + 4)) (.lc [5, 6] (.tp (.cons (.nm 5) (.cons (.nm 6) .nil))) (.zip (.sl (.var 3) .nil (.cons (.u1 .neg (.cst (.int 1))) .nil)) (.sl (.var 3) (.cons (.cst (.int 1)) .nil) .nil)) (.cons (.cmp .eq (.call 4 (.cons (.var 0) (.cons (.var 5) .nil)) []) (.cst (.int 1))) .nil) (.bin .sub (.var 6) (.var 5))) ρ S = .ok (.d (.list (iL (((prs (p :: (mid p q ts ++ [q]))).filter fun x => decide (val b ts x.1 = 1)).map fun x => x.2 - x.1)))) S := by
    rintro ρ rfl
    generalize hL : p :: (mid p q ts ++ [q]) = L at *
    rw [show iL (((prs L).filter fun x => decide (val b ts x.1 = 1)).map fun x => x.2 - x.1) = ((prs L).filter fun x => decide (val b ts x.1 = 1)).map fun x => .int (x.2 - x.1) from List.map_map ..]
    refine ev_lc (gs := []) pr _ _ (by simp [slice_initL, slice_tailL, zip_prs]) (by simp only [cap]; omega) fun a ha => ⟨_, by simp [wipe]; rfl, ?_, fun _ => ?_⟩
    · simp [f4 (k + 3) b a.1 ts S (by omega)]
    · simp
  exact (q_ret _ (ev_u1_of (e2 _ rfl) (u1_sum _))).trans (by simp [sumOn])
theorem f20b (k : Nat) {b : Int} {ts : List Int} (h : OkS b ts) {x : PyData} (hx : inR (-1000000) 1000000 x = false) (y : PyData) (S : Sto) : callAt fns W (k + 5) 20 [.d (sg b ts), .d x, .d y] S = .ex "ArgumentError" (.str "begin") S := by
  rw [r_20]
  simp [b_20, f3 k h, f1, hx]
theorem f20c (k : Nat) {b p : Int} {ts : List Int} (h : OkS b ts) (hp : lim p) {y : PyData} (hy : inR p 1000000 y = false) (S : Sto) : callAt fns W (k + 5) 20 [.d (sg b ts), .d (.int p), .d y] S = .ex "ArgumentError" (.str "end") S := by
  rw [r_20]
  have g1 : inR (-1000000) 1000000 (.int p) = true := by simp [inR]; omega
  simp [b_20, f3 k h, f1, g1, hy]
end M74
/-! part M74h -/
set_option linter.all false
set_option maxRecDepth 100000
set_option maxHeartbeats 1000000
/-! The law's draws, at this law's places. -/
namespace M74
open PySem In Tx P74
/-- the store with the place p of the script -/
abbrev at_ (p : Int) (R : Sto) : Sto := ⟨true, .lst [.int p]⟩ :: R
theorem f24 (k : Nat) (ns : List Int) (hl : ns.length ≤ 63) (S : Sto) : ∃ ds : List Int, nn ds ∧ callAt fns W (k + 1) 24 [.d (.list (ns.map .int))] S = .ok (li ds) S := by
  obtain ⟨ds, h1, _, e⟩ := draws_ok (F := callAt fns W k) (W := W) (S := S) ns hl
  exact ⟨ds, h1, by rw [r_24]; exact e⟩
theorem f25 (k : Nat) {ds : List Int} (hd : nn ds) {p : Int} (hp : 0 ≤ p) (S : Sto) : ∃ v : Int, 0 ≤ v ∧ callAt fns W (k + 1) 25 [.d (li ds), .d (.int p)] S = .ok (.int v) S := by
  obtain ⟨v, h1, e⟩ := more_ok (F := callAt fns W k) (W := W) (S := S) ds hd p hp
  exact ⟨v, h1, by rw [r_25]; exact e⟩
theorem f26 (k : Nat) {ds : List Int} (hd : nn ds) {p many : Int} (hp : 0 ≤ p) (hm : 0 < many) (R : Sto) : ∃ v : Int, 0 ≤ v ∧ v < many ∧ callAt fns W (k + 2) 26 [.d (li ds), .loc 0, .d (.int many)] (at_ p R) = .ok (.int v) (at_ (p + 1) R) := by
  obtain ⟨v, h1, h2, e⟩ := take_ok (F := callAt fns W (k + 1)) (W := W) (S := at_ p R) 25 ds hd (fun S p hp => f25 k hd hp S) 0 p many rfl hp hm
  exact ⟨v, h1, h2, by rw [r_26]; exact e⟩
theorem f27 (k : Nat) {ds : List Int} (hd : nn ds) {p : Int} (hp : 0 ≤ p) {rows : List PyData} (hr : rows ≠ []) (R : Sto) : ∃ x ∈ rows, callAt fns W (k + 3) 27 [.d (.list rows), .d (li ds), .loc 0] (at_ p R) = .ok x (at_ (p + 1) R) := by
  have hl : 0 < rows.length := List.length_pos_iff.mpr hr
  obtain ⟨x, h1, e⟩ := one_ok (F := callAt fns W (k + 2)) (W := W) (S := at_ p R) 26 (li ds) rows hr 0 (at_ (p + 1) R) rfl (f26 k hd hp (by omega) R)
  exact ⟨x, h1, by rw [r_27]; exact e⟩
/-- the same, twice -/
theorem f28 (k : Nat) {d : PyData} {e m : Nat} (h : Gd d e m) (h1 : e ≤ 64) (h2 : m ≤ cap) (S : Sto) : callAt fns W (k + 1) 28 [.d d, .d d] S = .ok (.bool true) S := by
  rw [r_28]
  have hs : (PyData.str d.shown).canLay0 = true := h.txt
  have q : cmpop .eq (.str d.shown) (.str d.shown) = some true := by
    show (if (eqOk (.str d.shown) && eqOk (.str d.shown)) = true then some (PyData.eqv (.str d.shown) (.str d.shown)) else none) = _
    have e1 : eqOk (.str d.shown) = true := by
      show ((PyData.str d.shown).canLay0 && decide ((PyData.str d.shown).depth ≤ 64)) = true
      rw [hs]; rfl
    rw [e1, SeqAt.eqv_refl _ hs]; rfl
  simp [b_28, gd_eq h h1, gd_repr h h1 h2, q]
end M74
/-! part InV -/
set_option linter.all false
set_option maxRecDepth 100000
set_option maxHeartbeats 1000000
/-! Still more tools for runs: whole expressions by what their parts give. -/
namespace In
open PySem
variable {F : Fns} {W : Nat} {ρ : Env} {S S1 S2 S3 : Sto}
@[simp] theorem guard_loc (n : Nat) : guard (.loc n) = [n] := rfl
theorem evps_c {e : E} {es : Es} {x : PyData} {ys : List PyData} (h : ev F e ρ S = .ok (.d x) S1) (h2 : evps F es ρ S1 = .ok ys S2) : evps F (.cons e es) ρ S = .ok (x :: ys) S2 := by
  rw [evps_cons, h]; simp only [R.bind_ok, shut_d, h2]
theorem ev_tup_of {es : Es} {ys : List PyData} (h : evps F es ρ S = .ok ys S1) : ev F (.tup es) ρ S = .ok (.d (.tuple ys)) S1 := by
  rw [ev_tup, h]; rfl
theorem ev_lst_of {es : Es} {ys : List PyData} (h : evps F es ρ S = .ok ys S1) : ev F (.lst es) ρ S = .ok (.d (.list ys)) S1 := by
  rw [ev_lst, h]; rfl
theorem ev_cmp_of {o : C2} {a b : E} {x y : PyData} {z : Bool} (h : ev F a ρ S = .ok (.d x) S1) (h1 : ev F b ρ S1 = .ok (.d y) S2) (h2 : cmpop o x y = some z) : ev F (.cmp o a b) ρ S = .ok (.d (.bool z)) S2 := by
  rw [ev_cmp, h, R.bind_ok, h1, R.bind_ok, view_d, view_d, Option.bind_some, Option.bind_some, h2]
  rfl
theorem ev_ix_of {a b : E} {x y z : PyData} (h : ev F a ρ S = .ok (.d x) S1) (h1 : ev F b ρ S1 = .ok (.d y) S2) (h2 : index x y = some z) : ev F (.ix a b) ρ S = .ok (.d z) S2 := by
  rw [ev_ix, h, R.bind_ok, h1, R.bind_ok, view_d, view_d, Option.bind_some, Option.bind_some, h2]
  rfl
theorem ev_u2_of {o : U2} {a b : E} {x y z : PyData} (h : ev F a ρ S = .ok (.d x) S1) (h1 : ev F b ρ S1 = .ok (.d y) S2) (h2 : u2 o x y = some z) : ev F (.u2 o a b) ρ S = .ok (.d z) S2 := by
  rw [ev_u2, h, R.bind_ok, h1, R.bind_ok, view_d, view_d, Option.bind_some, Option.bind_some, h2]
  rfl
theorem evs_c {e : E} {es : Es} {v : Vl} {vs : List Vl} (h : ev F e ρ S = .ok v S1) (h2 : evs F es ρ S1 = .ok vs S2) : evs F (.cons e es) ρ S = .ok (v :: vs) S2 := by
  rw [evs_cons, h]; simp only [R.bind_ok, h2]
theorem ev_call_of {f : Nat} {es : Es} {dfl : List PyData} {vs : List Vl} {x : PyData} (h : evs F es ρ S = .ok vs S1) (h2 : F f (vs ++ dfl.map .d) S1 = .ok x S2) : ev F (.call f es dfl) ρ S = .ok (.d x) S2 := by
  rw [ev_call, h, R.bind_ok, h2]; rfl
/-- the truth of an expression -/
def tst (F : Fns) (e : E) (ρ : Env) (S : Sto) : R Bool := (ev F e ρ S).bind fun v S1 => test S1 v
theorem tst_b {e : E} {b : Bool} (h : ev F e ρ S = .ok (.d (.bool b)) S1) : tst F e ρ S = .ok b S1 := by
  unfold tst; rw [h]; rfl
theorem tst_not {e : E} {b : Bool} (h : tst F e ρ S = .ok b S1) : tst F (.not e) ρ S = .ok (!b) S1 := by
  unfold tst at *
  rw [ev_not]
  cases h0 : ev F e ρ S with
  | ok v S' => rw [h0] at h; simp only [R.bind_ok] at h ⊢; rw [h]; rfl
  | no => rw [h0] at h; cases h
  | ex _ _ _ => rw [h0] at h; cases h
theorem tst_and {a e : E} {x : Bool} (h : tst F a ρ S = .ok x S1) : tst F (.and a e) ρ S = if x then tst F e ρ S1 else .ok false S1 := by
  unfold tst at *
  rw [ev_and]
  cases h0 : ev F a ρ S with
  | ok v S' =>
    rw [h0] at h
    simp only [R.bind_ok] at h ⊢
    have hs : S' = S1 := by
      unfold test at h
      cases hv : (view S' v).bind truthy with
      | none => rw [hv] at h; cases h
      | some c => rw [hv] at h; simp only [R.opt_some, R.ok.injEq] at h; exact h.2
    subst hs
    rw [h, R.bind_ok]
    cases x with
    | true => rfl
    | false => simp only [Bool.false_eq_true, if_false, R.bind_ok]; exact h
  | no => rw [h0] at h; cases h
  | ex _ _ _ => rw [h0] at h; cases h
theorem tst_or {a e : E} {x : Bool} (h : tst F a ρ S = .ok x S1) : tst F (.or a e) ρ S = if x then .ok true S1 else tst F e ρ S1 := by
  unfold tst at *
  rw [ev_or]
  cases h0 : ev F a ρ S with
  | ok v S' =>
    rw [h0] at h
    simp only [R.bind_ok] at h ⊢
    have hs : S' = S1 := by
      unfold test at h
      cases hv : (view S' v).bind truthy with
      | none => rw [hv] at h; cases h
      | some c => rw [hv] at h; simp only [R.opt_some, R.ok.injEq] at h; exact h.2
    subst hs
    rw [h, R.bind_ok]
    cases x with
    | true => simp only [if_true, R.bind_ok]; exact h
    | false => rfl
  | no => rw [h0] at h; cases h
  | ex _ _ _ => rw [h0] at h; cases h
theorem q_par {n i j : Nat} {a b : E} {cs : Cs} {r : R PyData} (v w : PyData) (h1 : ev F a ρ S = .ok (.d v) S1) (h2 : ev F b ρ S1 = .ok (.d w) S2) (h3 : fin n (xs F W cs ((ρ.set i (some (.d v))).set j (some (.d w))) S2) = r) : fin n (xs F W (.cons (.par i j false false a b) cs) ρ S) = r :=
  fin_step (by rw [x1_par, h1]; simp only [R.bind_ok, liveIf_f, h2]) h3
/-- a test that does not hold, with nothing else -/
theorem x1_no {c : E} {a : Cs} (h : tst F c ρ S = .ok false S1) : x1 F W (.ite c a .nil) ρ S = .ok (.nx ρ) S1 := by
  rw [q_tst h]; simp
theorem x1_yes {c : E} {a b : Cs} (h : tst F c ρ S = .ok true S1) : x1 F W (.ite c a b) ρ S = xs F W a ρ S1 := by
  rw [q_tst h]; simp
end In
/-! part M74i -/
set_option linter.all false
set_option maxRecDepth 100000
set_option maxHeartbeats 1000000
/-! The law's signals. -/
namespace M74
open PySem In Tx P74
/-- a signal that the law has drawn -/
structure OkL (b : Int) (ts : List Int) : Prop extends OkS b ts where
  low : ∀ t ∈ ts, -40000 ≤ t
  gap : ∀ g ∈ gp ts, g ≤ 40000
theorem gp_cons (a b : Int) (r : List Int) : gp (a :: b :: r) = (b - a) :: gp (b :: r) := rfl
theorem gp_pos {ts : List Int} (h : pw ts) : ∀ g ∈ gp ts, 0 < g := by
  intro g hg
  obtain ⟨p, hp, rfl⟩ := List.mem_map.mp hg
  have := (prs_mem ts h p hp).1
  omega
theorem OkL.flip {b : Int} {ts : List Int} (h : OkL b ts) : OkL (1 - b) ts := ⟨h.toOkS.flip, h.low, h.gap⟩
theorem gp_init : ∀ (ts : List Int), ∀ g ∈ gp ts.dropLast, g ∈ gp ts
  | [], _, h => by simp [gp, prs] at h
  | [_], _, h => by simp [gp, prs] at h
  | [_, _], _, h => by simp [gp, prs] at h
  | a :: b :: c :: r, g, h => by
    have ih := gp_init (b :: c :: r) g
    rw [List.dropLast_cons₂, List.dropLast_cons₂, gp_cons] at h
    rw [gp_cons]
    rcases List.mem_cons.mp h with rfl | h
    · exact List.mem_cons_self
    · refine List.mem_cons_of_mem _ (ih ?_)
      rw [List.dropLast_cons₂]
      exact h
theorem OkL.init {b : Int} {ts : List Int} (h : OkL b ts) : OkL b ts.dropLast :=
  ⟨⟨h.bit, by have := h.len; simp; omega, fun t ht => h.lim t ((List.dropLast_sublist ts).subset ht), h.pw.sublist (List.dropLast_sublist ts)⟩, fun t ht => h.low t ((List.dropLast_sublist ts).subset ht), fun g hg => h.gap g (gp_init ts g hg)⟩
/-- a row of times under construction: ascending, no long gap -/
def Asc (lo : Int) : List Int → Prop
  | [] => True
  | t :: r => lo ≤ t ∧ Asc' t r
where Asc' : Int → List Int → Prop
  | _, [] => True
  | a, t :: r => a < t ∧ t - a ≤ 40000 ∧ Asc' t r
theorem asc_mem : ∀ (r : List Int) (a : Int), Asc.Asc' a r → ∀ t ∈ r, a < t
  | [], _, _, _, h => by simp at h
  | x :: r, a, h, t, ht => by
    have h1 := h.1
    rcases List.mem_cons.mp ht with rfl | ht
    · exact h1
    · have := asc_mem r x h.2.2 t ht
      omega
theorem asc_pw : ∀ (r : List Int) (a : Int), Asc.Asc' a r → pw (a :: r)
  | [], _, _ => by simp
  | x :: r, a, h => List.pairwise_cons.mpr ⟨asc_mem _ a h, asc_pw r x h.2.2⟩
theorem asc_gap (M : Int) : ∀ (r : List Int) (a : Int), Asc.Asc' a r → ∀ g ∈ gp ((a :: r).filter fun t => decide (t ≤ M)), g ≤ 40000
  | [], a, _, g, hg => by
    rw [List.filter_cons] at hg
    split at hg <;> simp [gp, prs] at hg
  | x :: r, a, h, g, hg => by
    have ih := asc_gap M r x h.2.2 g
    have h1 := h.1
    have h2 := h.2.1
    rw [List.filter_cons] at hg
    by_cases c : x ≤ M
    · have e : (x :: r).filter (fun t => decide (t ≤ M)) = x :: r.filter fun t => decide (t ≤ M) := by rw [List.filter_cons, if_pos (by simpa using c)]
      rw [e] at hg ih
      have ca : a ≤ M := by omega
      rw [if_pos (by simpa using ca), gp_cons] at hg
      rcases List.mem_cons.mp hg with rfl | hg
      · exact h2
      · exact ih hg
    · have e : (x :: r).filter (fun t => decide (t ≤ M)) = [] := by
        rw [List.filter_eq_nil_iff]
        intro t ht
        have := asc_mem _ a h t ht
        rcases List.mem_cons.mp ht with rfl | ht
        · simpa using c
        · have := asc_mem _ x h.2.2 t ht
          simp; omega
      rw [e] at hg
      split at hg <;> simp [gp, prs] at hg
theorem asc_snoc : ∀ (r : List Int) (a : Int) (x : Int), Asc.Asc' a r → (r.getLast?.getD a) < x → x - (r.getLast?.getD a) ≤ 40000 → Asc.Asc' a (r ++ [x])
  | [], a, x, _, h1, h2 => ⟨by simpa using h1, by simpa using h2, trivial⟩
  | y :: r, a, x, h, h1, h2 => by
    have e : ((y :: r).getLast?.getD a) = r.getLast?.getD y := by
      cases r with
      | nil => rfl
      | cons z r => simp [List.getLast?_cons]
    rw [e] at h1 h2
    exact ⟨h.1, h.2.1, asc_snoc r y x h.2.2 h1 h2⟩
/-- what the loop of the law's signal keeps: times so far, now -/
def Row (now : Int) : List Int → Prop
  | [] => -40000 ≤ now
  | a :: r => -40000 ≤ a ∧ Asc.Asc' a r ∧ r.getLast?.getD a = now
theorem Row.more {now x : Int} {l : List Int} (h : Row now l) (h1 : now < x) (h2 : x - now ≤ 40000) : Row x (l ++ [x]) := by
  cases l with
  | nil => exact ⟨by have : -40000 ≤ now := h; omega, trivial, rfl⟩
  | cons a r =>
    obtain ⟨q1, q2, q3⟩ := h
    refine ⟨q1, asc_snoc r a x q2 (by omega) (by omega), by simp⟩
theorem Row.okL {now b : Int} {l : List Int} (h : Row now l) (hb : bit b) (hl : l.length ≤ 40) : OkL b (l.filter fun t => decide ((if t < 0 then -t else t) ≤ 1000000)) := by
  have low : ∀ t ∈ l, -40000 ≤ t := by
    cases l with
    | nil => intro t ht; simp at ht
    | cons a r =>
      intro t ht
      rcases List.mem_cons.mp ht with rfl | ht
      · exact h.1
      · have := asc_mem r a h.2.1 t ht
        have := h.1
        omega
  have e : (l.filter fun t => decide ((if t < 0 then -t else t) ≤ 1000000)) = l.filter fun t => decide (t ≤ 1000000) := by
    refine List.filter_congr fun t ht => ?_
    have := low t ht
    congr 1
    split <;> (apply propext; constructor <;> intro _ <;> omega)
  rw [e]
  have hpw : pw l := by
    cases l with
    | nil => simp
    | cons a r => exact asc_pw r a h.2.1
  refine ⟨⟨hb, Nat.le_trans (List.length_filter_le _ _) hl, fun t ht => ?_, hpw.filter _⟩, fun t ht => low t ((List.mem_filter.mp ht).1), ?_⟩
  · have h1 := low t ((List.mem_filter.mp ht).1)
    have h2 := (List.mem_filter.mp ht).2
    simp at h2
    omega
  · cases l with
    | nil => intro g hg; simp [gp, prs] at hg
    | cons a r => exact asc_gap 1000000 r a h.2.1
theorem f29 (k : Nat) {ds : List Int} (hd : nn ds) {p most far : Int} (hp : 0 ≤ p) (hm : 0 ≤ most) (hm2 : most ≤ 40) (hf : 0 < far) (hf2 : far ≤ 40000) (R : Sto) :
    ∃ b ts p', OkL b ts ∧ 0 ≤ p' ∧ callAt fns W (k + 4) 29 [.d (.int most), .d (.int far), .d (li ds), .loc 0] (at_ p R) = .ok (sg b ts) (at_ p' R) := by
  obtain ⟨x, hx, e27⟩ := f27 k hd hp (rows := [.int 0, .int (-3), .int (-far)]) (by simp) R
  have hx' : ∃ now, x = .int now ∧ -40000 ≤ now := by
    simp only [List.mem_cons, List.not_mem_nil, or_false] at hx
    rcases hx with rfl | rfl | rfl
    · exact ⟨_, rfl, by omega⟩
    · exact ⟨_, rfl, by omega⟩
    · exact ⟨_, rfl, by omega⟩
  obtain ⟨now, rfl, hnow⟩ := hx'
  obtain ⟨v, v0, v1, e26⟩ := f26 (k + 1) hd (p := p + 1) (by omega) (many := most + 1) (by omega) (R ++ [⟨true, .lst []⟩])
  obtain ⟨n, rfl⟩ := Int.eq_ofNat_of_zero_le v0
  have loop := (forL_ix (ρ := [some (.d (.int most)), some (.d (.int far)), some (.d (li ds)), some (.loc 0), none, some (.d (.int now)), some (.loc (R.length + 1)), none]) (S := at_ (p + 1 + 1) (R ++ [⟨true, .lst []⟩])) (ck := chk [] (at_ (p + 1 + 1) (R ++ [⟨true, .lst []⟩]))) (asg := fun x ρ => put (.nm 4) x ρ) (b := fun ρ S => xs (callAt fns W (k + 3)) W (.cons (.asg (.nm 5) (.bin .add (.bin .add (.var 5) (.cst (.int 1))) (.call 26 (.cons (.var 2) (.cons (.var 3) (.cons (.var 1) .nil))) []))) (.cons (.app (.var 6) (.var 5)) .nil)) ρ S)
    (fun i ρ S' => ∃ (now : Int) (tl : List Int) (q : Int) (u : Option Vl), ρ = [some (.d (.int most)), some (.d (.int far)), some (.d (li ds)), some (.loc 0), u, some (.d (.int now)), some (.loc (R.length + 1)), none] ∧ S' = at_ q (R ++ [⟨true, .lst (iL tl)⟩]) ∧ 0 ≤ q ∧ tl.length = i ∧ Row now tl) n ⟨now, [], p + 1 + 1, none, rfl, rfl, by omega, rfl, hnow⟩ ?_).get
  · obtain ⟨fl, S', e, ρ', rfl, now', tl, q, u, rfl, rfl, hq, hlen, hrow⟩ := loop
    obtain ⟨c, c0, c1, e26'⟩ := f26 (k + 1) hd (p := q) hq (many := 2) (by omega) (R ++ [⟨true, .lst (iL tl)⟩])
    refine ⟨c, _, q + 1, hrow.okL (b := c) (by unfold P74.bit; omega) (by omega), by omega, ?_⟩
    rw [r_29, b_29]
    refine fin_step (ρ' := [some (.d (.int most)), some (.d (.int far)), some (.d (li ds)), some (.loc 0), none, some (.d (.int now)), some (.loc (R.length + 1)), none]) (S' := at_ (p + 1) (R ++ [⟨true, .lst []⟩])) ?_ ?_
    · simp [e27]
    · refine q_loop e (evI_rlen ?_ (by omega)) ?_
      · simp [e26]
      · have el : ∀ Z : Int, ev (callAt fns W (k + 3)) (.lc [7] (.nm 7) (.e (.var 6)) (.cons (.cmp .le (.u1 .abs (.var 7)) (.cst (.int 1000000))) .nil) (.var 7)) [some (.d (.int most)), some (.d (.int far)), some (.d (li ds)), some (.loc 0), u, some (.d (.int now')), some (.loc (R.length + 1)), none] (at_ Z (R ++ [⟨true, .lst (iL tl)⟩])) = .ok (.d (.list (iL (tl.filter fun t => decide ((if t < 0 then -t else t) ≤ 1000000))))) (at_ Z (R ++ [⟨true, .lst (iL tl)⟩])) := fun Z => by
          refine ev_lc (gs := [R.length + 1]) PyData.int _ _ ?_ (by simp only [cap]; omega) fun a ha => ⟨_, rfl, ?_, fun _ => ?_⟩
          · simp
          · simp [wipe]
          · simp [wipe]
        refine (q_ret' (sg c (tl.filter fun t => decide ((if t < 0 then -t else t) ≤ 1000000))) (S' := at_ (q + 1) (R ++ [⟨true, .lst (iL tl)⟩])) ?_).trans ?_
        · exact ev_tup_of (evps_c (ev_call3 (x := .d (li ds)) (y := .loc 0) (z := .d (.int 2)) (by simp) (by simp) (by simp) e26') (evps_c (ev_u1_of (el (q + 1)) (u1_tupl _)) evps_nil))
        · simp [at_]
  · rintro i ρ S' hi ⟨now, tl, q, u, rfl, rfl, hq, hlen, hrow⟩
    obtain ⟨c, c0, c1, e26'⟩ := f26 (k + 1) hd (p := q) hq (many := far) hf (R ++ [⟨true, .lst (iL tl)⟩])
    have hlt : tl.length < 16777216 := by omega
    refine ⟨_, rfl, Ok_eq (a := .nx _) (S' := at_ (q + 1) (R ++ [⟨true, .lst (iL (tl ++ [now + 1 + c]))⟩])) ?_ ⟨_, rfl, rfl, now + 1 + c, tl ++ [now + 1 + c], q + 1, some (.d (.int (i : Int))), rfl, rfl, by omega, by simp; omega, hrow.more (by omega) (by omega)⟩⟩
    simp [e26', lstAt, hlt]
end M74
/-! part M74j -/
set_option linter.all false
set_option maxRecDepth 100000
set_option maxHeartbeats 1000000
/-! What _law_told tells. -/
namespace M74
open PySem In Tx P74
theorem caught_arg (x : PyData) (S : Sto) : caught [("ArgumentError", "argument")] "ArgumentError" x S = .ok (.rt (.tuple [.str "argument", x])) S := rfl
/-- an error's reason, told -/
abbrev arg (x : PyData) : PyData := .tuple [.str "argument", x]
theorem t0 (k : Nat) {x y z : Vl} {r : PyData} {S : Sto} (h : callAt fns W k 5 [x, y] S = .ok r S) : callAt fns W (k + 1) 40 [.d (.int 0), x, y, z] S = .ok r S := by
  rw [r_40]
  simp [b_40, h]
theorem t0b (k : Nat) {x y z : Vl} {r : PyData} {S : Sto} (h : callAt fns W k 5 [x, y] S = .ex "ArgumentError" r S) : callAt fns W (k + 1) 40 [.d (.int 0), x, y, z] S = .ok (arg r) S := by
  rw [r_40]
  simp [b_40, h, caught_arg]
theorem t1 (k : Nat) {x y z : Vl} {r : PyData} {S : Sto} (h : callAt fns W k 19 [x] S = .ok r S) : callAt fns W (k + 1) 40 [.d (.int 1), x, y, z] S = .ok r S := by
  rw [r_40]
  simp [b_40, h]
theorem t1b (k : Nat) {x y z : Vl} {r : PyData} {S : Sto} (h : callAt fns W k 19 [x] S = .ex "ArgumentError" r S) : callAt fns W (k + 1) 40 [.d (.int 1), x, y, z] S = .ok (arg r) S := by
  rw [r_40]
  simp [b_40, h, caught_arg]
theorem t2 (k : Nat) {x y z : Vl} {r : PyData} {S : Sto} (h : callAt fns W k 21 [x] S = .ok r S) : callAt fns W (k + 1) 40 [.d (.int 2), x, y, z] S = .ok r S := by
  rw [r_40]
  simp [b_40, h]
theorem t2b (k : Nat) {x y z : Vl} {r : PyData} {S : Sto} (h : callAt fns W k 21 [x] S = .ex "ArgumentError" r S) : callAt fns W (k + 1) 40 [.d (.int 2), x, y, z] S = .ok (arg r) S := by
  rw [r_40]
  simp [b_40, h, caught_arg]
theorem t3 (k : Nat) {x y z : Vl} {r : PyData} {S : Sto} (h : callAt fns W k 20 [x, y, z] S = .ok r S) : callAt fns W (k + 1) 40 [.d (.int 3), x, y, z] S = .ok r S := by
  rw [r_40]
  simp [b_40, h]
theorem t3b (k : Nat) {x y z : Vl} {r : PyData} {S : Sto} (h : callAt fns W k 20 [x, y, z] S = .ex "ArgumentError" r S) : callAt fns W (k + 1) 40 [.d (.int 3), x, y, z] S = .ok (arg r) S := by
  rw [r_40]
  simp [b_40, h, caught_arg]
theorem t4 (k : Nat) {x y z : Vl} {r : PyData} {S : Sto} (h : callAt fns W k 7 [x] S = .ok r S) : callAt fns W (k + 1) 40 [.d (.int 4), x, y, z] S = .ok r S := by
  rw [r_40]
  simp [b_40, h]
theorem t4b (k : Nat) {x y z : Vl} {r : PyData} {S : Sto} (h : callAt fns W k 7 [x] S = .ex "ArgumentError" r S) : callAt fns W (k + 1) 40 [.d (.int 4), x, y, z] S = .ok (arg r) S := by
  rw [r_40]
  simp [b_40, h, caught_arg]
theorem t5 (k : Nat) {x y z : Vl} {r : PyData} {S : Sto} (h : callAt fns W k 9 [x, y] S = .ok r S) : callAt fns W (k + 1) 40 [.d (.int 5), x, y, z] S = .ok r S := by
  rw [r_40]
  simp [b_40, h]
theorem t5b (k : Nat) {x y z : Vl} {r : PyData} {S : Sto} (h : callAt fns W k 9 [x, y] S = .ex "ArgumentError" r S) : callAt fns W (k + 1) 40 [.d (.int 5), x, y, z] S = .ok (arg r) S := by
  rw [r_40]
  simp [b_40, h, caught_arg]
theorem t6 (k : Nat) {x y z : Vl} {r : PyData} {S : Sto} (h : callAt fns W k 17 [x, y] S = .ok r S) : callAt fns W (k + 1) 40 [.d (.int 6), x, y, z] S = .ok r S := by
  rw [r_40]
  simp [b_40, h]
theorem t6b (k : Nat) {x y z : Vl} {r : PyData} {S : Sto} (h : callAt fns W k 17 [x, y] S = .ex "ArgumentError" r S) : callAt fns W (k + 1) 40 [.d (.int 6), x, y, z] S = .ok (arg r) S := by
  rw [r_40]
  simp [b_40, h, caught_arg]
theorem t7 (k : Nat) {x y z : Vl} {r : PyData} {S : Sto} (h : callAt fns W k 18 [x, y] S = .ok r S) : callAt fns W (k + 1) 40 [.d (.int 7), x, y, z] S = .ok r S := by
  rw [r_40]
  simp [b_40, h]
theorem t7b (k : Nat) {x y z : Vl} {r : PyData} {S : Sto} (h : callAt fns W k 18 [x, y] S = .ex "ArgumentError" r S) : callAt fns W (k + 1) 40 [.d (.int 7), x, y, z] S = .ok (arg r) S := by
  rw [r_40]
  simp [b_40, h, caught_arg]
theorem t8 (k : Nat) {x y z : Vl} {r : PyData} {S : Sto} (h : callAt fns W k 14 [x, y] S = .ok r S) : callAt fns W (k + 1) 40 [.d (.int 8), x, y, z] S = .ok r S := by
  rw [r_40]
  simp [b_40, h]
theorem t8b (k : Nat) {x y z : Vl} {r : PyData} {S : Sto} (h : callAt fns W k 14 [x, y] S = .ex "ArgumentError" r S) : callAt fns W (k + 1) 40 [.d (.int 8), x, y, z] S = .ok (arg r) S := by
  rw [r_40]
  simp [b_40, h, caught_arg]
theorem t9 (k : Nat) {x y z : Vl} {r : PyData} {S : Sto} (h : callAt fns W k 23 [x, y, z] S = .ok r S) : callAt fns W (k + 1) 40 [.d (.int 9), x, y, z] S = .ok r S := by
  rw [r_40]
  simp [b_40, h]
theorem t9b (k : Nat) {x y z : Vl} {r : PyData} {S : Sto} (h : callAt fns W k 23 [x, y, z] S = .ex "ArgumentError" r S) : callAt fns W (k + 1) 40 [.d (.int 9), x, y, z] S = .ok (arg r) S := by
  rw [r_40]
  simp [b_40, h, caught_arg]
theorem t10 (k : Nat) {x y z : Vl} {r : PyData} {S : Sto} (h : callAt fns W k 12 [x, y, z] S = .ok r S) : callAt fns W (k + 1) 40 [.d (.int 10), x, y, z] S = .ok r S := by
  rw [r_40]
  simp [b_40, h]
theorem t10b (k : Nat) {x y z : Vl} {r : PyData} {S : Sto} (h : callAt fns W k 12 [x, y, z] S = .ex "ArgumentError" r S) : callAt fns W (k + 1) 40 [.d (.int 10), x, y, z] S = .ok (arg r) S := by
  rw [r_40]
  simp [b_40, h, caught_arg]
theorem t11 (k : Nat) {x y z : Vl} {r : PyData} {S : Sto} (h : callAt fns W k 22 [x, y] S = .ok r S) : callAt fns W (k + 1) 40 [.d (.int 11), x, y, z] S = .ok r S := by
  rw [r_40]
  simp [b_40, h]
theorem t11b (k : Nat) {x y z : Vl} {r : PyData} {S : Sto} (h : callAt fns W k 22 [x, y] S = .ex "ArgumentError" r S) : callAt fns W (k + 1) 40 [.d (.int 11), x, y, z] S = .ok (arg r) S := by
  rw [r_40]
  simp [b_40, h, caught_arg]
theorem f7b (k : Nat) {x : PyData} (h : Bad x) (S : Sto) : callAt fns W (k + 5) 7 [.d x] S = .ex "ArgumentError" (.str "signal") S := by
  rw [r_7]
  simp [b_7, f3b k h]
theorem f21b (k : Nat) {x : PyData} (h : Bad x) (S : Sto) : callAt fns W (k + 5) 21 [.d x] S = .ex "ArgumentError" (.str "signal") S := by
  rw [r_21]
  simp [b_21, f3b k h]
theorem f5x (k : Nat) {x : PyData} (h : Bad x) (y : Vl) (S : Sto) : callAt fns W (k + 5) 5 [.d x, y] S = .ex "ArgumentError" (.str "signal") S := by
  rw [r_5]
  simp [b_5, f3b k h]
theorem f20x (k : Nat) {x : PyData} (h : Bad x) (y z : Vl) (S : Sto) : callAt fns W (k + 5) 20 [.d x, y, z] S = .ex "ArgumentError" (.str "signal") S := by
  rw [r_20]
  simp [b_20, f3b k h]
theorem f9x (k : Nat) {x : PyData} (h : Bad x) (y : Vl) (S : Sto) : callAt fns W (k + 5) 9 [.d x, y] S = .ex "ArgumentError" (.str "signal") S := by
  rw [r_9]
  simp [b_9, f3b k h]
theorem f17x (k : Nat) {x : PyData} (h : Bad x) (y : Vl) (S : Sto) : callAt fns W (k + 5) 17 [.d x, y] S = .ex "ArgumentError" (.str "signal") S := by
  rw [r_17]
  simp [b_17, f3b k h]
theorem f18x (k : Nat) {x : PyData} (h : Bad x) (y : Vl) (S : Sto) : callAt fns W (k + 5) 18 [.d x, y] S = .ex "ArgumentError" (.str "signal") S := by
  rw [r_18]
  simp [b_18, f3b k h]
theorem f14x (k : Nat) {x : PyData} (h : Bad x) (y : Vl) (S : Sto) : callAt fns W (k + 5) 14 [.d x, y] S = .ex "ArgumentError" (.str "signal") S := by
  rw [r_14]
  simp [b_14, f3b k h]
theorem f23x (k : Nat) {x : PyData} (h : Bad x) (y z : Vl) (S : Sto) : callAt fns W (k + 5) 23 [.d x, y, z] S = .ex "ArgumentError" (.str "signal") S := by
  rw [r_23]
  simp [b_23, f3b k h]
theorem f12x (k : Nat) {x : PyData} (h : Bad x) (y z : Vl) (S : Sto) : callAt fns W (k + 5) 12 [.d x, y, z] S = .ex "ArgumentError" (.str "first") S := by
  rw [r_12]
  simp [b_12, f3b k h]
theorem f12y (k : Nat) {b : Int} {ts : List Int} (h0 : OkS b ts) {x : PyData} (h : Bad x) (z : Vl) (S : Sto) : callAt fns W (k + 5) 12 [.d (sg b ts), .d x, z] S = .ex "ArgumentError" (.str "second") S := by
  rw [r_12]
  simp [b_12, f3 k h0, f3b k h]
theorem f12z (k : Nat) {b c : Int} {ts us : List Int} (h0 : OkS b ts) (h1 : OkS c us) {x : PyData} (h : In.isType x "str" = some false ∨ (In.isType x "str" = some true ∧ cmpop .notin x (.tuple [.str "and", .str "or", .str "unlike"]) = some true)) (S : Sto) : callAt fns W (k + 5) 12 [.d (sg b ts), .d (sg c us), .d x] S = .ex "ArgumentError" (.str "word") S := by
  rw [r_12]
  rcases h with h | ⟨h, h'⟩
  · simp [b_12, f3 k h0, f3 k h1, h]
  · simp [b_12, f3 k h0, f3 k h1, h, h']
theorem f22x (k : Nat) {x : PyData} (h : Bad x) (y : Vl) (S : Sto) : callAt fns W (k + 5) 22 [.d x, y] S = .ex "ArgumentError" (.str "first") S := by
  rw [r_22]
  simp [b_22, f3b k h]
theorem f22y (k : Nat) {b : Int} {ts : List Int} (h0 : OkS b ts) {x : PyData} (h : Bad x) (S : Sto) : callAt fns W (k + 5) 22 [.d (sg b ts), .d x] S = .ex "ArgumentError" (.str "second") S := by
  rw [r_22]
  simp [b_22, f3 k h0, f3b k h]
/-- the law's own list of no signals -/
def bads : List PyData := [.none, .int 5, .tuple [], .tuple [.int 2, .tuple []], .tuple [.bool true, .tuple []], .tuple [.int 0, .tuple [.int 1, .int 1]], .tuple [.int 0, .tuple [.int 2, .int 1]], .tuple [.int 0, .tuple [.int 1000001]], .tuple [.int 0, .tuple [.none]], .tuple [.int 0, .tuple ((upFrom 0 41).map .int)], .tuple [.int 0, .int 1]]
theorem f1' (k : Nat) (x : PyData) (lo hi : Int) (S : Sto) : callAt fns W (k + 2) 1 [.d x, .d (.int lo), .d (.int hi)] S = .ok (.bool (inR lo hi x)) S := f1 k x lo hi S
theorem bad_pre (k : Nat) {x : PyData} {S : Sto} (h : tst (callAt fns W k) (.or (.not (.isi (.var 0) "tuple")) (.or (.cmp .ne (.u1 .len (.var 0)) (.cst (.int 2))) (.not (.call 1 (.cons (.ix (.var 0) (.cst (.int 0))) (.cons (.cst (.int 0)) (.cons (.cst (.int 1)) .nil))) [])))) [some (.d x), none, none, none] S = .ok true S) : callAt fns W (k + 1) 2 [.d x] S = .ok (.bool false) S := by
  rw [r_2, b_2]
  refine q_yes h ?_
  simp
theorem pre_ok (k : Nat) {b : Int} (hb : inR 0 1 (.int b) = true) {y : PyData} {S : Sto} : tst (callAt fns W (k + 2)) (.or (.not (.isi (.var 0) "tuple")) (.or (.cmp .ne (.u1 .len (.var 0)) (.cst (.int 2))) (.not (.call 1 (.cons (.ix (.var 0) (.cst (.int 0))) (.cons (.cst (.int 0)) (.cons (.cst (.int 1)) .nil))) [])))) [some (.d (.tuple [.int b, y])), none, none, none] S = .ok false S := by
  unfold tst
  simp [isT, f1, hb]
theorem bad_two (k : Nat) {b : Int} (hb : inR 0 1 (.int b) = true) {y : PyData} {S : Sto} (h : tst (callAt fns W (k + 2)) (.or (.not (.isi (.ix (.var 0) (.cst (.int 1))) "tuple")) (.cmp .gt (.u1 .len (.ix (.var 0) (.cst (.int 1)))) (.cst (.int 40)))) [some (.d (.tuple [.int b, y])), none, none, none] S = .ok true S) : callAt fns W (k + 3) 2 [.d (.tuple [.int b, y])] S = .ok (.bool false) S := by
  rw [r_2, b_2]
  refine q_no (pre_ok k hb) ?_
  refine q_yes h ?_
  simp
theorem bad_lst (k : Nat) {l : List PyData} (hl : l.length ≤ 40) (h : (l.all fun x => inR (-1000000) 1000000 x) = false) {S : Sto} : callAt fns W (k + 3) 2 [.d (.tuple [.int 0, .tuple l])] S = .ok (.bool false) S := by
  rw [r_2, b_2]
  refine q_no (pre_ok k (by decide)) ?_
  refine q_no ?_ ?_
  · simp [isT]; omega
  have e1 : ev (callAt fns W (k + 2)) (.lc [1] (.nm 1) (.e (.ix (.var 0) (.cst (.int 1)))) .nil (.call 1 (.cons (.var 1) (.cons (.u1 .neg (.cst (.int 1000000))) (.cons (.cst (.int 1000000)) .nil))) [])) [some (.d (.tuple [.int 0, .tuple l])), none, none, none] S = .ok (.d (.list (l.map fun t => .bool (inR (-1000000) 1000000 t)))) S := by
    refine ev_lc0 (gs := []) (fun x => x) _ (by simp) (by simp only [cap]; omega) fun a ha => ⟨_, rfl, ?_⟩
    simp [wipe, f1]
  have a1 : u1 .all (.list (l.map fun t => .bool (inR (-1000000) 1000000 t))) = some (.bool false) := by
    have := u1_all (l.map fun t => inR (-1000000) 1000000 t)
    rw [List.map_map] at this
    rw [show (l.map fun t => PyData.bool (inR (-1000000) 1000000 t)) = l.map (PyData.bool ∘ fun t => inR (-1000000) 1000000 t) from rfl, this, List.all_map]
    rw [show (l.all (id ∘ fun t => inR (-1000000) 1000000 t)) = false from h]
  refine q_yes (tst_not (tst_b (ev_u1_of e1 a1))) ?_
  simp
theorem bad_asc (k : Nat) {ts : List Int} (hl : ts.length ≤ 40) (h0 : (ts.all fun x => inR (-1000000) 1000000 (.int x)) = true) (h : ((prs ts).all fun p => decide (p.1 < p.2)) = false) {S : Sto} : callAt fns W (k + 3) 2 [.d (sg 0 ts)] S = .ok (.bool false) S := by
  rw [r_2, b_2]
  refine q_no (pre_ok k (by decide)) ?_
  refine q_no ?_ ?_
  · simp [isT]; omega
  have e1 : ev (callAt fns W (k + 2)) (.lc [1] (.nm 1) (.e (.ix (.var 0) (.cst (.int 1)))) .nil (.call 1 (.cons (.var 1) (.cons (.u1 .neg (.cst (.int 1000000))) (.cons (.cst (.int 1000000)) .nil))) [])) [some (.d (sg 0 ts)), none, none, none] S = .ok (.d (.list (ts.map fun t => .bool (inR (-1000000) 1000000 (.int t))))) S := by
    refine ev_lc0 (gs := []) PyData.int _ (by simp) (by simp only [cap]; omega) fun a ha => ⟨_, rfl, ?_⟩
    simp [wipe, f1]
  have e2 : ev (callAt fns W (k + 2)) (.lc [2, 3] (.tp (.cons (.nm 2) (.cons (.nm 3) .nil))) (.zip (.sl (.ix (.var 0) (.cst (.int 1))) .nil (.cons (.u1 .neg (.cst (.int 1))) .nil)) (.sl (.ix (.var 0) (.cst (.int 1))) (.cons (.cst (.int 1)) .nil) .nil)) .nil (.cmp .lt (.var 2) (.var 3))) [some (.d (sg 0 ts)), none, none, none] S = .ok (.d (.list ((prs ts).map fun p => .bool (decide (p.1 < p.2))))) S := by
    refine ev_lc0 (gs := []) pr _ (by simp [slice_initT, slice_tailT, zip_prs]) (by have := prs_len ts; simp only [cap]; omega) fun a ha => ⟨_, by simp [wipe]; rfl, ?_⟩
    simp
  have a1 : u1 .all (.list (ts.map fun t => .bool (inR (-1000000) 1000000 (.int t)))) = some (.bool true) := by
    have := u1_all (ts.map fun t => inR (-1000000) 1000000 (.int t))
    rw [List.map_map] at this
    rw [show (ts.map fun t => PyData.bool (inR (-1000000) 1000000 (.int t))) = ts.map (PyData.bool ∘ fun t => inR (-1000000) 1000000 (.int t)) from rfl, this, List.all_map]
    rw [show (ts.all (id ∘ fun t => inR (-1000000) 1000000 (.int t))) = true from h0]
  have a2 : u1 .all (.list ((prs ts).map fun p => .bool (decide (p.1 < p.2)))) = some (.bool false) := by
    have := u1_all ((prs ts).map fun p => decide (p.1 < p.2))
    rw [List.map_map] at this
    rw [show ((prs ts).map fun p => PyData.bool (decide (p.1 < p.2))) = (prs ts).map (PyData.bool ∘ fun p => decide (p.1 < p.2)) from rfl, this, List.all_map]
    rw [show ((prs ts).all (id ∘ fun p => decide (p.1 < p.2))) = false from h]
  refine q_no (tst_not (tst_b (ev_u1_of e1 a1))) ?_
  refine (q_ret _ (ev_u1_of e2 a2)).trans (by simp)
theorem bad_all {x : PyData} (h : x ∈ bads) : Bad x := by
  intro k S
  have nt : ∀ x, In.isType x "tuple" = some (match x with | .tuple _ => true | _ => false) := fun x => by cases x <;> rfl
  simp only [bads, List.mem_cons, List.not_mem_nil, or_false] at h
  rcases h with rfl | rfl | rfl | rfl | rfl | rfl | rfl | rfl | rfl | rfl | rfl
  · exact bad_pre _ (by unfold tst; simp [nt])
  · exact bad_pre _ (by unfold tst; simp [nt])
  · exact bad_pre _ (by unfold tst; simp [nt])
  · exact bad_pre _ (by unfold tst; simp [nt, f1, inR])
  · exact bad_pre _ (by unfold tst; simp [nt, f1, inR])
  · exact bad_asc k (ts := [1, 1]) (by decide) (by decide) (by decide)
  · exact bad_asc k (ts := [2, 1]) (by decide) (by decide) (by decide)
  · exact bad_lst k (by decide) (by decide)
  · exact bad_lst k (by decide) (by decide)
  · exact bad_two k (by decide) (by unfold tst; simp [nt, upFrom_length])
  · exact bad_two k (by decide) (by unfold tst; simp [nt])
end M74
/-! part M74k -/
set_option linter.all false
set_option maxRecDepth 100000
set_option maxHeartbeats 1000000
/-! Whether one signal fits. -/
namespace M74
open PySem In Tx P74
theorem gd_ti {ts : List Int} (hl : ts.length ≤ 100) (hb : ∀ t ∈ ts, -10000000 ≤ t ∧ t ≤ 10000000) : Gd (.tuple (iL ts)) 1 5000 := by
  refine (gd_tup (e := 0) (m := 40) fun x hx => ?_).up (Nat.le_refl _) (by simp only [iL, List.length_map]; omega)
  obtain ⟨t, ht, rfl⟩ := List.mem_map.mp hx
  exact gd_int t (by have := hb t ht; omega)
theorem gd_i {i : Int} (h : -10000000000 ≤ i ∧ i ≤ 10000000000) {e m : Nat} (hm : 40 ≤ m) : Gd (.int i) e m := (gd_int i (by omega)).up (Nat.zero_le _) hm
theorem gd_sg {b : Int} {ts : List Int} (hb : bit b) (hl : ts.length ≤ 100) (h : ∀ t ∈ ts, -10000000 ≤ t ∧ t ≤ 10000000) : Gd (sg b ts) 2 20000 := by
  refine (gd_tup (e := 1) (m := 5000) fun x hx => ?_).up (Nat.le_refl _) (by simp)
  simp only [List.mem_cons, List.not_mem_nil, or_false] at hx
  rcases hx with rfl | rfl
  · exact gd_i (by unfold P74.bit at hb; omega) (by omega)
  · exact gd_ti hl h
theorem spn_mem : ∀ (ts : List Int) (b : Int) (lo : Option Int), ∀ p ∈ spn b lo ts, (∀ l, p.1 = some l → lo = some l ∨ l ∈ ts) ∧ ∀ h, p.2 = some h → h ∈ ts
  | [], b, lo, p, hp => by
    unfold spn at hp
    split at hp
    · have : p = (lo, none) := by simpa using hp
      subst this
      exact ⟨fun l hl => .inl hl, fun h hh => by simp at hh⟩
    · simp at hp
  | t :: r, b, lo, p, hp => by
    unfold spn at hp
    rcases List.mem_append.mp hp with hp | hp
    · split at hp
      · have : p = (lo, some t) := by simpa using hp
        subst this
        exact ⟨fun l hl => .inl hl, fun h hh => by have : t = h := by simpa using hh
                                                   subst this; exact List.mem_cons_self⟩
      · simp at hp
    · obtain ⟨h1, h2⟩ := spn_mem r (1 - b) (some t) p hp
      refine ⟨fun l hl => .inr ?_, fun h hh => List.mem_cons_of_mem _ (h2 h hh)⟩
      rcases h1 l hl with q | q
      · have : t = l := by simpa using q
        subst this; exact List.mem_cons_self
      · exact List.mem_cons_of_mem _ q
theorem gd_spans {b : Int} {ts : List Int} (hl : ts.length ≤ 40) (h : ∀ t ∈ ts, -10000000 ≤ t ∧ t ≤ 10000000) : Gd (.tuple ((spn b none ts).map sp)) 2 20000 := by
  have sl := spn_len ts b none
  refine (gd_tup (e := 1) (m := 200) fun x hx => ?_).up (Nat.le_refl _) (by simp only [List.length_map]; omega)
  obtain ⟨p, hp, rfl⟩ := List.mem_map.mp hx
  obtain ⟨h1, h2⟩ := spn_mem ts b none p hp
  refine (gd_tup (e := 0) (m := 40) fun y hy => ?_).up (Nat.le_refl _) (by simp)
  simp only [List.mem_cons, List.not_mem_nil, or_false] at hy
  rcases hy with rfl | rfl
  · cases e : p.1 with
    | none => exact gd_none
    | some l =>
      rcases h1 l e with q | q
      · cases q
      · exact gd_i (by have := h l q; omega) (Nat.le_refl _)
  · cases e : p.2 with
    | none => exact gd_none
    | some l => exact gd_i (by have := h l (h2 l e); omega) (Nat.le_refl _)
theorem minI_mem : ∀ (l : List Int) (a : Int), minI (a :: l) ∈ a :: l := by
  intro l
  suffices h : ∀ (l : List Int) (a : Int), l.foldl (fun m j => if j < m then j else m) a ∈ a :: l from fun a => h l a
  intro l
  induction l with
  | nil => intro a; simp
  | cons b l ih =>
    intro a
    simp only [List.foldl_cons]
    split
    · exact List.mem_cons_of_mem _ (ih b)
    · rcases List.mem_cons.mp (ih a) with q | q
      · rw [q]; exact List.mem_cons_self
      · exact List.mem_cons_of_mem _ (List.mem_cons_of_mem _ q)
theorem gd_mn {l : List Int} (h : ∀ g ∈ l, -10000000 ≤ g ∧ g ≤ 10000000) {e m : Nat} (hm : 40 ≤ m) : Gd (mn l) e m := by
  cases l with
  | nil => exact gd_none.up (Nat.zero_le _) hm
  | cons a r => exact gd_i (by have := h _ (minI_mem r a); omega) hm
theorem gp_range : ∀ ts : List Int, gp ts = (List.range (ts.length - 1)).map fun k => ts.getD (k + 1) 0 - ts.getD k 0
  | [] => rfl
  | [_] => rfl
  | a :: b :: r => by
    have ih := gp_range (b :: r)
    rw [gp_cons, ih]
    simp only [List.length_cons, Nat.add_sub_cancel]
    rw [List.range_succ_eq_map, List.map_cons, List.map_map]
    rfl
theorem spanLen_cons (p q : Int) (s : Option Int × Option Int) (l : List (Option Int × Option Int)) : spanLen p q (s :: l) = cutLen p q s + spanLen p q l := by simp [spanLen]
theorem same (k : Nat) {d : PyData} {e m : Nat} {ρ : In.Env} {S S1 S2 : Sto} {a c : E} (h : Gd d e m) (h1 : e ≤ 64) (h2 : m ≤ cap) (ha : ev (callAt fns W (k + 1)) a ρ S = .ok (.d d) S1) (hc : ev (callAt fns W (k + 1)) c ρ S1 = .ok (.d d) S2) : ev (callAt fns W (k + 1)) (.call 28 (.cons a (.cons c .nil)) []) ρ S = .ok (.d (.bool true)) S2 := by
  rw [ev_call]
  have e : evs (callAt fns W (k + 1)) (.cons a (.cons c .nil)) ρ S = .ok [.d d, .d d] S2 := by
    simp only [evs_cons, evs_nil, ha, hc, R.bind_ok]
  rw [e, R.bind_ok]
  show ((callAt fns W (k + 1) 28 [.d d, .d d] S2).bind _) = _
  rw [f28 k h h1 h2]
  rfl
theorem wid_bd {w b : Int} {ts : List Int} (hw : 0 ≤ w) (hw2 : w ≤ 1000000) (h : OkS b ts) (c : Int) : (wid w c ts).length ≤ 40 ∧ ∀ u ∈ wid w c ts, -10000000 ≤ u ∧ u ≤ 10000000 := by
  refine ⟨Nat.le_trans (wid_len w _ ts c (Nat.le_refl _)) h.len, fun u hu => ?_⟩
  obtain ⟨t, ht, h1, h2⟩ := wid_mem w hw _ ts c (Nat.le_refl _) u hu
  have := h.lim t ht
  omega
theorem kp_mem (m : Int) : ∀ ts : List Int, ∀ u ∈ kp m ts, u ∈ ts
  | [], _, h => by simp [kp] at h
  | [t], _, h => by simpa [kp] using h
  | t :: a :: r, u, h => by
    have ih := kp_mem m (a :: r) u
    unfold kp at h
    split at h
    · rcases List.mem_cons.mp h with rfl | h
      · exact List.mem_cons_self
      · exact List.mem_cons_of_mem _ (ih h)
    · exact List.mem_cons_of_mem _ (ih h)
theorem flt_bd {w b : Int} {ts : List Int} (hw : 0 ≤ w) (hw2 : w ≤ 1000000) (h : OkS b ts) : (flt w b ts).length ≤ 40 ∧ ∀ u ∈ flt w b ts, -10000000 ≤ u ∧ u ≤ 10000000 := by
  have l1 := chg_len ((kp w ts).map fun t => (t + w, val b ts t)) b
  have l2 := kp_len w ts
  have l3 := h.len
  rw [List.length_map] at l1
  refine ⟨by unfold flt; omega, fun u hu => ?_⟩
  obtain ⟨p, hp, rfl⟩ := chg_mem _ _ _ hu
  obtain ⟨t, ht, rfl⟩ := List.mem_map.mp hp
  have := h.lim t (kp_mem w ts t ht)
  simp only
  omega
theorem kt_mem (m b : Int) (ts0 : List Int) (both : Bool) : ∀ (ts : List Int) (l : Option Int), ∀ u ∈ kt m b ts0 both l ts, u ∈ ts
  | [], _, _, h => by simp [kt] at h
  | t :: r, l, u, h => by
    rw [kt_cons'] at h
    split at h
    · rcases List.mem_cons.mp h with rfl | h
      · exact List.mem_cons_self
      · exact List.mem_cons_of_mem _ (kt_mem m b ts0 both r _ u h)
    · exact List.mem_cons_of_mem _ (kt_mem m b ts0 both r _ u h)
theorem kt_len (m b : Int) (ts0 : List Int) (both : Bool) : ∀ (ts : List Int) (l : Option Int), (kt m b ts0 both l ts).length ≤ ts.length
  | [], _ => Nat.le_refl _
  | t :: r, l => by
    have h1 := kt_len m b ts0 both r (some t)
    have h2 := kt_len m b ts0 both r l
    rw [kt_cons']
    split <;> (simp only [List.length_cons]; omega)
def nr (ts : List Int) : List Int := [0, 1000000, 0 - 1000000] ++ ts.map (· - 1) ++ ts
theorem nr_lim {b : Int} {ts : List Int} (h : OkL b ts) : ∀ t ∈ nr ts, -1000000 ≤ t ∧ t ≤ 1000000 := by
  intro t ht
  simp only [nr, List.mem_append, List.mem_cons, List.not_mem_nil, or_false, List.mem_map] at ht
  rcases ht with (ht | ⟨a, ha, rfl⟩) | ht
  · omega
  · have := h.low a ha; have := h.lim a ha; omega
  · exact h.lim t ht
theorem rng_len1 (n : Nat) (h : n < 1000) : range2 0 ((n : Int) - 1) = some ((List.range (n - 1)).map fun (k : Nat) => .int (k : Int)) := by
  cases n with
  | zero => rfl
  | succ n =>
    rw [show (((n + 1 : Nat) : Int) - 1) = (n : Int) by omega, rng_nat n (by omega)]
    rfl
theorem f41 (k : Nat) {b : Int} {ts : List Int} (h : OkL b ts) {ds : List Int} (hd : nn ds) {p : Int} (hp : 0 ≤ p) (Z : Sto) :
    ∃ p', 0 ≤ p' ∧ callAt fns W (k + 10) 41 [.d (sg b ts), .d (li ds), .loc 0] (at_ p Z) = .ok (.bool true) (at_ p' Z) := by
  have hS := h.toOkS
  have hlen := h.len
  have hbit := h.bit
  have hpw := h.pw
  have hlim : ∀ t ∈ ts, -10000000 ≤ t ∧ t ≤ 10000000 := fun t ht => by have := h.lim t ht; omega
  have gbd : ∀ g ∈ gp ts, 0 < g ∧ g ≤ 40000 := fun g hg => ⟨gp_pos hpw g hg, h.gap g hg⟩
  have glen : (gp ts).length ≤ 40 := by have := prs_len ts; simp only [gp, List.length_map]; omega
  have nlen : (nr ts).length ≤ 100 := by simp [nr]; omega
  have hne : iL (nr ts) ≠ [] := by simp [nr]
  obtain ⟨x1, hx1, d1⟩ := f27 (k + 6) hd hp hne Z
  obtain ⟨ta, ht1, rfl⟩ := List.mem_map.mp hx1
  obtain ⟨x2, hx2, d2⟩ := f27 (k + 6) hd (p := p + 1) (by omega) hne Z
  obtain ⟨tb, ht2, rfl⟩ := List.mem_map.mp hx2
  have n1 := nr_lim h ta ht1
  have n2 := nr_lim h tb ht2
  obtain ⟨B, hB⟩ : ∃ B : Int, B = if (if tb < ta then tb else ta) > 0 - 1000000 then (if tb < ta then tb else ta) else 0 - 1000000 := ⟨_, rfl⟩
  obtain ⟨Q, hQ⟩ : ∃ Q : Int, Q = if (if tb > ta then tb else ta) < 1000000 then (if tb > ta then tb else ta) else 1000000 := ⟨_, rfl⟩
  have hBl : lim B := by rw [hB]; constructor <;> (split <;> split <;> omega)
  have hQl : lim Q := by rw [hQ]; constructor <;> (split <;> split <;> omega)
  have hBQ : B ≤ Q := by rw [hB, hQ]; split <;> split <;> split <;> omega
  obtain ⟨v, v0, v1, d3⟩ := f26 (k + 7) hd (p := p + 1 + 1) (by omega) (many := 30) (by decide) Z
  have hne2 : iL ([0, 1, 2, 5, v, 1000000] ++ gp ts) ≠ [] := by simp
  obtain ⟨x3, hx3, d4⟩ := f27 (k + 6) hd (p := p + 1 + 1 + 1) (by omega) hne2 Z
  obtain ⟨w, hw, rfl⟩ := List.mem_map.mp hx3
  have w01 : 0 ≤ w ∧ w ≤ 1000000 := by
    rcases List.mem_append.mp hw with q | q
    · simp only [List.mem_cons, List.not_mem_nil, or_false] at q; omega
    · have := gbd w q; omega
  obtain ⟨c, c0, c1, d5⟩ := f26 (k + 7) hd (p := p + 1 + 1 + 1 + 1) (by omega) (many := 2) (by decide) Z
  obtain ⟨m, m0, m1, d6⟩ := f26 (k + 7) hd (p := p + 1 + 1 + 1 + 1 + 1) (by omega) (many := 6) (by decide) Z
  refine ⟨p + 1 + 1 + 1 + 1 + 1 + 1, by omega, ?_⟩
  have wl := wid_law w01.1 hbit hpw
  have wl' := wid_law w01.1 (bit_flip hbit) hpw
  have wb := wid_bd w01.1 w01.2 hS b
  have wb' := wid_bd w01.1 w01.2 hS (1 - b)
  have fb := flt_bd w01.1 w01.2 hS
  rw [wl] at wb
  rw [wl'] at wb'
  rw [r_41, b_41]
  -- times
  refine q_asg (.tuple (iL ts)) (by simp) rfl ?_
  simp only [List.set_cons_succ, List.set_cons_zero]
  -- near
  have e4 : ∀ (ρ : In.Env) (S : Sto), ρ[3]? = some (some (.d (.tuple (iL ts)))) → (wipe ρ [14])[3]? = some (some (.d (.tuple (iL ts)))) → 14 < ρ.length → ev (callAt fns W (k + 9)) (.bin .add (.bin .add (.lst (.cons (.cst (.int 0)) (.cons (.cst (.int 1000000)) (.cons (.bin .sub (.cst (.int 0)) (.cst (.int 1000000))) .nil)))) (.lc [14] (.nm 14) (.e (.var 3)) .nil (.bin .sub (.var 14) (.cst (.int 1))))) (.u1 .list (.var 3))) ρ S = .ok (.d (.list (iL (nr ts)))) S := by
    intro ρ S h3 h4 h5
    have el : ev (callAt fns W (k + 9)) (.lc [14] (.nm 14) (.e (.var 3)) .nil (.bin .sub (.var 14) (.cst (.int 1)))) ρ S = .ok (.d (.list (iL (ts.map (· - 1))))) S := by
      rw [show iL (ts.map (· - 1)) = ts.map fun t => .int (t - 1) from List.map_map ..]
      refine ev_lc0 (gs := []) PyData.int _ (by simp [h3]) (by simp only [cap]; omega) fun a ha => ⟨_, rfl, ?_⟩
      have h14 : ((wipe ρ [14]).set 14 (some (Vl.d (.int a))))[14]? = some (some (.d (.int a))) := List.getElem?_set_self (by simpa [wipe] using h5)
      simp [h14]
    refine ev_bin_of (S1 := S) (ev_bin_of (S1 := S) (x := .list (iL [0, 1000000, 0 - 1000000])) (by simp) el (bin_cat _ _ (by simp only [iL, List.length_map, List.length_cons, List.length_nil, cap]; omega))) (ev_u1_of (x := .tuple (iL ts)) (by simp [h3]) (u1_listt _)) ?_
    rw [← List.map_append, bin_cat _ _ (by simp only [iL, List.length_map, List.length_append, List.length_cons, List.length_nil, cap]; omega), ← List.map_append]
    rfl
  refine q_asg _ (e4 _ _ rfl rfl (by simp only [List.length_cons, List.length_nil]; omega)) rfl ?_
  simp only [List.set_cons_succ, List.set_cons_zero]
  -- two times
  refine q_par (.int ta) (.int tb) (ev_call3 (by simp) (by simp) (by simp) d1) (ev_call3 (by simp) (by simp) (by simp) d2) ?_
  simp only [List.set_cons_succ, List.set_cons_zero]
  refine q_par (.int B) (.int Q) (S1 := at_ (p + 1 + 1) Z) (S2 := at_ (p + 1 + 1) Z) (by simp [hB]) (by simp [hQ]) ?_
  simp only [List.set_cons_succ, List.set_cons_zero]
  -- gaps
  have e5 : ∀ ρ : In.Env, ∀ S : Sto, ρ.length = 21 → ρ[3]? = some (some (.d (.tuple (iL ts)))) → ev (callAt fns W (k + 9)) (.lc [19] (.nm 19) (.rng1 (.bin .sub (.u1 .len (.var 3)) (.cst (.int 1)))) .nil (.bin .sub (.ix (.var 3) (.bin .add (.var 19) (.cst (.int 1)))) (.ix (.var 3) (.var 19)))) ρ S = .ok (.d (.list (iL (gp ts)))) S := by
    intro ρ S hρ h3
    rw [gp_range, show iL ((List.range (ts.length - 1)).map fun k => ts.getD (k + 1) 0 - ts.getD k 0) = (List.range (ts.length - 1)).map fun k => .int (ts.getD (k + 1) 0 - ts.getD k 0) from List.map_map ..]
    have hit : evI (callAt fns W (k + 9)) (.rng1 (.bin .sub (.u1 .len (.var 3)) (.cst (.int 1)))) ρ S = .ok ((List.range (ts.length - 1)).map fun (k : Nat) => .int (k : Int), []) S := by
      have e0 : ev (callAt fns W (k + 9)) (.bin .sub (.u1 .len (.var 3)) (.cst (.int 1))) ρ S = .ok (.d (.int ((ts.length : Int) - 1))) S :=
        ev_bin_of (ev_u1_of (x := .tuple (iL ts)) (by simp [h3]) (u1_lent _)) (ev_cst _) (by rw [bin_sub]; simp)
      rw [evI_rng1, e0, R.bind_ok, intR_int, rng_len1 _ (by omega)]
      rfl
    refine ev_lc0 (fun (k : Nat) => .int (k : Int)) _ hit (by simp [cap]; omega) fun j hj => ⟨_, rfl, ?_⟩
    have hj' := List.mem_range.mp hj
    have g19 : ((wipe ρ [19]).set 19 (some (Vl.d (.int (j : Int)))))[19]? = some (some (.d (.int (j : Int)))) := List.getElem?_set_self (by simp [wipe, hρ])
    have g3 : ((wipe ρ [19]).set 19 (some (Vl.d (.int (j : Int)))))[3]? = some (some (.d (.tuple (iL ts)))) := by
      rw [List.getElem?_set_ne (by decide)]
      simp only [wipe]
      rw [List.getElem?_set_ne (by decide)]
      exact h3
    have i1 : index (.tuple (iL ts)) (.int (j : Int)) = some (.int (ts.getD j 0)) := by
      refine (index_nat ?_).2
      rw [List.getD_eq_getElem?_getD, List.getElem?_eq_getElem (by simp; omega), List.getElem?_eq_getElem (by omega)]
      simp
    have i2 : index (.tuple (iL ts)) (.int ((j : Int) + 1)) = some (.int (ts.getD (j + 1) 0)) := by
      refine (index_nat (i := j + 1) ?_).2
      rw [List.getD_eq_getElem?_getD, List.getElem?_eq_getElem (by simp; omega), List.getElem?_eq_getElem (by omega)]
      simp
    simp [g19, g3, i1, i2]
  refine q_asg _ (e5 _ _ rfl rfl) rfl ?_
  simp only [List.set_cons_succ, List.set_cons_zero]
  refine q_asg (.int 0) (by simp) rfl ?_
  simp only [List.set_cons_succ, List.set_cons_zero]
  -- the sum over the spans
  have loop := (forL_ok (ck := chk [] (at_ (p + 1 + 1) Z)) (asg := fun x ρ => put (.tp (.cons (.nm 17) (.cons (.nm 18) .nil))) x ρ) (b := fun ρ S => xs (callAt fns W (k + 9)) W (.cons (.asg (.nm 6) (.bin .add (.var 6) (.u2 .max (.cst (.int 0)) (.bin .sub (.ite (.cmp .is_ (.var 18) (.cst .none)) (.var 16) (.u2 .min (.var 16) (.var 18))) (.ite (.cmp .is_ (.var 17) (.cst .none)) (.var 15) (.u2 .max (.var 15) (.var 17))))))) .nil) ρ S) sp
    (fun l ρ S' => ∃ (tot : Int) (u u' : Option Vl), ρ = [some (.d (sg b ts)), some (.d (li ds)), some (.loc 0), some (.d (.tuple (iL ts))), some (.d (.list (iL (nr ts)))), some (.d (.list (iL (gp ts)))), some (.d (.int tot)), none, none, none, none, none, none, some (.d (.int tb)), some (.d (.int ta)), some (.d (.int B)), some (.d (.int Q)), u, u', none, none] ∧ S' = at_ (p + 1 + 1) Z ∧ tot + spanLen B Q l = spanLen B Q (spn b none ts)) (spn b none ts) _ _ ⟨0, none, none, rfl, rfl, by simp⟩ ?_).get
  rotate_left
  · rintro ⟨lo, hi⟩ l ρ S' ⟨tot, u, u', rfl, rfl, ht⟩
    refine ⟨[some (.d (sg b ts)), some (.d (li ds)), some (.loc 0), some (.d (.tuple (iL ts))), some (.d (.list (iL (nr ts)))), some (.d (.list (iL (gp ts)))), some (.d (.int tot)), none, none, none, none, none, none, some (.d (.int tb)), some (.d (.int ta)), some (.d (.int B)), some (.d (.int Q)), some (.d (oi lo)), some (.d (oi hi)), none, none], by simp, Ok_eq (a := .nx [some (.d (sg b ts)), some (.d (li ds)), some (.loc 0), some (.d (.tuple (iL ts))), some (.d (.list (iL (nr ts)))), some (.d (.list (iL (gp ts)))), some (.d (.int (tot + cutLen B Q (lo, hi)))), none, none, none, none, none, none, some (.d (.int tb)), some (.d (.int ta)), some (.d (.int B)), some (.d (.int Q)), some (.d (oi lo)), some (.d (oi hi)), none, none]) (S' := at_ (p + 1 + 1) Z) ?_ ⟨_, rfl, rfl, tot + cutLen B Q (lo, hi), _, _, rfl, rfl, by rw [spanLen_cons] at ht; omega⟩⟩
    cases lo <;> cases hi <;> simp [cutLen] <;> omega
  obtain ⟨fl, S', e6, ρ', rfl, tot, u, u', rfl, rfl, htot⟩ := loop
  simp only [spanLen, List.map_nil, List.sum_nil, Int.add_zero] at htot
  have hsum := total_ok hbit hpw hBQ
  rw [show (((spn b none ts).map (cutLen B Q)).sum) = spanLen B Q (spn b none ts) from rfl] at htot
  rw [hsum] at htot
  subst htot
  refine q_loop e6 (gs := []) (S1 := at_ (p + 1 + 1) Z) (by rw [evI_e, ev_call1 (by simp) (f31 (k + 8) hS (at_ (p + 1 + 1) Z))]; rfl) ?_
  generalize hL : sumOn b ts (B :: (mid B Q ts ++ [Q])) = L at *
  -- what is due, and told
  obtain ⟨S2, hS2⟩ : ∃ S2, S2 = at_ (p + 1 + 1) Z := ⟨_, rfl⟩
  rw [← hS2] at d3 ⊢
  have emn : ∀ ρ : In.Env, ∀ S, ρ[5]? = some (some (.d (.list (iL (gp ts))))) → ev (callAt fns W (k + 9)) (.ite (.var 5) (.u1 .min (.var 5)) (.cst .none)) ρ S = .ok (.d (mn (gp ts))) S := by
    intro ρ S h5
    cases hg : gp ts with
    | nil => simp [h5, hg, mn]
    | cons a r =>
      have := u1_minl a r
      rw [hg] at h5
      simp [h5, mn, -List.map_cons, this]
  refine q_asg (.tuple [.int (val b ts B), .tuple ((spn b none ts).map sp), mn (gp ts), .int L, sg (1 - b) ts]) (ev_tup_of (evps_c (ev_call2 (by simp) (by simp) (f30 (k + 8) b B ts S2 (by omega))) (evps_c (ev_call1 (by simp) (f31 (k + 8) hS S2)) (evps_c (emn _ _ rfl) (evps_c (x := .int L) (S1 := S2) (by simp) (evps_c (x := sg (1 - b) ts) (S1 := S2) (by simp) evps_nil)))))) rfl ?_
  simp only [List.set_cons_succ, List.set_cons_zero]
  refine q_asg (.list [.int (val b ts B), .tuple ((spn b none ts).map sp), mn (gp ts), .int L, sg (1 - b) ts]) (ev_lst_of (evps_c (ev_call4 (ev_cst _) (ev_var _ _ rfl) (ev_var _ _ rfl) (ev_cst _) (M74.t0 (k + 8) (f5 (k + 3) hS hBl S2))) (evps_c (ev_call4 (ev_cst _) (ev_var _ _ rfl) (ev_cst _) (ev_cst _) (M74.t1 (k + 8) (f19 (k + 3) hS S2))) (evps_c (ev_call4 (ev_cst _) (ev_var _ _ rfl) (ev_cst _) (ev_cst _) (M74.t2 (k + 8) (f21 (k + 3) hS S2))) (evps_c (ev_call4 (ev_cst _) (ev_var _ _ rfl) (ev_var _ _ rfl) (ev_var _ _ rfl) (t3 (k + 8) (hL ▸ f20 (k + 3) hS hBl hQl hBQ S2))) (evps_c (ev_call4 (ev_cst _) (ev_var _ _ rfl) (ev_cst _) (ev_cst _) (t4 (k + 8) (f7 (k + 3) hS S2))) evps_nil)))))) rfl ?_
  simp only [List.set_cons_succ, List.set_cons_zero]
  -- the first five are so
  have g1 : Gd (.tuple [.int (val b ts B), .tuple ((spn b none ts).map sp), mn (gp ts), .int L, sg (1 - b) ts]) 3 200000 := by
    have hL' : 0 ≤ L ∧ L ≤ 2000000 := by
      rw [← hL, sumOn_lenOn ts b B Q hbit hpw hBQ]
      have := lenOn_bd ts b B Q hBQ
      omega
    refine (gd_tup (e := 2) (m := 20000) fun x hx => ?_).up (Nat.le_refl _) (by simp)
    simp only [List.mem_cons, List.not_mem_nil, or_false] at hx
    rcases hx with rfl | rfl | rfl | rfl | rfl
    · exact gd_i (by have := val_bit b ts B; unfold P74.bit at this; omega) (by omega)
    · exact gd_spans hlen hlim
    · exact gd_mn (fun g hg => by have := gbd g hg; omega) (by omega)
    · exact gd_i (by omega) (by omega)
    · exact gd_sg (bit_flip hbit) (by omega) hlim
  refine q_no (tst_not (tst_b (same (k + 8) g1 (by decide) (by decide) (ev_u1_of (x := .list _) (ev_var _ _ rfl) (u1_tupl _)) (ev_var _ _ rfl)))) ?_
  -- a wait
  have ew : ∀ ρ : In.Env, ρ[5]? = some (some (.d (.list (iL (gp ts))))) → ρ[1]? = some (some (.d (li ds))) → ρ[2]? = some (some (.loc 0)) → ev (callAt fns W (k + 9)) (.call 27 (.cons (.bin .add (.lst (.cons (.cst (.int 0)) (.cons (.cst (.int 1)) (.cons (.cst (.int 2)) (.cons (.cst (.int 5)) (.cons (.call 26 (.cons (.var 1) (.cons (.var 2) (.cons (.cst (.int 30)) .nil))) []) (.cons (.cst (.int 1000000)) .nil))))))) (.var 5)) (.cons (.var 1) (.cons (.var 2) .nil))) []) ρ S2 = .ok (.d (.int w)) (at_ (p + 1 + 1 + 1 + 1) Z) := by
    intro ρ h5 h1 h2
    rw [ev_call]
    have eb : ev (callAt fns W (k + 9)) (.bin .add (.lst (.cons (.cst (.int 0)) (.cons (.cst (.int 1)) (.cons (.cst (.int 2)) (.cons (.cst (.int 5)) (.cons (.call 26 (.cons (.var 1) (.cons (.var 2) (.cons (.cst (.int 30)) .nil))) []) (.cons (.cst (.int 1000000)) .nil))))))) (.var 5)) ρ S2 = .ok (.d (.list (iL ([0, 1, 2, 5, v, 1000000] ++ gp ts)))) (at_ (p + 1 + 1 + 1) Z) := by
      refine ev_bin_of (S1 := at_ (p + 1 + 1 + 1) Z) (x := .list (iL [0, 1, 2, 5, v, 1000000])) (y := .list (iL (gp ts))) ?_ (ev_var _ _ h5) ?_
      · exact ev_lst_of (evps_c (ev_cst _) (evps_c (ev_cst _) (evps_c (ev_cst _) (evps_c (ev_cst _) (evps_c (ev_call3 (ev_var _ _ h1) (ev_var _ _ h2) (ev_cst _) d3) (evps_c (ev_cst _) evps_nil))))))
      · rw [bin_cat _ _ (by simp only [iL, List.length_map, List.length_cons, List.length_nil, cap]; omega), ← List.map_append]
    simp only [evs_cons, evs_nil, eb, R.bind_ok, ev_var _ _ h1, ev_var _ _ h2, List.map_nil, List.append_nil, d4]
  refine q_asg' _ (ew _ rfl rfl rfl) rfl ?_
  simp only [List.set_cons_succ, List.set_cons_zero]
  clear ew emn e4 e5 e6 d1 d2 d3 d4
  generalize hA : at_ (p + 1 + 1 + 1 + 1) Z = A at *
  generalize hB2 : at_ (p + 1 + 1 + 1 + 1 + 1) Z = A2 at *
  generalize hC : at_ (p + 1 + 1 + 1 + 1 + 1 + 1) Z = A3 at *
  have el : ∀ ρ : In.Env, ρ.length = 21 → ρ[3]? = some (some (.d (.tuple (iL ts)))) → ρ[9]? = some (some (.d (.int w))) → ev (callAt fns W (k + 9)) (.lc [14] (.nm 14) (.e (.var 3)) .nil (.bin .add (.var 14) (.var 9))) ρ A = .ok (.d (.list (iL (ts.map (· + w))))) A := by
    intro ρ hρ h3 h9
    rw [show iL (ts.map (· + w)) = ts.map fun t => .int (t + w) from List.map_map ..]
    refine ev_lc0 (gs := []) PyData.int _ (by simp [h3]) (by simp only [cap]; omega) fun a ha => ⟨_, rfl, ?_⟩
    have g14 : ((wipe ρ [14]).set 14 (some (Vl.d (.int a))))[14]? = some (some (.d (.int a))) := List.getElem?_set_self (by simp [wipe, hρ])
    have g9 : ((wipe ρ [14]).set 14 (some (Vl.d (.int a))))[9]? = some (some (.d (.int w))) := by
      rw [List.getElem?_set_ne (by decide)]
      simp only [wipe]
      rw [List.getElem?_set_ne (by decide)]
      exact h9
    simp [g14, g9]
  refine q_asg (.tuple [sg b (ts.map (· + w)), sg b (lawHeld w b ts), sg b (lawHeld w (1 - b) ts), sg b (flt w b ts)]) (ev_tup_of (evps_c (x := sg b (ts.map (· + w))) (ev_tup_of (evps_c (ev_ix_of (ev_var _ _ rfl) (ev_cst _) (ix0 _ _)) (evps_c (ev_u1_of (el _ rfl rfl rfl) (u1_tupl _)) evps_nil))) (evps_c (ev_call2 (ev_var _ _ rfl) (ev_var _ _ rfl) (f34 (k + 6) hS A)) (evps_c (ev_call2 (ev_var _ _ rfl) (ev_var _ _ rfl) (f35 (k + 5) hS A)) (evps_c (ev_call2 (ev_var _ _ rfl) (ev_var _ _ rfl) (f36 (k + 7) hS A)) evps_nil))))) rfl ?_
  simp only [List.set_cons_succ, List.set_cons_zero]
  have gi : ∀ {l : List Int}, l.length ≤ 40 ∧ (∀ u ∈ l, -10000000 ≤ u ∧ u ≤ 10000000) → Gd (sg b l) 2 20000 := fun hl => gd_sg hbit (by omega) hl.2
  have g2 : Gd (.tuple [sg b (ts.map (· + w)), sg b (lawHeld w b ts), sg b (lawHeld w (1 - b) ts), sg b (flt w b ts)]) 3 200000 := by
    refine (gd_tup (e := 2) (m := 20000) fun x hx => ?_).up (Nat.le_refl _) (by simp)
    simp only [List.mem_cons, List.not_mem_nil, or_false] at hx
    rcases hx with rfl | rfl | rfl | rfl
    · refine gi ⟨by simpa using hlen, fun u hu => ?_⟩
      obtain ⟨t, ht, rfl⟩ := List.mem_map.mp hu
      have := h.lim t ht
      omega
    · exact gi wb
    · exact gi wb'
    · exact gi fb
  have e9 : ∀ ρ : In.Env, ρ.length = 21 → ρ[0]? = some (some (.d (sg b ts))) → ρ[9]? = some (some (.d (.int w))) → ev (callAt fns W (k + 9)) (.lc [20] (.nm 20) (.e (.tup (.cons (.cst (.int 5)) (.cons (.cst (.int 6)) (.cons (.cst (.int 7)) (.cons (.cst (.int 8)) .nil)))))) .nil (.call 40 (.cons (.var 20) (.cons (.var 0) (.cons (.var 9) (.cons (.cst .none) .nil)))) [])) ρ A = .ok (.d (.list [sg b (ts.map (· + w)), sg b (lawHeld w b ts), sg b (lawHeld w (1 - b) ts), sg b (flt w b ts)])) A := by
    intro ρ hρ h0 h9
    refine ev_lc0 (gs := []) (l := [((5 : Int), sg b (ts.map (· + w))), (6, sg b (lawHeld w b ts)), (7, sg b (lawHeld w (1 - b) ts)), (8, sg b (flt w b ts))]) (fun q => .int q.1) (fun q => q.2) (by simp) (by simp [cap]) fun a ha => ⟨_, rfl, ?_⟩
    have g20 : ∀ x, ((wipe ρ [20]).set 20 (some (Vl.d x)))[20]? = some (some (.d x)) := fun x => List.getElem?_set_self (by simp [wipe, hρ])
    have gg : ∀ x i, i < 20 → ((wipe ρ [20]).set 20 (some (Vl.d x)))[i]? = ρ[i]? := by
      intro x i hi
      rw [List.getElem?_set_ne (by omega)]
      simp only [wipe]
      rw [List.getElem?_set_ne (by omega)]
    have go : ∀ (x r : PyData), callAt fns W (k + 9) 40 [.d x, .d (sg b ts), .d (.int w), .d .none] A = .ok r A → ((ev (callAt fns W (k + 9)) (.call 40 (.cons (.var 20) (.cons (.var 0) (.cons (.var 9) (.cons (.cst .none) .nil)))) []) ((wipe ρ [20]).set 20 (some (Vl.d x))) A).bind fun v S2 => shut S2 v) = .ok r A := by
      intro x r hc
      rw [ev_call4 (ev_var _ _ (g20 x)) (ev_var _ _ ((gg x 0 (by decide)).trans h0)) (ev_var _ _ ((gg x 9 (by decide)).trans h9)) (ev_cst _) hc]
      rfl
    simp only [List.mem_cons, List.not_mem_nil, or_false] at ha
    rcases ha with rfl | rfl | rfl | rfl
    · exact go _ _ (t5 (k + 8) (f9 (k + 3) hS w01.1 w01.2 A))
    · exact go _ _ (t6 (k + 8) (wl ▸ f17 (k + 3) hS w01.1 w01.2 A))
    · exact go _ _ (t7 (k + 8) (wl' ▸ f18 (k + 3) hS w01.1 w01.2 A))
    · exact go _ _ (t8 (k + 8) (f14 (k + 3) hS w01.1 w01.2 A))
  refine q_no (tst_not (tst_b (same (k + 8) g2 (by decide) (by decide) (ev_u1_of (e9 _ rfl rfl rfl) (u1_tupl _)) (ev_var _ _ rfl)))) ?_
  -- kept rises
  refine q_asg' (.bool (decide (c = 0))) (ev_cmp_of (ev_call3 (ev_var _ _ rfl) (ev_var _ _ rfl) (ev_cst _) d5) (ev_cst _) (cmp_eq _ _)) rfl ?_
  simp only [List.set_cons_succ, List.set_cons_zero]
  generalize decide (c = 0) = both
  have g3 : Gd (.tuple (iL (kt w b ts both none ts))) 1 5000 := gd_ti (by have := kt_len w b ts both ts none; omega) fun t ht => hlim t (kt_mem w b ts both ts none t ht)
  refine q_no (tst_not (tst_b (same (k + 8) g3 (by decide) (by decide) (ev_call4 (ev_cst _) (ev_var _ _ rfl) (ev_var _ _ rfl) (ev_var _ _ rfl) (t9 (k + 8) (f23 (k + 3) hS both w01.1 w01.2 A2))) (ev_call3 (ev_var _ _ rfl) (ev_var _ _ rfl) (ev_var _ _ rfl) (f39 (k + 7) hS both A2))))) ?_
  -- twice
  refine q_asg' (.int m) (ev_call3 (ev_var _ _ rfl) (ev_var _ _ rfl) (ev_cst _) d6) rfl ?_
  simp only [List.set_cons_succ, List.set_cons_zero]
  refine q_asg (sg b (lawHeld w b ts)) (ev_ix_of (ev_var _ _ rfl) (ev_cst _) (ix1 _ _ _)) rfl ?_
  simp only [List.set_cons_succ, List.set_cons_zero]
  generalize hLL : lawHeld w b ts = LL at *
  have lpw : pw LL := by rw [← hLL]; exact lawHeld_pw hpw
  refine fin_step (S' := A3) (ρ' := [some (.d (sg b ts)), some (.d (li ds)), some (.loc 0), some (.d (.tuple (iL ts))), some (.d (.list (iL (nr ts)))), some (.d (.list (iL (gp ts)))), some (.d (.int L)), some (.d (.tuple [sg b (ts.map (· + w)), sg b LL, sg b (lawHeld w (1 - b) ts), sg b (flt w b ts)])), some (.d (.list [.int (val b ts B), .tuple ((spn b none ts).map sp), mn (gp ts), .int L, sg (1 - b) ts])), some (.d (.int w)), some (.d (.bool both)), some (.d (.int m)), some (.d (sg b LL)), some (.d (.int tb)), some (.d (.int ta)), some (.d (.int B)), some (.d (.int Q)), u, u', none, none]) ?_ ?_
  · generalize hρ : [some (Vl.d (sg b ts)), some (.d (li ds)), some (.loc 0), some (.d (.tuple (iL ts))), some (.d (.list (iL (nr ts)))), some (.d (.list (iL (gp ts)))), some (.d (.int L)), some (.d (.tuple [sg b (ts.map (· + w)), sg b LL, sg b (lawHeld w (1 - b) ts), sg b (flt w b ts)])), some (.d (.list [.int (val b ts B), .tuple ((spn b none ts).map sp), mn (gp ts), .int L, sg (1 - b) ts])), some (.d (.int w)), some (.d (.bool both)), some (.d (.int m)), some (.d (sg b LL)), some (.d (.int tb)), some (.d (.int ta)), some (.d (.int B)), some (.d (.int Q)), u, u', none, none] = ρ
    have q12 : ρ[12]? = some (some (.d (sg b LL))) := by rw [← hρ]; rfl
    have q9 : ρ[9]? = some (some (.d (.int w))) := by rw [← hρ]; rfl
    have q11 : ρ[11]? = some (some (.d (.int m))) := by rw [← hρ]; rfl
    have q0 : ρ[0]? = some (some (.d (sg b ts))) := by rw [← hρ]; rfl
    have ql : ρ.length = 21 := by rw [← hρ]; rfl
    have tA : tst (callAt fns W (k + 9)) (.cmp .le (.u1 .len (.ix (.var 12) (.cst (.int 1)))) (.cst (.int 40))) ρ A3 = .ok (decide (LL.length ≤ 40)) A3 := by
      rw [tst_b (ev_cmp_of (ev_u1_of (ev_ix_of (ev_var _ _ q12) (ev_cst _) (ix1 _ _ _)) (u1_lent _)) (ev_cst _) (cmp_le _ _))]
      congr 1
      simp only [iL, List.length_map, decide_eq_decide]
      omega
    have tB : tst (callAt fns W (k + 9)) (.cmp .eq (.lc [14] (.nm 14) (.e (.ix (.var 12) (.cst (.int 1)))) (.cons (.cmp .gt (.u1 .abs (.var 14)) (.cst (.int 1000000))) .nil) (.var 14)) (.lst .nil)) ρ A3 = .ok (decide ((LL.filter fun t => decide (1000000 < if t < 0 then -t else t)) = [])) A3 := by
      have e0 : ev (callAt fns W (k + 9)) (.lc [14] (.nm 14) (.e (.ix (.var 12) (.cst (.int 1)))) (.cons (.cmp .gt (.u1 .abs (.var 14)) (.cst (.int 1000000))) .nil) (.var 14)) ρ A3 = .ok (.d (.list (iL (LL.filter fun t => decide (1000000 < if t < 0 then -t else t))))) A3 := by
        have g14 : ∀ a, ((wipe ρ [14]).set 14 (some (Vl.d (.int a))))[14]? = some (some (.d (.int a))) := fun a => List.getElem?_set_self (by simp [wipe, ql])
        refine ev_lc (gs := []) PyData.int _ _ (by simp [q12]) (by simp only [cap]; omega) fun a ha => ⟨_, rfl, ?_, fun _ => ?_⟩
        · simp [g14 a]
        · simp [g14 a]
      exact tst_b (ev_cmp_of e0 (ev_lst_of evps_nil) (eq_nil _))
    have tC : tst (callAt fns W (k + 9)) (.cmp .le (.bin .add (.var 9) (.var 11)) (.cst (.int 1000000))) ρ A3 = .ok (decide (w + m ≤ 1000000)) A3 := tst_b (ev_cmp_of (ev_bin_of (ev_var _ _ q9) (ev_var _ _ q11) (bin_add _ _)) (ev_cst _) (cmp_le _ _))
    by_cases c1 : LL.length ≤ 40
    · rw [decide_eq_true c1] at tA
      by_cases c2 : (LL.filter fun t => decide (1000000 < if t < 0 then -t else t)) = []
      · rw [decide_eq_true c2] at tB
        by_cases c3 : w + m ≤ 1000000
        · rw [decide_eq_true c3] at tC
          have okLL : OkS b LL := by
            refine ⟨hbit, c1, fun t ht => ?_, lpw⟩
            have := List.filter_eq_nil_iff.mp c2 t ht
            simp only [decide_eq_true_eq, Int.not_lt] at this
            split at this <;> omega
          have wa : wid m b LL = lawHeld (w + m) b ts := by
            rw [← wl]
            exact wid_add w01.1 m0 hbit hpw
          have wb2 := wid_bd m0 (by omega) okLL b
          rw [wa] at wb2
          have sm : ev (callAt fns W (k + 9)) (.call 28 (.cons (.call 40 (.cons (.cst (.int 6)) (.cons (.var 12) (.cons (.var 11) (.cons (.cst .none) .nil)))) []) (.cons (.call 34 (.cons (.var 0) (.cons (.bin .add (.var 9) (.var 11)) .nil)) []) .nil)) []) ρ A3 = .ok (.d (.bool true)) A3 :=
            same (k + 8) (d := sg b (lawHeld (w + m) b ts)) (gi wb2) (by decide) (by decide) (ev_call4 (ev_cst _) (ev_var _ _ q12) (ev_var _ _ q11) (ev_cst _) (t6 (k + 8) (wa ▸ f17 (k + 3) okLL m0 (by omega) A3))) (ev_call2 (ev_var _ _ q0) (ev_bin_of (ev_var _ _ q9) (ev_var _ _ q11) (bin_add _ _)) (f34 (k + 6) hS A3))
          rw [x1_yes (S1 := A3) (by rw [tst_and tA, if_pos rfl, tst_and tB, if_pos rfl, tC])]
          rw [xs_cons, x1_no (tst_not (tst_b sm))]
          simp
        · rw [decide_eq_false c3] at tC
          exact x1_no (by rw [tst_and tA, if_pos rfl, tst_and tB, if_pos rfl, tC])
      · rw [decide_eq_false c2] at tB
        exact x1_no (by rw [tst_and tA, if_pos rfl, tst_and tB, if_neg (by decide)])
    · rw [decide_eq_false c1] at tA
      exact x1_no (by rw [tst_and tA, if_neg (by decide)])
  refine q_asg (sg (1 - b) (lawHeld w (1 - b) ts)) (ev_call4 (ev_cst _) (x := .d (.int 6)) (y := .d (sg (1 - b) ts)) (ev_tup_of (evps_c (x := .int (1 - b)) (S1 := A3) (by simp) (evps_c (ev_var _ _ rfl) evps_nil))) (ev_var _ _ rfl) (ev_cst _) (t6 (k + 8) (wl' ▸ f17 (k + 3) hS.flip w01.1 w01.2 A3))) rfl ?_
  simp only [List.set_cons_succ, List.set_cons_zero]
  refine (q_ret (.bool true) (same (k + 8) (d := sg b (lawHeld w (1 - b) ts)) (gi wb') (by decide) (by decide) (ev_call4 (ev_cst _) (ev_var _ _ rfl) (ev_var _ _ rfl) (ev_cst _) (t7 (k + 8) (wl' ▸ f18 (k + 3) hS w01.1 w01.2 A3))) ?_)).trans ?_
  · simp
    omega
  · rw [← hC]
    simp [at_]
end M74
/-! part M74l -/
set_option linter.all false
set_option maxRecDepth 100000
set_option maxHeartbeats 1000000
/-! The law. -/
namespace M74
open PySem In Tx P74
theorem jn_bd {b c : Int} {ts us : List Int} (w : Wrd) (h1 : OkS b ts) (h2 : OkS c us) : (jn w b ts c us).length ≤ 80 ∧ ∀ t ∈ jn w b ts c us, -10000000 ≤ t ∧ t ≤ 10000000 := by
  have l1 := chg_len ((srt (ts ++ us)).map fun t => (t, pt w (val b ts t) (val c us t))) (pt w b c)
  have l2 := srt_len (ts ++ us)
  have l3 := h1.len
  have l4 := h2.len
  simp only [List.length_map, List.length_append] at l1 l2
  refine ⟨by unfold jn; omega, fun u hu => ?_⟩
  obtain ⟨p, hp, rfl⟩ := chg_mem _ _ _ hu
  obtain ⟨t, ht, rfl⟩ := List.mem_map.mp hp
  rcases List.mem_append.mp ((srt_mem _ _).mp ht) with q | q
  · have := h1.lim t q; simp only; omega
  · have := h2.lim t q; simp only; omega
theorem gd_jn {b c : Int} {ts us : List Int} (w : Wrd) (h1 : OkS b ts) (h2 : OkS c us) : Gd (sg (pt w b c) (jn w b ts c us)) 2 20000 := gd_sg (pt_bit w h1.bit h2.bit) (by have := (jn_bd w h1 h2).1; omega) (jn_bd w h1 h2).2
def rsn : List String := ["second", "second", "word", "time", "begin", "end", "wait", "more", "more", "least", "both", "least"]
theorem noR_of {x : PyData} {lo hi : Int} (h : x ∈ [PyData.none, .int 1000001, .bool true, .str "1"]) (h2 : hi ≤ 1000000) : inR lo hi x = false := by
  simp only [List.mem_cons, List.not_mem_nil, or_false] at h
  rcases h with rfl | rfl | rfl | rfl
  · rfl
  · simp [inR]; omega
  · rfl
  · rfl
theorem noW_of {x : PyData} (h : x ∈ [PyData.none, .int (-1), .int 1000001, .bool true, .str "1"]) : inR 0 1000000 x = false := by
  simp only [List.mem_cons, List.not_mem_nil, or_false] at h
  rcases h with rfl | rfl | rfl | rfl | rfl <;> rfl
theorem f42 (ns : List Int) (hl : ns.length ≤ 63) : ∃ S, callAt fns W 30 42 [.d (.list (ns.map .int))] [] = .ok (.bool true) S := by
  obtain ⟨ds, hd, e1⟩ := f24 28 ns hl []
  obtain ⟨x3, hx3, e3⟩ := f27 26 hd (p := 0) (by omega) (rows := [.int 1, .int 3, .int 10, .int 40000]) (by simp) []
  obtain ⟨far, rfl, far0, far1⟩ : ∃ far, x3 = .int far ∧ 0 < far ∧ far ≤ 40000 := by
    simp only [List.mem_cons, List.not_mem_nil, or_false] at hx3
    rcases hx3 with rfl | rfl | rfl | rfl <;> exact ⟨_, rfl, by omega, by omega⟩
  obtain ⟨x4, hx4, e4⟩ := f27 26 hd (p := 0 + 1) (by omega) (rows := [.int 2, .int 6, .int 40]) (by simp) []
  obtain ⟨most, rfl, most0, most1⟩ : ∃ most, x4 = .int most ∧ 0 ≤ most ∧ most ≤ 40 := by
    simp only [List.mem_cons, List.not_mem_nil, or_false] at hx4
    rcases hx4 with rfl | rfl | rfl <;> exact ⟨_, rfl, by omega, by omega⟩
  obtain ⟨b, ts, p1, hS, hp1, e5⟩ := f29 25 hd (p := 0 + 1 + 1) (by omega) most0 most1 far0 far1 []
  obtain ⟨b', ts', p2, hS', hp2, e6⟩ := f29 25 hd hp1 (most := 8) (by omega) (by omega) far0 far1 []
  obtain ⟨x5, hx5, e7⟩ := f27 26 hd hp2 (rows := [sg b' ts', sg b ts, sg b ts.dropLast, sg (1 - b) ts]) (by simp) []
  obtain ⟨c, us, rfl, hU⟩ : ∃ c us, x5 = sg c us ∧ OkL c us := by
    simp only [List.mem_cons, List.not_mem_nil, or_false] at hx5
    rcases hx5 with rfl | rfl | rfl | rfl
    · exact ⟨_, _, rfl, hS'⟩
    · exact ⟨_, _, rfl, hS⟩
    · exact ⟨_, _, rfl, hS.init⟩
    · exact ⟨_, _, rfl, hS.flip⟩
  obtain ⟨p3, hp3, e8⟩ := f41 19 hS hd (p := p2 + 1) (by omega) []
  obtain ⟨p4, hp4, e9⟩ := f41 19 hU hd hp3 []
  obtain ⟨bad, hbad, e10⟩ := f27 26 hd hp4 (rows := bads) (by simp [bads]) []
  obtain ⟨odd, hodd, e11⟩ := f27 26 hd (p := p4 + 1) (by omega) (rows := [.none, .int (-1), .int 1000001, .bool true, .str "1"]) (by simp) []
  obtain ⟨fr, hfr, e12⟩ := f27 26 hd (p := p4 + 1 + 1) (by omega) (rows := [.none, .int 1000001, .bool true, .str "1"]) (by simp) []
  obtain ⟨nw, hnw, e13⟩ := f27 26 hd (p := p4 + 1 + 1 + 1) (by omega) (rows := [.none, .int 5, .str "nor", .str ""]) (by simp) []
  obtain ⟨ne, hne, e14⟩ := f27 26 hd (p := p4 + 1 + 1 + 1 + 1) (by omega) (rows := [fr, .int 4]) (by simp) []
  obtain ⟨nb, hnb, e15⟩ := f27 26 hd (p := p4 + 1 + 1 + 1 + 1 + 1) (by omega) (rows := [.none, .int 0, .int 1, .str "True"]) (by simp) []
  have hA := hS.toOkS
  have hB := hU.toOkS
  have B := bad_all hbad
  have q1 := noR_of (lo := -1000000) (hi := 1000000) hfr (by omega)
  have q2 := noW_of hodd
  have q3 : In.isType nw "str" = some false ∨ (In.isType nw "str" = some true ∧ cmpop .notin nw (.tuple [.str "and", .str "or", .str "unlike"]) = some true) := by
    simp only [List.mem_cons, List.not_mem_nil, or_false] at hnw
    rcases hnw with rfl | rfl | rfl | rfl
    · exact .inl rfl
    · exact .inl rfl
    · exact .inr (by decide +kernel)
    · exact .inr (by decide +kernel)
  have q4 : inR 5 1000000 ne = false := by
    simp only [List.mem_cons, List.not_mem_nil, or_false] at hne
    rcases hne with rfl | rfl
    · exact noR_of hfr (by omega)
    · rfl
  have q5 : In.isType nb "bool" = some false := by
    simp only [List.mem_cons, List.not_mem_nil, or_false] at hnb
    rcases hnb with rfl | rfl | rfl | rfl <;> rfl
  refine ⟨(at_ (p4 + 1 + 1 + 1 + 1 + 1 + 1) []).take 0, ?_⟩
  rw [r_42, b_42]
  refine q_asg _ (ev_call1 (ev_var _ _ rfl) e1) rfl ?_
  simp only [List.set_cons_succ, List.set_cons_zero]
  refine q_new [.int 0] (by simp) ?_
  simp only [List.set_cons_succ, List.set_cons_zero, List.nil_append, List.length_nil]
  refine q_asg' _ (ev_call3 (x := .d (.list [.int 1, .int 3, .int 10, .int 40000])) (by simp) (ev_var _ _ rfl) (ev_var _ _ rfl) e3) rfl ?_
  simp only [List.set_cons_succ, List.set_cons_zero]
  refine q_asg' _ (ev_call_of (vs := [.d (.int most), .d (.int far), .d (li ds), .loc 0]) (evs_c (ev_call3 (x := .d (.list [.int 2, .int 6, .int 40])) (by simp) (ev_var _ _ rfl) (ev_var _ _ rfl) e4) (evs_c (ev_var _ _ rfl) (evs_c (ev_var _ _ rfl) (evs_c (ev_var _ _ rfl) evs_nil)))) e5) rfl ?_
  simp only [List.set_cons_succ, List.set_cons_zero]
  have ee : ∀ ρ : In.Env, ρ[1]? = some (some (.d (li ds))) → ρ[2]? = some (some (.loc 0)) → ρ[3]? = some (some (.d (.int far))) → ρ[4]? = some (some (.d (sg b ts))) → ev (callAt fns W 29) (.call 27 (.cons (.lst (.cons (.call 29 (.cons (.cst (.int 8)) (.cons (.var 3) (.cons (.var 1) (.cons (.var 2) .nil)))) []) (.cons (.var 4) (.cons (.tup (.cons (.ix (.var 4) (.cst (.int 0))) (.cons (.sl (.ix (.var 4) (.cst (.int 1))) .nil (.cons (.u1 .neg (.cst (.int 1))) .nil)) .nil))) (.cons (.tup (.cons (.bin .sub (.cst (.int 1)) (.ix (.var 4) (.cst (.int 0)))) (.cons (.ix (.var 4) (.cst (.int 1))) .nil))) .nil))))) (.cons (.var 1) (.cons (.var 2) .nil))) []) ρ (at_ p1 []) = .ok (.d (sg c us)) (at_ (p2 + 1) []) := by
    intro ρ h1 h2 h3 h4
    refine ev_call_of (vs := [.d (.list [sg b' ts', sg b ts, sg b ts.dropLast, sg (1 - b) ts]), .d (li ds), .loc 0]) (evs_c (S1 := at_ p2 []) (ev_lst_of ?_) (evs_c (ev_var _ _ h1) (evs_c (ev_var _ _ h2) evs_nil))) e7
    refine evps_c (ev_call4 (ev_cst _) (ev_var _ _ h3) (ev_var _ _ h1) (ev_var _ _ h2) e6) (evps_c (ev_var _ _ h4) (evps_c (ev_tup_of (evps_c (ev_ix_of (ev_var _ _ h4) (ev_cst _) (ix0 _ _)) (evps_c (x := .tuple (iL ts.dropLast)) (S1 := at_ p2 []) ?_ evps_nil))) (evps_c (ev_tup_of (evps_c (ev_bin_of (ev_cst _) (ev_ix_of (ev_var _ _ h4) (ev_cst _) (ix0 _ _)) (bin_sub _ _)) (evps_c (ev_ix_of (ev_var _ _ h4) (ev_cst _) (ix1 _ _ _)) evps_nil))) evps_nil)))
    rw [ev_sl_init, ev_ix_of (ev_var _ _ h4) (ev_cst _) (ix1 _ _ _)]
    simp [slice_initT]
  refine q_asg' _ (ee _ rfl rfl rfl rfl) rfl ?_
  simp only [List.set_cons_succ, List.set_cons_zero]
  refine q_no' (S' := at_ p4 []) ?_ ?_
  · show tst _ _ _ _ = _
    rw [tst_or (tst_not (tst_b (ev_call3 (ev_var _ _ rfl) (ev_var _ _ rfl) (ev_var _ _ rfl) e8)))]
    rw [if_neg (by decide)]
    exact tst_not (tst_b (ev_call3 (ev_var _ _ rfl) (ev_var _ _ rfl) (ev_var _ _ rfl) e9))
  generalize hA4 : at_ p4 [] = A4 at *
  -- the three words
  have loop := (forL_ok (ck := chk [] A4) (asg := fun x ρ => put (.nm 6) x ρ) (b := fun ρ S => xs (callAt fns W 29) W (.cons (.ite (.not (.call 28 (.cons (.call 40 (.cons (.cst (.int 10)) (.cons (.var 4) (.cons (.var 5) (.cons (.var 6) .nil)))) []) (.cons (.call 38 (.cons (.var 4) (.cons (.var 5) (.cons (.var 6) .nil))) []) .nil)) [])) (.cons (.ret (.cst (.bool false))) .nil) .nil) .nil) ρ S) Wrd.d
    (fun l ρ S' => ∃ (u : Option Vl), ρ = [some (.d (.list (ns.map .int))), some (.d (li ds)), some (.loc 0), some (.d (.int far)), some (.d (sg b ts)), some (.d (sg c us)), u, none, none, none, none, none, none, none, none, none, none] ∧ S' = A4) [.an, .oo, .un] _ _ ⟨none, rfl, rfl⟩ ?_).get
  rotate_left
  · rintro w l ρ S' ⟨u, rfl, rfl⟩
    refine ⟨[some (.d (.list (ns.map .int))), some (.d (li ds)), some (.loc 0), some (.d (.int far)), some (.d (sg b ts)), some (.d (sg c us)), some (.d w.d), none, none, none, none, none, none, none, none, none, none], rfl, Ok_eq (a := .nx _) (S' := S') ?_ ⟨_, rfl, rfl, some (.d w.d), rfl, rfl⟩⟩
    rw [xs_cons, x1_no (tst_not (tst_b (same 28 (gd_jn w hA hB) (by decide) (by decide) (ev_call4 (ev_cst _) (ev_var _ _ rfl) (ev_var _ _ rfl) (ev_var _ _ rfl) (t10 28 (f12 23 w hA hB S'))) (ev_call3 (ev_var _ _ rfl) (ev_var _ _ rfl) (ev_var _ _ rfl) (f38 27 w hA hB S')))))]
    simp
  obtain ⟨fl, S', el, ρ', rfl, u, rfl, rfl⟩ := loop
  refine q_loop el (gs := []) (S1 := S') (by rw [evI_e, ev_tup_of (evps_c (ev_cst _) (evps_c (ev_cst _) (evps_c (ev_cst _) evps_nil)))]; rfl) ?_
  refine q_asg _ (ev_call3 (ev_var _ _ rfl) (ev_var _ _ rfl) (ev_cst _) (f38 27 .un hA hB S')) rfl ?_
  simp only [List.set_cons_succ, List.set_cons_zero]
  have d8 : ∀ ρ : In.Env, ρ[7]? = some (some (.d (sg (pt .un b c) (jn .un b ts c us)))) → ev (callAt fns W 29) (.ite (.cmp .eq (.ix (.var 7) (.cst (.int 0))) (.cst (.int 1))) (.tup (.cons (.cst (.str "always")) .nil)) (.ite (.ix (.var 7) (.cst (.int 1))) (.ix (.ix (.var 7) (.cst (.int 1))) (.cst (.int 0))) (.cst .none))) ρ S' = .ok (.d (if pt .un b c = 1 then .tuple [.str "always"] else match jn .un b ts c us with | [] => .none | t :: _ => .int t)) S' := by
    intro ρ h7
    by_cases q : pt .un b c = 1
    · simp [h7, q]
    · cases hj : jn .un b ts c us with
      | nil => simp [h7, q, hj]
      | cons t r => simp [h7, q, hj]
  refine q_asg _ (d8 _ rfl) rfl ?_
  simp only [List.set_cons_succ, List.set_cons_zero]
  have g8 : Gd (if pt .un b c = 1 then .tuple [.str "always"] else match jn .un b ts c us with | [] => .none | t :: _ => .int t) 1 200 := by
    have jb := (jn_bd .un hA hB).2
    split
    · refine (gd_tup (e := 0) (m := 40) fun x hx => ?_).up (Nat.le_refl _) (by simp)
      have : x = .str "always" := by simpa using hx
      subst this
      exact gd_str _ (by decide +kernel) (by decide +kernel) (by decide +kernel)
    · split
      · exact gd_none.up (by omega) (by omega)
      · rename_i t r hj
        rw [hj] at jb
        exact gd_i (by have := jb t List.mem_cons_self; omega) (by omega)
  refine q_no (tst_not (tst_b (same 28 g8 (by decide) (by decide) (ev_call4 (ev_cst _) (ev_var _ _ rfl) (ev_var _ _ rfl) (ev_cst _) (t11 28 (f22 23 hA hB S'))) (ev_var _ _ rfl)))) ?_
  -- no signals
  have es : ∀ (ρ : In.Env) (S : Sto), ev (callAt fns W 29) (.seq (.rng1 (.bin .add (.cst (.int 40)) (.cst (.int 1))))) ρ S = .ok (.d (.tuple ((upFrom 0 41).map .int))) S := by
    intro ρ S
    have hit : evI (callAt fns W 29) (.rng1 (.bin .add (.cst (.int 40)) (.cst (.int 1)))) ρ S = .ok ((upFrom 0 41).map .int, []) S := by
      rw [evI_rng1, ev_bin_of (ev_cst _) (ev_cst _) (bin_add _ _), R.bind_ok, intR_int, show ((40 : Int) + 1) = ((41 : Nat) : Int) from rfl, rng_n 41 (by decide)]
      rfl
    simp only [ev, hit, R.bind_ok]
    rfl
  refine q_asg' _ (ev_call_of (vs := [.d (.list bads), .d (li ds), .loc 0]) (evs_c (S1 := S') (by simp [bads, es]) (evs_c (ev_var _ _ rfl) (evs_c (ev_var _ _ rfl) evs_nil))) e10) rfl ?_
  simp only [List.set_cons_succ, List.set_cons_zero]
  generalize hA5 : at_ (p4 + 1) [] = A5 at *
  have tb : ∀ j : Nat, j < 10 → callAt fns W 29 40 [.d (.int (j : Int)), .d bad, .d .none, .d .none] A5 = .ok (arg (.str "signal")) A5 := by
    intro j hj
    have : j = 0 ∨ j = 1 ∨ j = 2 ∨ j = 3 ∨ j = 4 ∨ j = 5 ∨ j = 6 ∨ j = 7 ∨ j = 8 ∨ j = 9 := by omega
    rcases this with rfl | rfl | rfl | rfl | rfl | rfl | rfl | rfl | rfl | rfl
    · exact t0b 28 (f5x 23 B _ A5)
    · exact t1b 28 (f19b 23 B A5)
    · exact t2b 28 (f21b 23 B A5)
    · exact t3b 28 (f20x 23 B _ _ A5)
    · exact t4b 28 (f7b 23 B A5)
    · exact t5b 28 (f9x 23 B _ A5)
    · exact t6b 28 (f17x 23 B _ A5)
    · exact t7b 28 (f18x 23 B _ A5)
    · exact t8b 28 (f14x 23 B _ A5)
    · exact t9b 28 (f23x 23 B _ _ A5)
  have lc1 : ∀ ρ : In.Env, ρ.length = 17 → ρ[9]? = some (some (.d bad)) → ev (callAt fns W 29) (.lc [16] (.nm 16) (.rng1 (.cst (.int 10))) .nil (.call 40 (.cons (.var 16) (.cons (.var 9) (.cons (.cst .none) (.cons (.cst .none) .nil)))) [])) ρ A5 = .ok (.d (.list ((List.range 10).map fun _ => arg (.str "signal")))) A5 := by
    intro ρ hρ h9
    refine ev_lc0 (fun (k : Nat) => .int (k : Int)) _ (evI_rlen (n := 10) (ev_cst _) (by decide)) (by simp [cap]) fun j hj => ⟨_, rfl, ?_⟩
    have g16 : ((wipe ρ [16]).set 16 (some (Vl.d (.int (j : Int)))))[16]? = some (some (.d (.int (j : Int)))) := List.getElem?_set_self (by simp [wipe, hρ])
    have g9 : ((wipe ρ [16]).set 16 (some (Vl.d (.int (j : Int)))))[9]? = some (some (.d bad)) := by
      rw [List.getElem?_set_ne (by decide)]
      simp only [wipe]
      rw [List.getElem?_set_ne (by decide)]
      exact h9
    rw [ev_call4 (ev_var _ _ g16) (ev_var _ _ g9) (ev_cst _) (ev_cst _) (tb j (List.mem_range.mp hj))]
    rfl
  have lc2 : ∀ (ρ : In.Env) (i i' : Nat) (y z : PyData) (x : String), ρ.length = 17 → i < 16 → i' < 16 → ρ[i]? = some (some (.d y)) → ρ[i']? = some (some (.d z)) → callAt fns W 29 40 [.d (.int 10), .d y, .d z, .d .none] A5 = .ok (arg (.str x)) A5 → callAt fns W 29 40 [.d (.int 11), .d y, .d z, .d .none] A5 = .ok (arg (.str x)) A5 → ev (callAt fns W 29) (.lc [16] (.nm 16) (.e (.tup (.cons (.cst (.int 10)) (.cons (.cst (.int 11)) .nil)))) .nil (.call 40 (.cons (.var 16) (.cons (.var i) (.cons (.var i') (.cons (.cst .none) .nil)))) [])) ρ A5 = .ok (.d (.list [arg (.str x), arg (.str x)])) A5 := by
    intro ρ i i' y z x hρ hi hi' h1 h2 c1 c2
    refine ev_lc0 (gs := []) (l := [(10 : Int), 11]) PyData.int (fun _ => arg (.str x)) (by simp) (by simp [cap]) fun a ha => ⟨_, rfl, ?_⟩
    have g16 : ((wipe ρ [16]).set 16 (some (Vl.d (.int a))))[16]? = some (some (.d (.int a))) := List.getElem?_set_self (by simp [wipe, hρ])
    have gg : ∀ i, i < 16 → ((wipe ρ [16]).set 16 (some (Vl.d (.int a))))[i]? = ρ[i]? := by
      intro i hi
      rw [List.getElem?_set_ne (by omega)]
      simp only [wipe]
      rw [List.getElem?_set_ne (by omega)]
    have : callAt fns W 29 40 [.d (.int a), .d y, .d z, .d .none] A5 = .ok (arg (.str x)) A5 := by
      simp only [List.mem_cons, List.not_mem_nil, or_false] at ha
      rcases ha with rfl | rfl
      · exact c1
      · exact c2
    rw [ev_call4 (ev_var _ _ g16) (ev_var _ _ ((gg i hi).trans h1)) (ev_var _ _ ((gg i' hi').trans h2)) (ev_cst _) this]
    rfl
  refine q_no' (S' := A5) ?_ ?_
  · show tst _ _ _ _ = _
    rw [tst_or (tst_b (ev_cmp_of (lc1 _ rfl rfl) (ev_bin_of (ev_lst_of (evps_c (ev_tup_of (evps_c (ev_cst _) (evps_c (ev_cst _) evps_nil))) evps_nil)) (ev_cst _) (z := .list ((List.range 10).map fun _ => arg (.str "signal"))) (by decide +kernel)) (z := false) (by decide +kernel))), if_neg (by decide)]
    exact tst_b (ev_cmp_of (lc2 _ 9 9 bad bad "first" rfl (by decide) (by decide) rfl rfl (t10b 28 (f12x 23 B _ _ A5)) (t11b 28 (f22x 23 B _ A5))) (ev_bin_of (ev_lst_of (evps_c (ev_tup_of (evps_c (ev_cst _) (evps_c (ev_cst _) evps_nil))) evps_nil)) (ev_cst _) (z := .list [arg (.str "first"), arg (.str "first")]) (by decide +kernel)) (z := false) (by decide +kernel))
  -- wrong values
  refine q_par odd fr (ev_call3 (x := .d (.list [.none, .int (-1), .int 1000001, .bool true, .str "1"])) (by simp) (ev_var _ _ rfl) (ev_var _ _ rfl) e11) (ev_call3 (x := .d (.list [.none, .int 1000001, .bool true, .str "1"])) (by simp) (ev_var _ _ rfl) (ev_var _ _ rfl) e12) ?_
  simp only [List.set_cons_succ, List.set_cons_zero]
  refine q_asg' (.list [arg (.str "word")]) (S' := at_ (p4 + 1 + 1 + 1 + 1) []) (ev_lst_of (evps_c (ev_call_of (vs := [.d (.int 10), .d (sg b ts), .d (sg c us), .d nw]) (evs_c (ev_cst _) (evs_c (ev_var _ _ rfl) (evs_c (ev_var _ _ rfl) (evs_c (ev_call3 (x := .d (.list [.none, .int 5, .str "nor", .str ""])) (by simp) (ev_var _ _ rfl) (ev_var _ _ rfl) e13) evs_nil)))) (t10b 28 (f12z 23 hA hB q3 _))) evps_nil)) rfl ?_
  simp only [List.set_cons_succ, List.set_cons_zero]
  clear e1 e3 e4 e5 e6 e7 e8 e9 e10 e11 e12 e13 tb lc1 d8 es ee el
  generalize hA6 : at_ (p4 + 1 + 1 + 1 + 1) [] = A6 at *
  have tw : ∀ (w : Int) (y z : PyData) (S : Sto) (x : String), callAt fns W 29 40 [.d (.int w), .d (sg b ts), .d y, .d z] S = .ok (arg (.str x)) S → True := fun _ _ _ _ _ _ => trivial
  have lc2 : ∀ (ρ : In.Env) (i i' : Nat) (y z : PyData) (x : String), ρ.length = 17 → i < 16 → i' < 16 → ρ[i]? = some (some (.d y)) → ρ[i']? = some (some (.d z)) → callAt fns W 29 40 [.d (.int 10), .d y, .d z, .d .none] A6 = .ok (arg (.str x)) A6 → callAt fns W 29 40 [.d (.int 11), .d y, .d z, .d .none] A6 = .ok (arg (.str x)) A6 → ev (callAt fns W 29) (.lc [16] (.nm 16) (.e (.tup (.cons (.cst (.int 10)) (.cons (.cst (.int 11)) .nil)))) .nil (.call 40 (.cons (.var 16) (.cons (.var i) (.cons (.var i') (.cons (.cst .none) .nil)))) [])) ρ A6 = .ok (.d (.list [arg (.str x), arg (.str x)])) A6 := by
    intro ρ i i' y z x hρ hi hi' h1 h2 c1 c2
    refine ev_lc0 (gs := []) (l := [(10 : Int), 11]) PyData.int (fun _ => arg (.str x)) (by simp) (by simp [cap]) fun a ha => ⟨_, rfl, ?_⟩
    have g16 : ((wipe ρ [16]).set 16 (some (Vl.d (.int a))))[16]? = some (some (.d (.int a))) := List.getElem?_set_self (by simp [wipe, hρ])
    have gg : ∀ i, i < 16 → ((wipe ρ [16]).set 16 (some (Vl.d (.int a))))[i]? = ρ[i]? := by
      intro i hi
      rw [List.getElem?_set_ne (by omega)]
      simp only [wipe]
      rw [List.getElem?_set_ne (by omega)]
    have : callAt fns W 29 40 [.d (.int a), .d y, .d z, .d .none] A6 = .ok (arg (.str x)) A6 := by
      simp only [List.mem_cons, List.not_mem_nil, or_false] at ha
      rcases ha with rfl | rfl
      · exact c1
      · exact c2
    rw [ev_call4 (ev_var _ _ g16) (ev_var _ _ ((gg i hi).trans h1)) (ev_var _ _ ((gg i' hi').trans h2)) (ev_cst _) this]
    rfl
  refine q_asg (.list (([arg (.str "second"), arg (.str "second")] ++ [arg (.str "word")]) ++ [arg (.str "time"), arg (.str "begin")])) (ev_bin_of (ev_bin_of (lc2 _ 4 9 (sg b ts) bad "second" rfl (by decide) (by decide) rfl rfl (t10b 28 (f12y 23 hA B _ A6)) (t11b 28 (f22y 23 hA B A6))) (ev_var _ _ rfl) (bin_cat _ _ (by simp [cap]))) (ev_lst_of (evps_c (ev_call4 (ev_cst _) (ev_var _ _ rfl) (ev_var _ _ rfl) (ev_cst _) (t0b 28 (f5b 23 hA q1 A6))) (evps_c (ev_call4 (ev_cst _) (ev_var _ _ rfl) (ev_var _ _ rfl) (ev_var _ _ rfl) (t3b 28 (f20b 23 hA q1 _ A6))) evps_nil))) (bin_cat _ _ (by simp [cap]))) rfl ?_
  simp only [List.set_cons_succ, List.set_cons_zero]
  generalize hA7 : at_ (p4 + 1 + 1 + 1 + 1 + 1) [] = A7 at *
  refine q_asg' (.list [arg (.str "end"), arg (.str "wait")]) (S' := A7) (ev_lst_of (evps_c (ev_call_of (vs := [.d (.int 3), .d (sg b ts), .d (.int 5), .d ne]) (evs_c (ev_cst _) (evs_c (ev_var _ _ rfl) (evs_c (ev_cst _) (evs_c (ev_call3 (ev_lst_of (evps_c (ev_var _ _ rfl) (evps_c (ev_cst _) evps_nil))) (ev_var _ _ rfl) (ev_var _ _ rfl) e14) evs_nil)))) (t3b 28 (f20c 23 hA (p := 5) (by omega) q4 _))) (evps_c (ev_call4 (ev_cst _) (ev_var _ _ rfl) (ev_var _ _ rfl) (ev_cst _) (t5b 28 (f9b 23 hA q2 A7))) evps_nil))) rfl ?_
  simp only [List.set_cons_succ, List.set_cons_zero]
  refine q_asg (.list (((([arg (.str "second"), arg (.str "second")] ++ [arg (.str "word")]) ++ [arg (.str "time"), arg (.str "begin")]) ++ [arg (.str "end"), arg (.str "wait")]) ++ [arg (.str "more"), arg (.str "more"), arg (.str "least")])) (ev_bin_of (ev_bin_of (ev_var _ _ rfl) (ev_var _ _ rfl) (bin_cat _ _ (by simp [cap]))) (ev_lst_of (evps_c (ev_call4 (ev_cst _) (ev_var _ _ rfl) (ev_var _ _ rfl) (ev_cst _) (t6b 28 (f17b 23 hA q2 A7))) (evps_c (ev_call4 (ev_cst _) (ev_var _ _ rfl) (ev_var _ _ rfl) (ev_cst _) (t7b 28 (f18b 23 hA q2 A7))) (evps_c (ev_call4 (ev_cst _) (ev_var _ _ rfl) (ev_var _ _ rfl) (ev_cst _) (t8b 28 (f14b 23 hA q2 A7))) evps_nil)))) (bin_cat _ _ (by simp [cap]))) rfl ?_
  simp only [List.set_cons_succ, List.set_cons_zero]
  refine q_asg' (.list ((((([arg (.str "second"), arg (.str "second")] ++ [arg (.str "word")]) ++ [arg (.str "time"), arg (.str "begin")]) ++ [arg (.str "end"), arg (.str "wait")]) ++ [arg (.str "more"), arg (.str "more"), arg (.str "least")]) ++ [arg (.str "both"), arg (.str "least")])) (S' := at_ (p4 + 1 + 1 + 1 + 1 + 1 + 1) []) (ev_bin_of (ev_var _ _ rfl) (ev_lst_of (evps_c (ev_call_of (vs := [.d (.int 9), .d (sg b ts), .d nb, .d odd]) (evs_c (ev_cst _) (evs_c (ev_var _ _ rfl) (evs_c (ev_call3 (ev_lst_of (evps_c (ev_cst _) (evps_c (ev_cst _) (evps_c (ev_cst _) (evps_c (ev_cst _) evps_nil))))) (ev_var _ _ rfl) (ev_var _ _ rfl) e15) (evs_c (ev_var _ _ rfl) evs_nil)))) (t9b 28 (f23b 23 hA q5 odd _))) (evps_c (ev_call4 (ev_cst _) (ev_var _ _ rfl) (ev_cst _) (ev_var _ _ rfl) (t9b 28 (f23c 23 hA q2 true _))) evps_nil))) (bin_cat _ _ (by simp [cap]))) rfl ?_
  simp only [List.set_cons_succ, List.set_cons_zero]
  refine q_asg (.list (rsn.map fun x => .str (Str.ofString x))) (by simp [rsn]) rfl ?_
  simp only [List.set_cons_succ, List.set_cons_zero]
  refine (q_ret (.bool true) (ev_cmp_of (ev_var _ _ rfl) (y := .list (rsn.map fun x => arg (.str (Str.ofString x)))) (S2 := at_ (p4 + 1 + 1 + 1 + 1 + 1 + 1) []) ?_ (by decide +kernel))).trans rfl
  refine ev_lc0 (gs := []) (l := rsn) (fun x => .str (Str.ofString x)) _ (by simp) (by simp [cap, rsn]) fun a ha => ⟨_, rfl, ?_⟩
  simp [wipe]
end M74
/-! part Z74 -/
set_option Elab.async false
set_option linter.all false
set_option maxRecDepth 100000
set_option maxHeartbeats 0
open PySem PySem.W PySem.Calls PyProof.Rows
theorem law_ok (ns : List Int) (hl : ns.length ≤ 63) (_ : ∀ z ∈ ns, Builtin.Int.intBits z ≤ 1048576) : ∃ S, In.callAt Tx.fns Tx.W 30 42 [.d (.list (ns.map .int))] [] = .ok (.bool true) S := M74.f42 ns hl
theorem PySem.Challenge.cw_timewrought_k74_whole_pulses_holds : PySem.Challenge.rw_timewrought_k74_whole_pulses.Holds := by
  w_on; o_law
  refine HandSHeadRun.head_any (r := Tx.R) (q := view Tx.R.prog [52]) (H := Tx.hk) (ob := Tx.ob) (M := 6000) (loose := Tx.loose) (d := HandSHeadRun.topDef Tx.R.prog 52) (kwd := []) Tx.ob_eq
    (by kernel_rfl) (fun s => by kernel_rfl) Tx.run (by kernel_rfl) (by kernel_rfl) (by kernel_rfl) (by rfl) (by first | assumption | decide +kernel) (by decide +kernel) ⟨rfl, rfl, rfl, rfl, rfl, by decide +kernel⟩ ?hw ?hc
  case hw => w_witness2
  case hc =>
    refine In.walk_in (l := PySem.Challenge.rw_timewrought_k74_whole_pulses) (n := 63) (k := 30) (W := Tx.W) (G := Tx.G) (fns := Tx.fns) (D := ⟨42, 1, []⟩) rfl (by decide) (by kernel_rfl) ⟨⟨rfl, by decide, by decide⟩, rfl⟩ (by kernel_rfl) rfl rfl ?F law_ok
    intro w mg fa h Y G hmg0
    obtain ⟨K, KX, c⟩ := Y
    exact ⟨K, KX, c.nol, fun base X Gn => c.wd0 X Gn, Tx.defs KX G c⟩
