import PyProof.Rows.All
import Wide.All
import OpenK.AllK
import Wide.FinOn
import HandS.ForMost
import HandS.ForExc
import HandS.TupAny
import HandS.TupMul
import HandS.TupLe
import HandS.Deep
import HandS.IsInst
import HandS.Style
import HandS.SortOrd
import HandS.SortRule
import KE.KSortTupAny
import HandS.RaiseMore
import PyProof.SeqIndex
import HandS.ExcOwn
import HandS.Zip
import HandS.Walk
import KE.GoesMore
import KE.GoesEnum
import HandS.TryOnly
import HandS.SetFor
import HandS.Set
import HandS.Strs
import HandS.Iter
import HandS.Dict
import KE.KDictPairs
import HandS.WordsExc
import KE.KExcLine
import PySem.Challenge.RW_cupsback_k05_whole_prices_of_things
set_option Elab.async false
set_option linter.all false
set_option maxRecDepth 100000
section
/-! CB1: data, memory, the small language and its interpreter. -/
namespace CB
open PySem

inductive D where
  | non | bl (b : Bool) | int (i : Int) | str (x : Str)
  | tup (l : List D) | lst (l : List D) | dct (l : List (List Int × D)) | scr (l : List Int) | loc (n : Nat) | fn (f : Nat) | key (k : List Int)
deriving Inhabited
inductive MO where
  | lst (l : List D) | dct (l : List (List Int × D)) | dead
deriving Inhabited
abbrev Mem := List MO
abbrev Env := List (Option D)
structure Ex where
  cls : Nat
  arg : Option Int := none
deriving DecidableEq, Inhabited
inductive Rs (α : Type) where
  | ok (a : α) (M : Mem) | exc (x : Ex) (M : Mem) | stuck
def Rs.bind {α β : Type} : Rs α → (α → Mem → Rs β) → Rs β
  | .ok a M, f => f a M
  | .exc x M, _ => .exc x M
  | .stuck, _ => .stuck
def Rs.noexc {α : Type} : Rs α → Rs α
  | .ok a M => .ok a M
  | _ => .stuck
@[simp] theorem Rs.bind_ok {α β : Type} (a : α) (M : Mem) (f : α → Mem → Rs β) : (Rs.ok a M).bind f = f a M := rfl
@[simp] theorem Rs.bind_exc {α β : Type} (x : Ex) (M : Mem) (f : α → Mem → Rs β) : (Rs.exc x M).bind f = .exc x M := rfl
@[simp] theorem Rs.bind_stuck {α β : Type} (f : α → Mem → Rs β) : (Rs.stuck : Rs α).bind f = .stuck := rfl
@[simp] theorem Rs.noexc_ok {α : Type} (a : α) (M : Mem) : (Rs.ok a M).noexc = .ok a M := rfl
theorem Rs.bind_assoc {α β γ : Type} (r : Rs α) (f : α → Mem → Rs β) (g : β → Mem → Rs γ) : (r.bind f).bind g = r.bind fun a M => (f a M).bind g := by cases r <;> rfl

/-! ### data -/
mutual
def D.pd : D → Option PyData
  | .non => some .none
  | .bl b => some (.bool b)
  | .int i => some (.int i)
  | .str x => some (.str x)
  | .tup l => (pdL l).map PyData.tuple
  | .lst l => (pdL l).map PyData.list
  | .dct _ => none
  | .scr _ => none
  | .loc _ => none
  | .fn _ => none
  | .key _ => none
def pdL : List D → Option (List PyData)
  | [] => some []
  | d :: ds => match d.pd, pdL ds with | some a, some b => some (a :: b) | _, _ => none
end
/-- a list's items, be it a value or a cell -/
def asL (M : Mem) : D → Option (List D)
  | .lst l => some l
  | .loc n => match M[n]? with | some (.lst l) => some l | _ => none
  | _ => none
def asLT (M : Mem) : D → Option (List D)
  | .lst l => some l
  | .tup l => some l
  | .loc n => match M[n]? with | some (.lst l) => some l | _ => none
  | _ => none
def asK (M : Mem) : D → Option (List (List Int × D))
  | .dct l => some l
  | .loc n => match M[n]? with | some (.dct l) => some l | _ => none
  | _ => none
def deref (M : Mem) (d : D) : D := match d with
  | .loc n => match M[n]? with | some (.lst l) => .lst l | _ => d
  | _ => d
def pdM (M : Mem) (d : D) : Option PyData := match (deref M d).pd with
  | some p => if SeqAt.shaped p = true then some p else none
  | none => none
def intKey : List D → Option (List Int)
  | [] => some []
  | .int i :: r => (intKey r).map (i :: ·)
  | _ => none
def kGet (k : List Int) : List (List Int × D) → Option D
  | [] => none
  | (q, v) :: r => if q = k then some v else kGet k r
def kPut (k : List Int) (v : D) (l : List (List Int × D)) : List (List Int × D) :=
  if (l.any fun p => decide (p.1 = k)) = true then l.map (fun p => if p.1 = k then (p.1, v) else p) else l ++ [(k, v)]
def dBools : List D → Option (List Bool)
  | [] => some []
  | .bl b :: r => (dBools r).map (b :: ·)
  | _ => none
def dInts : List D → Option (List Int)
  | [] => some []
  | .int b :: r => (dInts r).map (b :: ·)
  | _ => none
def dStrs : List D → Option (List Str)
  | [] => some []
  | .str b :: r => (dStrs r).map (b :: ·)
  | _ => none
/-! ### the language -/
inductive O2 where | add | sub | mul | fdiv | mod | pow | ix
deriving DecidableEq, Inhabited
inductive OC where | eq | ne | lt | le | gt | ge | is_ | isnot | in_ | notin
deriving DecidableEq, Inhabited
inductive OB where | len | all | any | tuple | list | sorted | min | sum | min2 | max2 | abs | int | str | dict | sset
deriving DecidableEq, Inhabited
inductive OM where | get | index | count | join | split | replace
deriving DecidableEq, Inhabited
inductive Ty where | int | bool | tuple | str | list
deriving DecidableEq, Inhabited
mutual
inductive Pt where | nm (i : Nat) | tup (ps : Pts)
inductive Pts where | nil | cons (p : Pt) (ps : Pts)
end
mutual
inductive T where
  | var (i : Nat)
  | con (d : D)
  | frz (i : Nat)
  | mk (e : T)
  | tup (es : Ts)
  | key (es : Ts)
  | lst (es : Ts)
  | op2 (o : O2) (a b : T)
  | cmp (o : OC) (a b : T)
  | chn (o o' : OC) (a b c : T)
  | not (a : T)
  | neg (a : T)
  | and (a b : T)
  | or (a b : T)
  | ite (c a b : T)
  | slc (a : T) (lo hi : To)
  | rev (a : T)
  | call (f : Nat) (es : Ts)
  | call0 (f : Nat)
  | callv (i : Nat) (es : Ts)
  | b (o : OB) (es : Ts)
  | m (o : OM) (a : T) (es : Ts)
  | isi (a : T) (ty : Ty)
  | lc (p : Pt) (it : I) (c e : T) (own : List Nat)
  | lc2 (p : Pt) (it : I) (p1 : Pt) (it1 : I) (c1 e : T) (own own1 : List Nat)
inductive Ts where | nil | cons (t : T) (ts : Ts)
inductive To where | no | yes (t : T)
inductive I where
  | seq (e : T) | keys (e : T) | rng (a : T) | rng2 (a b : T) | enum (e : T) | zip (a b : T)
end
mutual
inductive S where
  | set (i : Nat) (e : T)
  | asg (p : Pt) (e : T)
  | par2 (i j : Nat) (a b : T)
  | par3 (i j k : Nat) (a b c : T)
  | put (o i v : T)
  | app (o e : T)
  | expr (e : T)
  | ret (e : T)
  | ite (c : T) (a b : Ss)
  | for_ (p : Pt) (it : I) (body : Ss)
  | forK (p : Pt) (i : Nat) (body : Ss)
  | whl (c : T) (body : Ss)
  | raise (c : Nat)
  | try_ (body : Ss) (c : Nat) (suite : Ss)
  | cont
inductive Ss where | nil | cons (s : S) (ss : Ss)
end

/-! ### what operations do -/
def small64 (i : Int) : Bool := decide (-(2 ^ 64) < i) && decide (i < 2 ^ 64)
def lineN : Nat := 16777216
def atL (xs : List D) (i : Int) : Option D := (L2.ixN xs.length i).bind fun j => xs[j]?
def add2 (M : Mem) : D → D → Option D
  | .int a, .int b => some (.int (a + b))
  | .str a, .str b => if a.length + b.length ≤ lineN then some (.str (a ++ b)) else none
  | .tup a, .tup b => if a.length + b.length ≤ lineN then some (.tup (a ++ b)) else none
  | a, b => match asL M a, asL M b with
    | some xs, some ys => if xs.length + ys.length ≤ lineN then some (.lst (xs ++ ys)) else none
    | _, _ => none
def mul2 : D → D → Option D
  | .int a, .int b => if small64 a || small64 b then some (.int (a * b)) else none
  | .tup xs, .int k => if xs ≠ [] ∧ 2 ≤ k ∧ k ≤ 1000 ∧ xs.length ≤ 1000 then some (.tup (List.replicate k.toNat xs).flatten) else none
  | .lst xs, .int k => if 0 ≤ k ∧ k ≤ 1000 ∧ xs.length ≤ 1000 then some (.lst (List.replicate k.toNat xs).flatten) else none
  | _, _ => none
def ix2 (M : Mem) (a i : D) : Option D := match a, i with
  | .tup xs, .int i => atL xs i
  | .lst xs, .int i => atL xs i
  | .scr xs, .int i => (L2.ixN xs.length i).bind fun j => (xs[j]?).map D.int
  | .loc n, .int i => match M[n]? with | some (.lst xs) => atL xs i | _ => none
  | d, .key k => (asK M d).bind (kGet k)
  | _, _ => none
def op2 (M : Mem) (o : O2) (a b : D) : Option D := match o with
  | .add => add2 M a b
  | .sub => match a, b with | .int a, .int b => some (.int (a - b)) | _, _ => none
  | .mul => mul2 a b
  | .fdiv => match a, b with | .int a, .int b => if 0 < b ∧ b < 1073741824 then some (.int (a / b)) else none | _, _ => none
  | .mod => match a, b with | .int a, .int b => if 0 < b then some (.int (a % b)) else none | _, _ => none
  | .pow => match a, b with | .int a, .int b => if 0 ≤ b ∧ b ≤ 1000000 ∧ small64 a then some (.int (a ^ b.toNat)) else none | _, _ => none
  | .ix => ix2 M a b
def eq2 (M : Mem) (a b : D) : Option Bool := match pdM M a, pdM M b with | some x, some y => some (PyData.eqv x y) | _, _ => none
/-- the order: whole numbers, texts, tuples of such item by item, six deep -/
def ltL (f : D → D → Option Bool) : List D → List D → Option Bool
  | [], [] => some false
  | [], _ :: _ => some true
  | _ :: _, [] => some false
  | x :: xs, y :: ys => match eq2 [] x y, ltL f xs ys with
    | some true, some r => some r
    | some false, some _ => f x y
    | _, _ => none
def ltN : Nat → D → D → Option Bool
  | 0, _, _ => none
  | n + 1, a, b => match a, b with
    | .int a, .int b => some (decide (a < b))
    | .str a, .str b => some (decide (a.cps.toList < b.cps.toList))
    | .tup xs, .tup ys => ltL (ltN n) xs ys
    | _, _ => none
abbrev ltD : D → D → Option Bool := ltN 6
/-- <= the same way -/
def leL (f : D → D → Option Bool) : List D → List D → Option Bool
  | [], [] => some true
  | [], _ :: _ => some true
  | _ :: _, [] => some false
  | x :: xs, y :: ys => match eq2 [] x y, leL f xs ys with
    | some true, some r => some r
    | some false, some _ => f x y
    | _, _ => none
def leN : Nat → D → D → Option Bool
  | 0, _, _ => none
  | n + 1, a, b => match a, b with
    | .int a, .int b => some (decide (a ≤ b))
    | .str a, .str b => some (!decide (b.cps.toList < a.cps.toList))
    | .tup xs, .tup ys => leL (leN n) xs ys
    | _, _ => none
abbrev leD : D → D → Option Bool := leN 6
def in2 (M : Mem) (a b : D) : Option Bool := match a, b with
  | .key k, .dct kvs => some (kGet k kvs).isSome
  | a, .tup ys => match pdM M a, pdM M (.tup ys) with | some x, some (.tuple l) => some (l.any fun z => PyData.eqv z x) | _, _ => none
  | a, .lst ys => match pdM M a, pdM M (.lst ys) with | some x, some (.list l) => some (l.any fun z => PyData.eqv z x) | _, _ => none
  | a, .loc n => match M[n]? with
    | some (.dct kvs) => match a with | .key k => some (kGet k kvs).isSome | _ => none
    | some (.lst ys) => match pdM M a, pdM M (.lst ys) with | some x, some (.list l) => some (l.any fun z => PyData.eqv z x) | _, _ => none
    | _ => none
  | _, _ => none
def D.isNon : D → Bool
  | .non => true
  | _ => false
def is2 (a b : D) : Option Bool := match a, b with
  | a, .non => some a.isNon
  | .bl a, .bl b => some (a == b)
  | _, _ => none
def cmp2 (M : Mem) (o : OC) (a b : D) : Option Bool := match o with
  | .eq => eq2 M a b
  | .ne => (eq2 M a b).map (!·)
  | .lt => match a, b with | .int a, .int b => some (decide (a < b)) | _, _ => none
  | .gt => match a, b with | .int a, .int b => some (decide (b < a)) | _, _ => none
  | .ge => match a, b with | .int a, .int b => some (decide (b ≤ a)) | _, _ => none
  | .le => leD a b
  | .is_ => is2 a b
  | .isnot => (is2 a b).map (!·)
  | .in_ => in2 M a b
  | .notin => (in2 M a b).map (!·)
def cutD (xs : List D) (lo hi : Option Int) : List D := (xs.drop (HT.sIx xs.length 0 lo)).take (HT.sIx xs.length xs.length hi - HT.sIx xs.length 0 lo)
def slc3 (M : Mem) (a : D) (lo hi : Option Int) : Option D := match a with
  | .tup xs => some (.tup (cutD xs lo hi))
  | .str x => if x.length ≤ lineN then some (.str (L2.cutS x lo hi)) else none
  | d => (asL M d).map fun xs => .lst (cutD xs lo hi)
/-- sorted: by insertion; the answer looked over -/
def insD (x : D) : List D → Option (List D)
  | [] => some [x]
  | y :: r => match ltD x y with | some true => some (x :: y :: r) | some false => (insD x r).map (y :: ·) | none => none
def sortU : List D → Option (List D)
  | [] => some []
  | x :: r => (sortU r).bind (insD x)
/-- sorted(set(..)) of whole numbers -/
def insS (x : Int) : List Int → List Int
  | [] => [x]
  | y :: r => if x < y then x :: y :: r else if x = y then y :: r else y :: insS x r
def setS : List Int → List Int
  | [] => []
  | x :: r => insS x (setS r)
mutual
def sameD : D → D → Bool
  | .int i, .int j => i == j
  | .str x, .str y => x == y
  | .tup xs, .tup ys => sameL xs ys
  | _, _ => false
def sameL : List D → List D → Bool
  | [], [] => true
  | x :: xs, y :: ys => sameD x y && sameL xs ys
  | _, _ => false
end
def okTo (x : D) : List D → Bool
  | [] => true
  | y :: r => (sameD x y && ltD x y == some false && ltD y x == some false || !sameD x y && ltD x y == some true && ltD y x == some false) && okTo x r
def okAll : List D → Bool
  | [] => true
  | x :: r => sameD x x && ltD x x == some false && okTo x r && okAll r
def headK : D → Nat
  | .int _ => 1
  | .tup (.int _ :: _) => 3
  | .tup (.str _ :: _) => 4
  | .tup (.tup _ :: _) => 5
  | _ => 0
def kindOk : List D → Bool
  | x :: y :: r => headK x != 0 && (y :: r).all (fun z => headK z == headK x)
  | _ => true
def sortD (l : List D) : Option (List D) := if kindOk l = true then (sortU l).bind fun l' => if okAll l' = true then some l' else none else none
end CB
end
section
/-! CB2: the interpreter. -/
namespace CB
open PySem

def lift {α : Type} (M : Mem) : Option α → Rs α
  | some a => .ok a M
  | none => .stuck
@[simp] theorem lift_some {α : Type} (M : Mem) (a : α) : lift M (some a) = .ok a M := rfl
@[simp] theorem lift_none {α : Type} (M : Mem) : (lift M (none : Option α)) = .stuck := rfl
def liftB (M : Mem) : Option Bool → Rs D
  | some a => .ok (.bl a) M
  | none => .stuck
@[simp] theorem liftB_some (M : Mem) (a : Bool) : liftB M (some a) = .ok (.bl a) M := rfl
@[simp] theorem liftB_none (M : Mem) : liftB M none = .stuck := rfl

/-- a bool, or stuck -/
def Rs.test {α : Type} (r : Rs D) (f : Bool → Mem → Rs α) : Rs α := r.bind fun d M => match d with | .bl b => f b M | _ => .stuck
@[simp] theorem Rs.test_ok {α : Type} (b : Bool) (M : Mem) (f : Bool → Mem → Rs α) : (Rs.ok (.bl b) M).test f = f b M := rfl
@[simp] theorem Rs.test_exc {α : Type} (x : Ex) (M : Mem) (f : Bool → Mem → Rs α) : (Rs.exc x M : Rs D).test f = .exc x M := rfl

mutual
def asgP : Pt → D → Env → Option Env
  | .nm i, d, δ => some (δ.set i (some d))
  | .tup ps, d, δ => match d with | .tup ds => asgPs ps ds δ | .key k => asgPs ps (k.map D.int) δ | _ => none
def asgPs : Pts → List D → Env → Option Env
  | .nil, [], δ => some δ
  | .cons p ps, d :: ds, δ => (asgP p d δ).bind fun δ' => asgPs ps ds δ'
  | _, _, _ => none
end
def wipeD (δ : Env) : List Nat → Env
  | [] => δ
  | v :: vs => (wipeD δ vs).set v none
/-- what a walk of a value gives -/
def keysD : D → Option (List D)
  | .dct l => some (l.map fun p => .key p.1)
  | _ => none
def small62 (i : Int) : Bool := decide (-(2 ^ 62) ≤ i) && decide (i < 2 ^ 62)
def rngL (lo : Int) (n : Nat) : List D := (List.range n).map fun (i : Nat) => D.int (lo + (i : Int))
def rng2L (lo hi : D) : Option (List D) := match lo, hi with
  | .int a, .int b => if small62 a && small62 b then some (rngL a (b - a).toNat) else none
  | _, _ => none
def enumL (l : List D) : List D := (List.range l.length).zipWith (fun (i : Nat) (d : D) => D.tup [.int (i : Int), d]) l
def zipL (a b : List D) : List D := a.zipWith (fun x y => D.tup [x, y]) b
def seqs : D → Option (List D)
  | .tup l => some l
  | .lst l => some l
  | _ => none
def zip2 (a b : D) : Option (List D) := match a, b with
  | .tup xs, .tup ys => some (zipL xs ys)
  | .lst xs, .lst ys => some (zipL xs ys)
  | _, _ => none
/-- a comprehension's loop: f makes of an item one item, or none -/
def lcGo (f : D → Mem → Rs (List D)) : List D → Mem → Rs (List D)
  | [], M => .ok [] M
  | d :: ds, M => (f d M).noexc.bind fun y M1 => (lcGo f ds M1).bind fun ys M2 => .ok (y ++ ys) M2
def pureD : D → Bool
  | .lst _ => false
  | .dct _ => false
  | _ => true
/-- a fresh value to a cell -/
def mkD (d : D) (M : Mem) : Rs D := match d with
  | .lst l => .ok (.loc M.length) (M ++ [.lst l])
  | .dct l => .ok (.loc M.length) (M ++ [.dct l])
  | _ => .stuck
/-- a cell to a value -/
def frzD (d : D) (M : Mem) : Rs D := match d with
  | .loc n => match M[n]? with
    | some (.lst l) => .ok (.lst l) (M.set n .dead)
    | some (.dct l) => .ok (.dct l) (M.set n .dead)
    | _ => .stuck
  | _ => .stuck
def isOf (M : Mem) (ty : Ty) : D → Option Bool
  | .non => some false
  | .bl _ => some (match ty with | .int => true | .bool => true | _ => false)
  | .int _ => some (match ty with | .int => true | _ => false)
  | .str _ => some (match ty with | .str => true | _ => false)
  | .tup _ => some (match ty with | .tuple => true | _ => false)
  | .lst _ => some (match ty with | .list => true | _ => false)
  | .dct _ => none
  | .loc n => match M[n]? with
    | some (.lst _) => some (match ty with | .list => true | _ => false)
    | _ => none
  | .scr _ => none
  | .fn _ => none
  | .key _ => none
def lenD (M : Mem) : D → Option Nat
  | .tup l => some l.length
  | .lst l => some l.length
  | .scr l => some l.length
  | .str x => if x.length ≤ lineN then some x.length else none
  | .loc n => match M[n]? with | some (.lst l) => some l.length | _ => none
  | _ => none
def minI : List Int → Option Int
  | [] => none
  | x :: r => some (r.foldl min x)
def keysOf : List D → Option (List (List Int × D))
  | [] => some []
  | .tup [.key k, v] :: r => (keysOf r).map ((k, v) :: ·)
  | _ => none
/-- the built-ins -/
def callB (M : Mem) (o : OB) (ds : List D) : Option D := match o, ds with
  | .len, [d] => (lenD M d).map fun n => .int (n : Int)
  | .all, [d] => (asL M d).bind fun l => (dBools l).map fun bs => .bl (bs.all id)
  | .any, [d] => (asL M d).bind fun l => (dBools l).map fun bs => .bl (bs.any id)
  | .tuple, [d] => (asLT M d).map D.tup
  | .list, [d] => (asLT M d).map D.lst
  | .sorted, [d] => (asLT M d).bind fun l => if l.length ≤ 1000 then (sortD l).map D.lst else none
  | .sset, [.tup l] => (dInts l).bind fun ns => if l.length ≤ 60 then some (.lst ((setS ns).map D.int)) else none
  | .min, [d] => (asL M d).bind fun l => (dInts l).bind fun ns => (minI ns).map D.int
  | .sum, [d] => (asL M d).bind fun l => (dInts l).map fun ns => .int ns.sum
  | .min2, [.int a, .int b] => some (.int (if b < a then b else a))
  | .max2, [.int a, .int b] => some (.int (if b > a then b else a))
  | .abs, [.int a] => some (.int (if a < 0 then -a else a))
  | .int, [.int a] => some (.int a)
  | .int, [.bl b] => some (.int (if b then 1 else 0))
  | .str, [.int a] => if a.natAbs.log2 < 1920 then some (.str (toString a)) else none
  | .str, [.str x] => some (.str x)
  | .dict, [.lst l] => if l.length ≤ 1000 then (keysOf l).map fun kvs => .dct (kvs.foldl (fun acc p => kPut p.1 p.2 acc) []) else none
  | _, _ => none
def firstAt (p : PyData → Bool) : List PyData → Nat → Option Nat
  | [], _ => none
  | x :: r, i => if p x then some i else firstAt p r (i + 1)
inductive MK where | tup | lst | str | dct
deriving DecidableEq
def mKind (M : Mem) : D → Option MK
  | .tup _ => some .tup
  | .lst _ => some .lst
  | .str _ => some .str
  | .dct _ => some .dct
  | .loc n => match M[n]? with | some (.lst _) => some .lst | some (.dct _) => some .dct | _ => none
  | _ => none
def mFit : OM → MK → Bool
  | .get, .dct => true
  | .index, .tup => true
  | .index, .lst => true
  | .count, .tup => true
  | .count, .lst => true
  | .join, .str => true
  | .split, .str => true
  | _, _ => false
def idxD (M : Mem) (k : MK) (d x : D) : Option Nat := match k with
  | .tup => match d with
    | .tup l => match pdM M (.tup l), pdM M x with | some (.tuple ps), some p => firstAt (fun z => PyData.eqv z p) ps 0 | _, _ => none
    | _ => none
  | .lst => match pdM M d, pdM M x with | some (.list ps), some p => firstAt (fun z => PyData.eqv z p) ps 0 | _, _ => none
  | _ => none
def cntD (M : Mem) (k : MK) (d x : D) : Option Nat := match k with
  | .tup => match d with
    | .tup l => match pdM M (.tup l), pdM M x with | some (.tuple ps), some p => some (ps.countP fun z => PyData.eqv z p) | _, _ => none
    | _ => none
  | .lst => match pdM M d, pdM M x with | some (.list ps), some p => some (ps.countP fun z => PyData.eqv z p) | _, _ => none
  | _ => none
def joinD (M : Mem) (d x : D) : Option D := match d with
  | .str a => (asLT M x).bind fun l => (dStrs l).bind fun ys => if (ys.map (·.length)).sum + ys.length * a.length ≤ lineN then some (.str (Txt.join a ys)) else none
  | _ => none
def splitD (d x : D) : Option D := match d, x with
  | .str a, .str b => if b.length ≠ 0 ∧ a.length + 2 ≤ lineN then some (.lst ((Txt.split a b).map D.str)) else none
  | _, _ => none
def getD2 (M : Mem) (d k x : D) : Option D := match k with
  | .key k => (asK M d).map fun kvs => (kGet k kvs).getD x
  | _ => none
def callM (k : MK) (M : Mem) (o : OM) (d : D) (ds : List D) : Option D := match o, ds with
  | .get, [q, x] => if k = .dct then getD2 M d q x else none
  | .index, [x] => (idxD M k d x).map fun n => .int (n : Int)
  | .count, [x] => (cntD M k d x).map fun n => .int (n : Int)
  | .join, [x] => if k = .str then joinD M d x else none
  | .split, [x] => if k = .str then splitD d x else none
  | _, _ => none
def getVar (δ : Env) (i : Nat) : Option D := (δ[i]?).join
/-! may the value leave a frame that came with n cells -/
mutual
def okB (n : Nat) : D → Bool
  | .tup l => okBs n l
  | .lst l => okBs n l
  | .dct l => okKs n l
  | .loc m => decide (m < n)
  | _ => true
def okBs (n : Nat) : List D → Bool
  | [] => true
  | d :: ds => okB n d && okBs n ds
def okKs (n : Nat) : List (List Int × D) → Bool
  | [] => true
  | p :: ps => okB n p.2 && okKs n ps
end
def okMO (n : Nat) : MO → Bool
  | .lst l => okBs n l
  | .dct l => okKs n l
  | .dead => true
def cutM (n : Nat) (M : Mem) : Option Mem := if M.length = n then some M else if n ≤ M.length ∧ (M.take n).all (okMO n) = true then some (M.take n) else none

variable (Φ : Nat → List D → Mem → Rs D)
mutual
def ev : T → Env → Mem → Rs D
  | .var i, δ, M => lift M (getVar δ i)
  | .con d, _, M => .ok d M
  | .frz i, δ, M => (lift M (getVar δ i)).bind frzD
  | .mk e, δ, M => (ev e δ M).bind mkD
  | .tup es, δ, M => (evs es δ M).bind fun ds M1 => if ds.length ≤ 1000 then .ok (.tup ds) M1 else .stuck
  | .key es, δ, M => (evs es δ M).bind fun ds M1 => if ds.length ≤ 1000 then lift M1 ((dInts ds).map D.key) else .stuck
  | .lst es, δ, M => (evs es δ M).bind fun ds M1 => if ds.length ≤ 1000 then .ok (.lst ds) M1 else .stuck
  | .op2 o a b, δ, M => (ev a δ M).bind fun x M1 => (ev b δ M1).bind fun y M2 => lift M2 (op2 M2 o x y)
  | .cmp o a b, δ, M => (ev a δ M).bind fun x M1 => (ev b δ M1).bind fun y M2 => liftB M2 (cmp2 M2 o x y)
  | .chn o o' a b c, δ, M => (ev a δ M).bind fun x M1 => (ev b δ M1).bind fun y M2 => match cmp2 M2 o x y with
    | some true => (ev c δ M2).bind fun z M3 => liftB M3 (cmp2 M3 o' y z)
    | some false => .ok (.bl false) M2
    | none => .stuck
  | .not a, δ, M => (ev a δ M).test fun b M1 => .ok (.bl (!b)) M1
  | .neg a, δ, M => (ev a δ M).bind fun d M1 => match d with | .int i => .ok (.int (-i)) M1 | _ => .stuck
  | .and a b, δ, M => (ev a δ M).test fun c M1 => if c = true then (ev b δ M1).test fun c M2 => .ok (.bl c) M2 else .ok (.bl false) M1
  | .or a b, δ, M => (ev a δ M).test fun c M1 => if c = true then .ok (.bl true) M1 else (ev b δ M1).test fun c M2 => .ok (.bl c) M2
  | .ite c a b, δ, M => (ev c δ M).test fun t M1 => if t = true then ev a δ M1 else ev b δ M1
  | .slc a lo hi, δ, M => (ev a δ M).bind fun x M1 => (evo lo δ M1).bind fun l M2 => (evo hi δ M2).bind fun h M3 => lift M3 (slc3 M3 x l h)
  | .rev a, δ, M => (ev a δ M).bind fun x M1 => match x with | .tup l => .ok (.tup l.reverse) M1 | _ => .stuck
  | .call f es, δ, M => (evs es δ M).bind fun ds M1 => Φ f ds M1
  | .call0 f, _, M => (Φ f [] M).noexc
  | .callv i es, δ, M => (evs es δ M).bind fun ds M1 => match getVar δ i with | some (.fn f) => Φ f ds M1 | _ => .stuck
  | .b o es, δ, M => (evs es δ M).bind fun ds M1 => lift M1 (callB M1 o ds)
  | .m o a es, δ, M => (ev a δ M).bind fun d M1 => match mKind M1 d with
    | none => .stuck
    | some k => if mFit o k = true then (evs es δ M1).bind fun ds M2 => lift M2 (callM k M2 o d ds) else .stuck
  | .isi a ty, δ, M => (ev a δ M).bind fun d M1 => liftB M1 (isOf M1 ty d)
  | .lc p it c e own, δ, M => (evi it δ M).bind fun ds M1 => if ds.length ≤ 100000 then (lcGo (fun d M2 => match asgP p d (wipeD δ own) with
      | none => .stuck
      | some δ' => (ev c δ' M2).test fun t M3 => if t = true then (ev e δ' M3).bind fun y M4 => .ok [y] M4 else .ok [] M3) ds M1).bind fun l M2 => .ok (.lst l) M2 else .stuck
  | .lc2 p it p1 it1 c1 e own own1, δ, M => (evi it δ M).bind fun ds M1 => if ds.length ≤ 1000 then (lcGo (fun d M2 => match asgP p d (wipeD δ own) with
      | none => .stuck
      | some δ' => (evi it1 δ' M2).bind fun ds1 M3 => if ds1.length ≤ 1000 then lcGo (fun d1 M4 => match asgP p1 d1 (wipeD δ' own1) with
        | none => .stuck
        | some δ2 => (ev c1 δ2 M4).test fun t M5 => if t = true then (ev e δ2 M5).bind fun y M6 => .ok [y] M6 else .ok [] M5) ds1 M3 else .stuck) ds M1).bind fun l M2 => .ok (.lst l) M2 else .stuck
def evs : Ts → Env → Mem → Rs (List D)
  | .nil, _, M => .ok [] M
  | .cons e es, δ, M => (ev e δ M).bind fun d M1 => (evs es δ M1).bind fun ds M2 => .ok (d :: ds) M2
def evo : To → Env → Mem → Rs (Option Int)
  | .no, _, M => .ok none M
  | .yes t, δ, M => (ev t δ M).bind fun d M1 => match d with | .int i => .ok (some i) M1 | _ => .stuck
def evi : I → Env → Mem → Rs (List D)
  | .seq e, δ, M => (ev e δ M).bind fun d M1 => lift M1 (seqs d)
  | .keys e, δ, M => (ev e δ M).bind fun d M1 => lift M1 (keysD d)
  | .rng a, δ, M => (ev a δ M).bind fun d M1 => lift M1 (rng2L (.int 0) d)
  | .rng2 a b, δ, M => (ev a δ M).bind fun d M1 => (ev b δ M1).bind fun d' M2 => lift M2 (rng2L d d')
  | .enum e, δ, M => (ev e δ M).bind fun d M1 => lift M1 ((seqs d).map enumL)
  | .zip a b, δ, M => (ev a δ M).bind fun d M1 => (ev b δ M1).bind fun d' M2 => lift M2 (zip2 d d')
end

inductive Rf where
  | nx (δ : Env) (M : Mem) | ret (d : D) (M : Mem) | ct (δ : Env) (M : Mem) | exc (x : Ex) (δ : Env) (M : Mem) | stuck
def Rf.next (r : Rf) (f : Env → Mem → Rf) : Rf := match r with
  | .nx δ M => f δ M
  | r => r
@[simp] theorem Rf.next_nx (δ : Env) (M : Mem) (f : Env → Mem → Rf) : (Rf.nx δ M).next f = f δ M := rfl
@[simp] theorem Rf.next_ret (d : D) (M : Mem) (f : Env → Mem → Rf) : (Rf.ret d M).next f = .ret d M := rfl
@[simp] theorem Rf.next_ct (δ : Env) (M : Mem) (f : Env → Mem → Rf) : (Rf.ct δ M).next f = .ct δ M := rfl
@[simp] theorem Rf.next_exc (x : Ex) (δ : Env) (M : Mem) (f : Env → Mem → Rf) : (Rf.exc x δ M).next f = .exc x δ M := rfl
def Rs.run (r : Rs D) (δ : Env) (f : D → Mem → Rf) : Rf := match r with
  | .ok d M => f d M
  | .exc x M => .exc x δ M
  | .stuck => .stuck
@[simp] theorem Rs.run_ok (d : D) (M : Mem) (δ : Env) (f : D → Mem → Rf) : (Rs.ok d M).run δ f = f d M := rfl
@[simp] theorem Rs.run_exc (x : Ex) (M : Mem) (δ : Env) (f : D → Mem → Rf) : (Rs.exc x M).run δ f = .exc x δ M := rfl
def Rs.runT (r : Rs D) (δ : Env) (f : Bool → Mem → Rf) : Rf := r.run δ fun d M => match d with | .bl b => f b M | _ => .stuck
@[simp] theorem Rs.runT_ok (b : Bool) (M : Mem) (δ : Env) (f : Bool → Mem → Rf) : (Rs.ok (.bl b) M).runT δ f = f b M := rfl
@[simp] theorem Rs.runT_exc (x : Ex) (M : Mem) (δ : Env) (f : Bool → Mem → Rf) : (Rs.exc x M).runT δ f = .exc x δ M := rfl
def liftE (δ : Option Env) (M : Mem) : Rf := match δ with
  | some δ => .nx δ M
  | none => .stuck
@[simp] theorem liftE_some (δ : Env) (M : Mem) : liftE (some δ) M = .nx δ M := rfl
/-- a store into a cell -/
def putD (M : Mem) (o i v : D) : Option Mem := match o with
  | .loc n => match M[n]?, i with
    | some (.lst l), .int i => (L2.ixN l.length i).map fun j => M.set n (.lst (l.set j v))
    | some (.dct l), .key k => if l.length < 100000 then some (M.set n (.dct (kPut k v l))) else none
    | _, _ => none
  | _ => none
def appD (M : Mem) (o v : D) : Option Mem := match o with
  | .loc n => match M[n]? with
    | some (.lst l) => if l.length < 100000 then some (M.set n (.lst (l ++ [v]))) else none
    | _ => none
  | _ => none
def isLst (M : Mem) : D → Bool
  | .loc n => match M[n]? with | some (.lst _) => true | _ => false
  | _ => false
def liftM (δ : Env) : Option Mem → Rf
  | some M => .nx δ M
  | none => .stuck
@[simp] theorem liftM_some (δ : Env) (M : Mem) : liftM δ (some M) = .nx δ M := rfl
def forGo (f : D → Env → Mem → Rf) : List D → Env → Mem → Rf
  | [], δ, M => .nx δ M
  | d :: ds, δ, M => match f d δ M with
    | .nx δ' M' => forGo f ds δ' M'
    | .ct δ' M' => forGo f ds δ' M'
    | r => r
def whlGo (c : Env → Mem → Rs D) (f : Env → Mem → Rf) : Nat → Env → Mem → Rf
  | 0, _, _ => .stuck
  | n + 1, δ, M => (c δ M).runT δ fun b M1 => if b = true then match f δ M1 with
      | .nx δ' M' => whlGo c f n δ' M'
      | .ct δ' M' => whlGo c f n δ' M'
      | r => r
    else .nx δ M1
/-- no error leaves -/
def noEx : Rf → Rf
  | .exc _ _ _ => .stuck
  | r => r
@[simp] theorem noEx_nx (δ : Env) (M : Mem) : noEx (.nx δ M) = .nx δ M := rfl
mutual
def ex : S → Env → Mem → Rf
  | .set i e, δ, M => (ev Φ e δ M).run δ fun d M1 => .nx (δ.set i (some d)) M1
  | .asg p e, δ, M => (ev Φ e δ M).run δ fun d M1 => liftE (asgP p d δ) M1
  | .par2 i j a b, δ, M => (ev Φ a δ M).run δ fun x M1 => (ev Φ b δ M1).run δ fun y M2 => .nx ((δ.set i (some x)).set j (some y)) M2
  | .par3 i j k a b c, δ, M => (ev Φ a δ M).run δ fun x M1 => (ev Φ b δ M1).run δ fun y M2 => (ev Φ c δ M2).run δ fun z M3 => .nx (((δ.set i (some x)).set j (some y)).set k (some z)) M3
  | .put o i v, δ, M => (ev Φ v δ M).run δ fun y M1 => (ev Φ o δ M1).run δ fun x M2 => (ev Φ i δ M2).run δ fun z M3 => liftM δ (putD M3 x z y)
  | .app o e, δ, M => (ev Φ o δ M).run δ fun x M1 => if isLst M1 x = true then (ev Φ e δ M1).run δ fun y M2 => liftM δ (appD M2 x y) else .stuck
  | .expr e, δ, M => (ev Φ e δ M).run δ fun _ M1 => .nx δ M1
  | .ret e, δ, M => (ev Φ e δ M).run δ fun d M1 => .ret d M1
  | .ite c a b, δ, M => (ev Φ c δ M).runT δ fun t M1 => if t = true then exs a δ M1 else exs b δ M1
  | .for_ p it body, δ, M => match evi Φ it δ M with
    | .ok ds M1 => forGo (fun d δ M => match asgP p d δ with | some δ' => exs body δ' M | none => .stuck) ds δ M1
    | .exc x M1 => .exc x δ M1
    | .stuck => .stuck
  | .forK p i body, δ, M => match getVar δ i with
    | some (.dct l) => noEx (forGo (fun d δ M => match asgP p d δ with | some δ' => exs body δ' M | none => .stuck) (l.map fun q => D.key q.1) δ M)
    | _ => .stuck
  | .whl c body, δ, M => whlGo (fun δ M => ev Φ c δ M) (fun δ M => exs body δ M) 100 δ M
  | .raise c, δ, M => .exc ⟨c, none⟩ δ M
  | .try_ body c suite, δ, M => match exs body δ M with
    | .exc x δ' M' => if x.cls = c then exs suite δ' M' else .exc x δ' M'
    | r => r
  | .cont, δ, M => .ct δ M
def exs : Ss → Env → Mem → Rf
  | .nil, δ, M => .nx δ M
  | .cons s ss, δ, M => (ex s δ M).next fun δ' M' => exs ss δ' M'
end

structure Fd where
  npar : Nat
  nsl : Nat
  body : Ss
/-- what a call gives back: its own cells are gone; a list cell of its own goes out as the one new cell -/
def finD (n : Nat) (d : D) (M : Mem) : Rs D :=
  if M.length = n then .ok d M
  else if n ≤ M.length ∧ (M.take n).all (okMO n) = true then
    match d with
    | .loc j => if j < n then .ok d (M.take n) else match M[j]? with
      | some (.lst l) => if okBs n l = true then .ok (.loc n) (M.take n ++ [.lst l]) else .stuck
      | _ => .stuck
    | d => if okB n d = true then .ok d (M.take n) else .stuck
  else .stuck
def fin (n : Nat) : Rf → Rs D
  | .nx _ M => finD n .non M
  | .ret d M => finD n d M
  | .exc x _ M => match cutM n M with | some M' => .exc x M' | none => .stuck
  | _ => .stuck
def callF (tb : List Fd) : Nat → Nat → List D → Mem → Rs D
  | 0, _, _, _ => .stuck
  | k + 1, f, args, M => match tb[f]? with
    | none => .stuck
    | some fd => if args.length = fd.npar then fin M.length (exs (callF tb k) fd.body (args.map some ++ List.replicate (fd.nsl - fd.npar) none) M) else .stuck
end CB
end
section
/-! CB3: how data lie in the abstract heap; readings by the interpreter. -/
namespace CB
open PySem PySem.Spec L2

/-- the state of the world: the cells' addresses, what never changes, what is guarded -/
structure Wd where
  ρ : List Addr
  Z : Addr → Prop
  pr : Addr → Prop
/-- static: where the defs stand, which class an error's number means -/
structure Sx where
  fa : Nat → Addr → Prop
  xc : Ex → Value → Option Addr → Hp → Prop
def KTup (K : PySem.W.Frag) (a : Addr) (xs : List V) : Prop :=
  ∃ (o : Obj) (its : Array Value) (n : Nat), K.lookup a = some o ∧ o.cls = .type "tuple" ∧ o.dict = none ∧ o.data = .seq its n ∧ its.size ≤ sizeLine ∧ Vals xs its.toList

def keyV (k : List Int) : List Key := k.map Sum.inl
section
variable (K : PySem.W.Frag) (S : Sx) (w : Wd) (H : Hp)
mutual
inductive Rep : V → D → Prop
  | non : Rep .non .non
  | bl (b : Bool) : Rep (.bl b) (.bl b)
  | int (i : Int) : Rep (.int i) (.int i)
  | str (x : Str) : Rep (.str x) (.str x)
  | tup {a : Addr} {o : Obj} {xs : List V} {ds : List D} (z : w.Z a) (h : H a = some (.frz o (.tup xs))) (n : o.dict = none) (r : RepL xs ds) : Rep (.ref a) (.tup ds)
  | ktup {a : Addr} {xs : List V} {ds : List D} (h : KTup K a xs) (r : RepL xs ds) : Rep (.ref a) (.tup ds)
  | lst {a : Addr} {xs : List V} {ds : List D} (z : w.Z a) (h : H a = some (.lst xs)) (r : RepL xs ds) : Rep (.ref a) (.lst ds)
  | dct {a : Addr} {ks : List (List Key × V)} {kvs : List (List Int × D)} (z : w.Z a) (h : Rd H a (.dT ks)) (r : RepK ks kvs) : Rep (.ref a) (.dct kvs)
  | scr {a : Addr} {ns : List Int} (z : w.Z a) (h : Rd H a (.lst (ns.map V.int))) : Rep (.ref a) (.scr ns)
  | kscr {a : Addr} {ns : List Int} (h : ∀ H' : Hp, SqL K H' a (ns.map V.int)) : Rep (.ref a) (.scr ns)
  | loc {a : Addr} {n : Nat} (h : w.ρ[n]? = some a) : Rep (.ref a) (.loc n)
  | fn {a : Addr} {f : Nat} (h : S.fa f a) : Rep (.ref a) (.fn f)
  | key {a : Addr} {k : List Int} (z : w.Z a) (h : H a = some (.tup (k.map V.int))) : Rep (.ref a) (.key k)
inductive RepL : List V → List D → Prop
  | nil : RepL [] []
  | cons {v : V} {d : D} {vs : List V} {ds : List D} (h : Rep v d) (r : RepL vs ds) : RepL (v :: vs) (d :: ds)
inductive RepK : List (List Key × V) → List (List Int × D) → Prop
  | nil : RepK [] []
  | cons {k : List Int} {v : V} {d : D} {vs : List (List Key × V)} {ds : List (List Int × D)} (h : Rep v d) (r : RepK vs ds) : RepK ((keyV k, v) :: vs) ((k, d) :: ds)
end
inductive MRep : Addr → MO → Prop
  | lst {a : Addr} {xs : List V} {ds : List D} (h : H a = some (.lst xs)) (r : RepL K S w H xs ds) : MRep a (.lst ds)
  | dct {a : Addr} {ks : List (List Key × V)} {kvs : List (List Int × D)} (h : H a = some (.dT ks)) (r : RepK K S w H ks kvs) : MRep a (.dct kvs)
  | dead {a : Addr} : MRep a .dead
end
def MO.live : MO → Prop
  | .dead => False
  | _ => True
structure RelM (K : PySem.W.Frag) (S : Sx) (w : Wd) (H : Hp) (M : Mem) : Prop where
  len : w.ρ.length = M.length
  obj : ∀ (i : Nat) (o : MO) (a : Addr), M[i]? = some o → w.ρ[i]? = some a → MRep K S w H a o
  inj : ∀ (i j : Nat) (o u : MO) (a : Addr), M[i]? = some o → M[j]? = some u → o.live → u.live → w.ρ[i]? = some a → w.ρ[j]? = some a → i = j
  sep : ∀ (i : Nat) (o : MO) (a : Addr), M[i]? = some o → o.live → w.ρ[i]? = some a → ¬ w.Z a ∧ ¬ w.pr a
  zed : ∀ a, w.Z a ∨ w.pr a → H a ≠ none
  zp : ∀ a, w.Z a → ¬ w.pr a
  prl : ∀ a, w.pr a → ∀ xs, H a ≠ some (.tup xs)
structure Evo (w : Wd) (H : Hp) (w' : Wd) (H' : Hp) : Prop where
  ρ : ∀ (i : Nat) (a : Addr), w.ρ[i]? = some a → w'.ρ[i]? = some a
  Z : ∀ a, w.Z a → w'.Z a
  H : ∀ a, w.Z a ∨ w.pr a → H' a = H a
  pr : w'.pr = w.pr
theorem Evo.refl (w : Wd) (H : Hp) : Evo w H w H := ⟨fun _ _ h => h, fun _ h => h, fun _ _ => rfl, rfl⟩
theorem Evo.trans {w w1 w2 : Wd} {H H1 H2 : Hp} (a : Evo w H w1 H1) (b : Evo w1 H1 w2 H2) : Evo w H w2 H2 :=
  ⟨fun i x h => b.ρ i x (a.ρ i x h), fun x h => b.Z x (a.Z x h), fun x h => (b.H x (h.elim (fun z => .inl (a.Z x z)) fun z => .inr (by rw [a.pr]; exact z))).trans (a.H x h), b.pr.trans a.pr⟩
section
variable {K : PySem.W.Frag} {S : Sx} {w w' : Wd} {H H' : Hp}
theorem Rd.of_eq {a : Addr} {u : HO} (h : Rd H a u) (e : H' a = H a) : Rd H' a u := by
  unfold Rd at h ⊢
  rw [e]; exact h
mutual
theorem Rep.mono (e : Evo w H w' H') : ∀ {v : V} {d : D}, Rep K S w H v d → Rep K S w' H' v d
  | _, _, .non => .non
  | _, _, .bl b => .bl b
  | _, _, .int i => .int i
  | _, _, .str x => .str x
  | _, _, .tup z h n r => .tup (e.Z _ z) ((e.H _ (.inl z)).trans h) n (RepL.mono e r)
  | _, _, .key z h => .key (e.Z _ z) ((e.H _ (.inl z)).trans h)
  | _, _, .ktup h r => .ktup h (RepL.mono e r)
  | _, _, .lst z h r => .lst (e.Z _ z) ((e.H _ (.inl z)).trans h) (RepL.mono e r)
  | _, _, .dct z h r => .dct (e.Z _ z) (Rd.of_eq h (e.H _ (.inl z))) (RepK.mono e r)
  | _, _, .scr z h => .scr (e.Z _ z) (Rd.of_eq h (e.H _ (.inl z)))
  | _, _, .kscr h => .kscr h
  | _, _, .loc h => .loc (e.ρ _ _ h)
  | _, _, .fn h => .fn h
theorem RepL.mono (e : Evo w H w' H') : ∀ {v : List V} {d : List D}, RepL K S w H v d → RepL K S w' H' v d
  | _, _, .nil => .nil
  | _, _, .cons h r => .cons (Rep.mono e h) (RepL.mono e r)
theorem RepK.mono (e : Evo w H w' H') : ∀ {v : List (List Key × V)} {d : List (List Int × D)}, RepK K S w H v d → RepK K S w' H' v d
  | _, _, .nil => .nil
  | _, _, .cons h r => .cons (Rep.mono e h) (RepK.mono e r)
end
theorem RepL.length : ∀ {vs : List V} {ds : List D}, RepL K S w H vs ds → vs.length = ds.length
  | _, _, .nil => rfl
  | _, _, .cons _ r => congrArg (· + 1) (RepL.length r)
theorem RepL.append : ∀ {vs us : List V} {ds es : List D}, RepL K S w H vs ds → RepL K S w H us es → RepL K S w H (vs ++ us) (ds ++ es)
  | _, _, _, _, .nil, h => h
  | _, _, _, _, .cons h r, t => .cons h (RepL.append r t)
theorem RepL.get : ∀ {vs : List V} {ds : List D} {i : Nat} {d : D}, RepL K S w H vs ds → ds[i]? = some d → ∃ v, vs[i]? = some v ∧ Rep K S w H v d
  | _, _, _, _, .nil, h => by simp at h
  | _, _, 0, _, .cons h r, e => by simp at e; subst e; exact ⟨_, rfl, h⟩
  | _, _, i + 1, _, .cons _ r, e => by
    obtain ⟨v, h1, h2⟩ := RepL.get (i := i) r (by simpa using e)
    exact ⟨v, by simpa using h1, h2⟩
theorem RepL.getV : ∀ {vs : List V} {ds : List D} {i : Nat} {v : V}, RepL K S w H vs ds → vs[i]? = some v → ∃ d, ds[i]? = some d ∧ Rep K S w H v d
  | _, _, _, _, .nil, h => by simp at h
  | _, _, 0, _, .cons h r, e => by simp at e; subst e; exact ⟨_, rfl, h⟩
  | _, _, i + 1, _, .cons _ r, e => by
    obtain ⟨v, h1, h2⟩ := RepL.getV (i := i) r (by simpa using e)
    exact ⟨v, by simpa using h1, h2⟩
theorem RepL.take : ∀ {vs : List V} {ds : List D} (n : Nat), RepL K S w H vs ds → RepL K S w H (vs.take n) (ds.take n)
  | _, _, 0, _ => .nil
  | _, _, _ + 1, .nil => .nil
  | _, _, n + 1, .cons h r => .cons h (RepL.take n r)
theorem RepL.drop : ∀ {vs : List V} {ds : List D} (n : Nat), RepL K S w H vs ds → RepL K S w H (vs.drop n) (ds.drop n)
  | _, _, 0, r => r
  | _, _, _ + 1, .nil => .nil
  | _, _, n + 1, .cons h r => RepL.drop n r
theorem RepL.reverse : ∀ {vs : List V} {ds : List D}, RepL K S w H vs ds → RepL K S w H vs.reverse ds.reverse
  | _, _, .nil => .nil
  | _, _, .cons h r => by
    rw [List.reverse_cons, List.reverse_cons]
    exact RepL.append (RepL.reverse r) (.cons h .nil)
theorem RepL.set : ∀ {vs : List V} {ds : List D} {v : V} {d : D} (n : Nat), RepL K S w H vs ds → Rep K S w H v d → RepL K S w H (vs.set n v) (ds.set n d)
  | _, _, _, _, _, .nil, _ => .nil
  | _, _, _, _, 0, .cons h r, q => .cons q r
  | _, _, _, _, n + 1, .cons h r, q => .cons h (RepL.set n r q)
theorem RepL.rep {vs : List V} {ds : List D} (r : RepL K S w H vs ds) : ∀ n : Nat, RepL K S w H (List.replicate n vs).flatten (List.replicate n ds).flatten
  | 0 => .nil
  | n + 1 => by
    rw [List.replicate_succ, List.replicate_succ, List.flatten_cons, List.flatten_cons]
    exact RepL.append r (RepL.rep r n)
theorem RepK.length : ∀ {vs : List (List Key × V)} {ds : List (List Int × D)}, RepK K S w H vs ds → vs.length = ds.length
  | _, _, .nil => rfl
  | _, _, .cons _ r => congrArg (· + 1) (RepK.length r)

/-- slots -/
structure RelE (K : PySem.W.Frag) (S : Sx) (w : Wd) (H : Hp) (σ : St) (δ : Env) : Prop where
  len : σ.length = δ.length
  get : ∀ (i : Nat) (d : D), δ[i]? = some (some d) → ∃ v, σ[i]? = some (some v) ∧ Rep K S w H v d
theorem RelE.mono {σ : St} {δ : Env} (r : RelE K S w H σ δ) (e : Evo w H w' H') : RelE K S w' H' σ δ :=
  ⟨r.len, fun i d h => let ⟨v, h1, h2⟩ := r.get i d h; ⟨v, h1, h2.mono e⟩⟩
theorem RelE.set {σ : St} {δ : Env} {v : V} {d : D} (r : RelE K S w H σ δ) (i : Nat) (h : Rep K S w H v d) : RelE K S w H (σ.set i (some v)) (δ.set i (some d)) :=
  ⟨by simp [r.len], fun j u e => by
    by_cases hj : i = j
    · subst hj
      by_cases hi : i < δ.length
      · rw [List.getElem?_set_self hi] at e
        cases e
        exact ⟨v, by rw [List.getElem?_set_self (by rw [r.len]; exact hi)], h⟩
      · rw [List.getElem?_eq_none (by simpa using hi)] at e; cases e
    · rw [List.getElem?_set_ne hj] at e
      rw [List.getElem?_set_ne hj]
      exact r.get j u e⟩
theorem RelE.wipe {σ : St} {δ : Env} (r : RelE K S w H σ δ) : ∀ own : List Nat, RelE K S w H (wipe σ own) (wipeD δ own)
  | [] => r
  | v :: vs => by
    have ih := RelE.wipe r vs
    refine ⟨by unfold L2.wipe wipeD; simp [ih.len], fun j u e => ?_⟩
    unfold wipeD at e
    unfold L2.wipe
    by_cases hj : v = j
    · subst hj
      by_cases hi : v < (wipeD δ vs).length
      · rw [List.getElem?_set_self hi] at e; cases e
      · rw [List.getElem?_eq_none (by simpa using hi)] at e; cases e
    · rw [List.getElem?_set_ne hj] at e ⊢
      exact ih.get j u e
end

/-! ### what stands behind a piece -/
section
variable {α β γ ε : Type}
def Post (K : PySem.W.Frag) (S : Sx) (W : WX) (σ : St) (R : Wd → Hp → β → α → Prop) (w : Wd) (H : Hp) (Q : β → Hp → Prop) : Rs α → Prop
  | .ok a M' => ∀ w' H' b, Evo w H w' H' → RelM K S w' H' M' → R w' H' b a → Q b H'
  | .exc x M' => ∀ w' H' cls dd, Evo w H w' H' → RelM K S w' H' M' → S.xc x cls dd H' → W cls dd σ H'
  | .stuck => False
variable {K : PySem.W.Frag} {S : Sx} {W : WX} {σ : St} {w w1 : Wd} {H H1 : Hp} {R : Wd → Hp → β → α → Prop} {R2 : Wd → Hp → ε → γ → Prop} {Q Q' : β → Hp → Prop} {Q2 : ε → Hp → Prop}
theorem Post.shift {r : Rs α} (h : Post K S W σ R w H Q r) (e : Evo w H w1 H1) : Post K S W σ R w1 H1 Q r := by
  cases r with
  | ok a M => exact fun w' H' b e' m r => h w' H' b (e.trans e') m r
  | exc x M => exact fun w' H' c d e' m r => h w' H' c d (e.trans e') m r
  | stuck => exact h
theorem Post.mono {r : Rs α} (h : Post K S W σ R w H Q r) (q : ∀ b H', Q b H' → Q' b H') : Post K S W σ R w H Q' r := by
  cases r with
  | ok a M => exact fun w' H' b e' m r => q _ _ (h w' H' b e' m r)
  | exc x M => exact h
  | stuck => exact h
theorem Post.step {r : Rs α} {g : α → Mem → Rs γ} (h : Post K S W σ R2 w H Q2 (r.bind g)) :
    Post K S W σ R w H (fun b H1 => ∃ w1 M1 a, Evo w H w1 H1 ∧ RelM K S w1 H1 M1 ∧ R w1 H1 b a ∧ Post K S W σ R2 w1 H1 Q2 (g a M1)) r := by
  cases r with
  | ok a M => exact fun w' H' b e m r => ⟨w', M, a, e, m, r, Post.shift h e⟩
  | exc x M => exact h
  | stuck => exact h
/-- there is an answer now -/
theorem Post.done {a : α} {M : Mem} {b : β} (h : Post K S W σ R w H Q (.ok a M)) (m : RelM K S w H M) (r : R w H b a) : Q b H := h w H b (Evo.refl _ _) m r
theorem Post.donee {a : α} {M : Mem} {b : β} (h : Post K S W σ R w H Q (.ok a M)) (e : Evo w H w1 H1) (m : RelM K S w1 H1 M) (r : R w1 H1 b a) : Q b H1 := h w1 H1 b e m r
end

/-- an expression's reading by the interpreter -/
def RD (K : PySem.W.Frag) (S : Sx) (W : WX) (f : Env → Mem → Rs D) : TE := fun σ H Q => ∃ w δ M, RelM K S w H M ∧ RelE K S w H σ δ ∧ Post K S W σ (Rep K S) w H Q (f δ M)
def BRep : Wd → Hp → Bool → D → Prop := fun _ _ b d => d = .bl b
/-- a test's -/
def RT (K : PySem.W.Frag) (S : Sx) (W : WX) (f : Env → Mem → Rs D) : TT := fun σ H Q => ∃ w δ M, RelM K S w H M ∧ RelE K S w H σ δ ∧ Post K S W σ (fun _ _ (b : Bool) (c : Bool) => b = c) w H Q ((f δ M).test fun b M => .ok b M)
def RA (K : PySem.W.Frag) (S : Sx) (W : WX) (f : Env → Mem → Rs (List D)) : TA := fun σ H Q => ∃ w δ M, RelM K S w H M ∧ RelE K S w H σ δ ∧ Post K S W σ (RepL K S) w H Q (f δ M)

/-! ### a new object -/
def Wd.add (w : Wd) (p : Addr) : Wd := { w with Z := fun a => w.Z a ∨ a = p }
section
variable {K : PySem.W.Frag} {S : Sx} {w w' : Wd} {H H' : Hp} {M : Mem} {p : Addr} {o : HO}
theorem MRep.mono {a : Addr} {u : MO} (h : MRep K S w H a u) (e : Evo w H w' H') (q : u.live → H' a = H a) : MRep K S w' H' a u := by
  cases h with
  | lst h r => exact .lst ((q True.intro).trans h) (r.mono e)
  | dct h r => exact .dct ((q True.intro).trans h) (r.mono e)
  | dead => exact .dead
theorem MRep.some {a : Addr} {u : MO} (h : MRep K S w H a u) (l : u.live) : H a ≠ none := by
  cases h with
  | lst h r => rw [h]; simp
  | dct h r => rw [h]; simp
  | dead => exact l.elim
/-- the world goes on, the cells stay -/
theorem RelM.evo (m : RelM K S w H M) (e : Evo w H w' H') (hl : w'.ρ = w.ρ) (hc : ∀ (i : Nat) (o : MO) (a : Addr), M[i]? = some o → o.live → w.ρ[i]? = some a → H' a = H a ∧ ¬ w'.Z a) (hz : ∀ a, w'.Z a ∨ w'.pr a → H' a ≠ none) (hzp : ∀ a, w'.Z a → ¬ w'.pr a) : RelM K S w' H' M := by
  refine ⟨by rw [hl]; exact m.len, fun i o a h1 h2 => ?_, fun i j o u a h1 h2 l1 l2 h3 h4 => ?_, fun i o a h1 l h2 => ?_, hz, hzp, ?_⟩
  · rw [hl] at h2
    exact (m.obj i o a h1 h2).mono e fun l => (hc i o a h1 l h2).1
  · rw [hl] at h3 h4
    exact m.inj i j o u a h1 h2 l1 l2 h3 h4
  · rw [hl] at h2
    refine ⟨(hc i o a h1 l h2).2, ?_⟩
    rw [e.pr]
    exact (m.sep i o a h1 l h2).2
  · intro a q xs
    rw [e.pr] at q
    rw [e.H a (.inr q)]
    exact m.prl a q xs
theorem new_evo (m : RelM K S w H M) (hp : H p = none) : Evo w H (w.add p) (upd H p o) :=
  ⟨fun _ _ h => h, fun _ h => .inl h, fun a z => upd_ne fun e => m.zed a z (by rw [e]; exact hp), rfl⟩
theorem new_rel (m : RelM K S w H M) (hp : H p = none) : RelM K S (w.add p) (upd H p o) M := by
  refine m.evo (new_evo m hp) rfl (fun i o' a h1 l h2 => ?_) (fun a z => ?_) fun a z q => ?_
  · have hn : a ≠ p := fun e => (m.obj i o' a h1 h2).some l (by rw [e]; exact hp)
    exact ⟨upd_ne hn, fun z => z.elim (m.sep i o' a h1 l h2).1 hn⟩
  · by_cases e : a = p
    · rw [e, upd_same]; simp
    · rw [upd_ne e]
      rcases z with (z | z) | z
      · exact m.zed a (.inl z)
      · exact absurd z e
      · exact m.zed a (.inr z)
  · rcases z with z | z
    · exact m.zp a z q
    · subst z
      exact m.zed a (.inr q) hp
theorem new_z : (w.add p).Z p := .inr rfl
/-- a new object that nobody's words speak of yet: the world as it was -/
theorem new_evo0 (m : RelM K S w H M) (hp : H p = none) : Evo w H w (upd H p o) :=
  ⟨fun _ _ h => h, fun _ h => h, fun a z => upd_ne fun e => m.zed a z (by rw [e]; exact hp), rfl⟩
theorem new_rel0 (m : RelM K S w H M) (hp : H p = none) : RelM K S w (upd H p o) M := by
  refine m.evo (new_evo0 m hp) rfl (fun i o' a h1 l h2 => ?_) (fun a z => ?_) m.zp
  · have hn : a ≠ p := fun e => (m.obj i o' a h1 h2).some l (by rw [e]; exact hp)
    exact ⟨upd_ne hn, (m.sep i o' a h1 l h2).1⟩
  · by_cases e : a = p
    · rw [e, upd_same]; simp
    · rw [upd_ne e]; exact m.zed a z
end
end CB
end
section
/-! CB4: operations by values. -/
namespace CB
open PySem PySem.Spec L2
open PyProof.Rows hiding St
section
variable {K : PySem.W.Frag} {S : Sx} {w : Wd} {H : Hp} {M : Mem} {v : V}
theorem Rep.int_inv {i : Int} (r : Rep K S w H v (.int i)) : v = .int i := by cases r; rfl
theorem Rep.bl_inv {i : Bool} (r : Rep K S w H v (.bl i)) : v = .bl i := by cases r; rfl
theorem Rep.str_inv {i : Str} (r : Rep K S w H v (.str i)) : v = .str i := by cases r; rfl
theorem Rep.non_inv (r : Rep K S w H v .non) : v = .non := by cases r; rfl
theorem KTup.sq {a : Addr} {xs : List V} (h : KTup K a xs) : SqT K H a xs := by
  obtain ⟨o, its, n, h1, h2, _, h3, h4, h5⟩ := h
  exact .inr ⟨o, its, n, h1, h2, h3, h4, h5⟩
theorem Rep.tup_inv {ds : List D} (r : Rep K S w H v (.tup ds)) : ∃ a xs, v = .ref a ∧ SqT K H a xs ∧ RepL K S w H xs ds := by
  cases r with
  | tup z h n r => exact ⟨_, _, rfl, .inl (.inr ⟨_, h⟩), r⟩
  | ktup h r => exact ⟨_, _, rfl, h.sq, r⟩
theorem Rep.lst_inv {ds : List D} (r : Rep K S w H v (.lst ds)) : ∃ a xs, v = .ref a ∧ H a = some (.lst xs) ∧ RepL K S w H xs ds := by
  cases r with
  | lst z h r => exact ⟨_, _, rfl, h, r⟩
theorem RelM.loc (m : RelM K S w H M) {n : Nat} {o : MO} (h : M[n]? = some o) (r : Rep K S w H v (.loc n)) : ∃ a, v = .ref a ∧ w.ρ[n]? = some a ∧ MRep K S w H a o := by
  cases r with
  | loc e => exact ⟨_, rfl, e, m.obj n o _ h e⟩
theorem Rep.asL {d : D} {l : List D} (m : RelM K S w H M) (e : asL M d = some l) (r : Rep K S w H v d) : ∃ a xs, v = .ref a ∧ H a = some (.lst xs) ∧ RepL K S w H xs l := by
  unfold CB.asL at e
  split at e
  · cases e; exact r.lst_inv
  · rename_i n
    split at e
    · rename_i l' hM
      cases e
      obtain ⟨a, rfl, h1, h2⟩ := m.loc hM r
      cases h2 with
      | lst h r => exact ⟨a, _, rfl, h, r⟩
    · cases e
  · cases e
theorem Rep.asLT {d : D} {l : List D} (m : RelM K S w H M) (e : asLT M d = some l) (r : Rep K S w H v d) :
    ∃ a xs, v = .ref a ∧ (H a = some (.lst xs) ∨ SqT K H a xs) ∧ RepL K S w H xs l := by
  unfold CB.asLT at e
  split at e
  · cases e
    obtain ⟨a, xs, h1, h2, h3⟩ := r.lst_inv
    exact ⟨a, xs, h1, .inl h2, h3⟩
  · cases e
    obtain ⟨a, xs, h1, h2, h3⟩ := r.tup_inv
    exact ⟨a, xs, h1, .inr h2, h3⟩
  · rename_i n
    split at e
    · rename_i l' hM
      cases e
      obtain ⟨a, rfl, h1, h2⟩ := m.loc hM r
      cases h2 with
      | lst h r => exact ⟨a, _, rfl, .inl h, r⟩
    · cases e
  · cases e
theorem Rep.asK {d : D} {l : List (List Int × D)} (m : RelM K S w H M) (e : asK M d = some l) (r : Rep K S w H v d) : ∃ a ks, v = .ref a ∧ Rd H a (.dT ks) ∧ RepK K S w H ks l := by
  unfold CB.asK at e
  split at e
  · cases e
    cases r with
    | dct z h r => exact ⟨_, _, rfl, h, r⟩
  · rename_i n
    split at e
    · rename_i l' hM
      cases e
      obtain ⟨a, rfl, h1, h2⟩ := m.loc hM r
      cases h2 with
      | dct h r => exact ⟨a, _, rfl, .inl h, r⟩
    · cases e
  · cases e
theorem RelM.line : lineN = sizeLine := by rw [sizeLine_eq]; rfl

/-- an answer: the data, and what follows wherever it lies -/
def Ans (K : PySem.W.Frag) (S : Sx) (w : Wd) (H : Hp) (Q : VK) (M : Mem) (r : Option D) : Prop := ∃ d, r = some d ∧ ∀ w' H' v, Evo w H w' H' → RelM K S w' H' M → Rep K S w' H' v d → Q v H'
theorem ans_of {σ : St} {W : WX} {Q : VK} {r : Option D} (h : Post K S W σ (Rep K S) w H Q (lift M r)) : Ans K S w H Q M r := by
  cases r with
  | none => exact h.elim
  | some d => exact ⟨d, rfl, h⟩
theorem ansB_of {σ : St} {W : WX} {Q : VK} {r : Option Bool} (h : Post K S W σ (Rep K S) w H Q (liftB M r)) : Ans K S w H Q M (r.map D.bl) := by
  cases r with
  | none => exact h.elim
  | some d => exact ⟨.bl d, rfl, h⟩
variable {Q : VK} {d : D}
abbrev Fol (K : PySem.W.Frag) (S : Sx) (w : Wd) (H : Hp) (Q : VK) (M : Mem) (d : D) : Prop := ∀ w' H' v, Evo w H w' H' → RelM K S w' H' M → Rep K S w' H' v d → Q v H'
theorem Fol.here (k : Fol K S w H Q M d) (m : RelM K S w H M) (r : Rep K S w H v d) : Q v H := k w H v (Evo.refl _ _) m r
theorem Fol.tup {ds : List D} {xs : List V} (k : Fol K S w H Q M (.tup ds)) (m : RelM K S w H M) (r : RepL K S w H xs ds) {p : Addr} {o : Obj} (hp : H p = none) (ho : o.dict = none) : Q (.ref p) (upd H p (.frz o (.tup xs))) :=
  k _ _ _ (new_evo m hp) (new_rel m hp) (.tup new_z upd_same ho (r.mono (new_evo m hp)))
theorem Fol.lst {ds : List D} {xs : List V} (k : Fol K S w H Q M (.lst ds)) (m : RelM K S w H M) (r : RepL K S w H xs ds) {p : Addr} (hp : H p = none) : Q (.ref p) (upd H p (.lst xs)) :=
  k _ _ _ (new_evo m hp) (new_rel m hp) (.lst new_z upd_same (r.mono (new_evo m hp)))
theorem Fol.key {ks : List Int} (k : Fol K S w H Q M (.key ks)) (m : RelM K S w H M) {p : Addr} (hp : H p = none) : Q (.ref p) (upd H p (.tup (ks.map V.int))) :=
  k _ _ _ (new_evo m hp) (new_rel m hp) (.key new_z upd_same)
end

/-! ### tuples that are known to the object -/
abbrev tupO (its : List Value) : Obj := { cls := .type "tuple", data := .seq its.toArray }
section
variable {X : Cx} {pins : List (Addr × Obj)} {σ : St} {H : Hp} {s : Shared}
theorem Inv.ntup {xs : List V} {its : List Value} (I : Inv X pins σ H s) (r : Vals xs its) (z : xs.length ≤ sizeLine) :
    Inv X pins σ (upd H s.heap.objs.size (.frz (tupO its) (.tup xs))) { s with heap := s.heap.push (tupO its), toks := s.toks } :=
  I.laid (t' := s.toks) (o := .frz (tupO its) (.tup xs)) (fun _ _ q => Heap.get?_push_of_some _ q) (Nat.le_refl _) ⟨Heap.get?_push_size _ rfl, z, its, r, IsTup.new _ _⟩
theorem Inv.nofree (I : Inv X pins σ H s) : H s.heap.objs.size = none := I.hok.fresh (Nat.le_refl _)
/-- t + u -/
def rCatF (K : PySem.W.Frag) : R2 := fun x y H Q => ∃ a b xs ys, x = .ref a ∧ y = .ref b ∧ SqT K H a xs ∧ SqT K H b ys ∧ xs.length + ys.length ≤ sizeLine ∧
  (xs = [] → Q (.ref b) H) ∧ (xs ≠ [] → ys = [] → Q (.ref a) H) ∧ (xs ≠ [] → ys ≠ [] → ∀ p o, H p = none → o.dict = none → Q (.ref p) (upd H p (.frz o (.tup (xs ++ ys)))))
theorem op_catF : OpR X (binaryOp .Add) (rCatF X.K) := by
  intro pins s σ H x y v u Q I rx ry ⟨a, b, xs, ys, ex, ey, ha, hb, hz, q0, q1, q2⟩
  subst ex ey
  cases rx; cases ry
  obtain ⟨its, r1, p1, _⟩ := I.tuple ha
  obtain ⟨its2, r2, p2, _⟩ := I.tuple hb
  by_cases hx : xs = []
  · subst hx
    cases r1
    exact cat_tup0 p1 p2 ⟨.ref b, H, I, rfl, q0 rfl⟩
  · refine HT.cat_tup p1 p2 (fun z => hx (r1.nil_iff.mp z)) (fun z => ⟨.ref a, H, I, rfl, q1 hx (r2.nil_iff.mp z)⟩) (fun z => ?_) (by rw [← r1.length, ← r2.length]; exact hz)
    exact ⟨.ref _, _, Inv.ntup I (r1.append r2) (by rw [List.length_append]; exact hz), rfl, q2 hx (fun w => z (r2.nil_iff.mpr w)) _ _ (Inv.nofree I) rfl⟩
/-- t[lo:hi] -/
def rSlF (K : PySem.W.Frag) : V → Option Int → Option Int → Hp → VK → Prop := fun x lo hi H Q => ∃ a xs, x = .ref a ∧ SqT K H a xs ∧
  (HT.sIx xs.length 0 lo = 0 ∧ HT.sIx xs.length xs.length hi = xs.length → Q (.ref a) H) ∧
  (∀ p o, H p = none → o.dict = none → Q (.ref p) (upd H p (.frz o (.tup (cutV xs lo hi)))))
theorem sl_tupF : SlR X (rSlF X.K) := by
  intro pins s σ H x v vl vu lo hi sl Q I rx hs pl pu ⟨a, xs, ex, hx, q1, q2⟩
  subst ex
  cases rx
  obtain ⟨its, r, ht, hz⟩ := I.tuple hx
  have hlen : its.toArray.size = xs.length := by rw [List.size_toArray]; exact r.length.symm
  refine ⟨"tuple", _, PyProof.Rows.slot_tuple_getitem.lookup, ht.typeIs, ?_⟩
  by_cases hw : HT.sIx xs.length 0 lo = 0 ∧ HT.sIx xs.length xs.length hi = xs.length
  · exact getItem_tuple_whole ht hs pl pu (by rw [hlen]; exact hw) ⟨.ref a, H, I, rfl, q1 hw⟩
  · refine HT.getItem_tuple_cut ht hs pl pu (by rw [hlen]; exact hw) ?_ (by rw [hlen]; exact hz)
    rw [hlen]
    have rc := (r.drop (HT.sIx xs.length 0 lo)).take (HT.sIx xs.length xs.length hi - HT.sIx xs.length 0 lo)
    exact ⟨.ref _, _, Inv.ntup I rc (Nat.le_trans (cutV_length xs lo hi) hz), rfl, q2 _ _ (Inv.nofree I) rfl⟩
/-- tuple(xs), tuple(t) -/
def rTupF (K : PySem.W.Frag) : List V → Hp → VK → Prop := fun vs H Q => ∃ p ys, vs = [.ref p] ∧
  ((SqL K H p ys ∧ ∀ l o, H l = none → o.dict = none → Q (.ref l) (upd H l (.frz o (.tup ys)))) ∨ (SqT K H p ys ∧ Q (.ref p) H))
theorem call_tupF : CallR X (.type "tuple") (rTupF X.K) := by
  intro pins s σ H vs us Q I r ⟨p, ys, e, h⟩
  subst e
  obtain ⟨u, rfl, rx⟩ := vals1 r
  cases rx
  rcases h with ⟨hq, q⟩ | ⟨hq, q⟩
  · obtain ⟨its, r', pl, hz⟩ := I.list hq
    have hlen := r'.length
    refine PySem.call_tuple_list pl.isList (fun h' kp => ?_) (by simp only [List.size_toArray] <;> omega)
    have I1 : Inv X pins σ H { s with heap := h' } := I.kept (t' := s.toks) kp
    exact ⟨.ref _, _, Inv.ntup I1 r' hz, rfl, q _ _ (Inv.nofree I1) rfl⟩
  · obtain ⟨its, r', pl, hz⟩ := I.tuple hq
    exact PySem.call_tuple_same pl ⟨.ref p, H, I, rfl, q⟩
/-- a written tuple -/
def tTupF (t : TA) : TE := fun σ H Q => t σ H fun xs H1 => xs.length ≤ sizeLine ∧ ∀ p o, H1 p = none → o.dict = none → Q (.ref p) (upd H1 p (.frz o (.tup xs)))
theorem pe_tupF {es : List Expr} {x1 : Nat} {pos : Pos} {t : TA} (h : PA X es t) : PE X (.Tuple es x1 pos) (tTupF t) := by
  constructor
  intro pins s σ H Q I hq
  refine wpAny_Tuple_spliced (thn (h.run pos pins s σ H _ I hq) fun us s1 ⟨xs, H1, I1, r, z, q⟩ => ⟨by rw [← r.length]; exact z, ?_⟩)
  exact ⟨.ref _, _, Inv.ntup I1 r z, rfl, q _ _ (Inv.nofree I1) rfl⟩
end
end CB
end
section
/-! CB5: the operators. -/
namespace CB
open PySem PySem.Spec L2
open PyProof.Rows hiding St
def RO (K : PySem.W.Frag) (S : Sx) (g : Mem → D → D → Option D) : R2 := fun x y H Q => ∃ w M a b, RelM K S w H M ∧ Rep K S w H x a ∧ Rep K S w H y b ∧ Ans K S w H Q M (g M a b)
def RC (K : PySem.W.Frag) (S : Sx) (g : Mem → D → D → Option Bool) : R2 := RO K S fun M a b => (g M a b).map D.bl
theorem _root_.L2.OpR.imp {X : Cx} {f : Value → Value → Sem Value} {r r' : R2} (h : OpR X f r) (q : ∀ x y H Q, r' x y H Q → r x y H Q) : OpR X f r' := fun pins s σ H x y v u Q I rx ry z => h pins s σ H x y v u Q I rx ry (q _ _ _ _ z)
section
variable {K : PySem.W.Frag} {S : Sx} {w : Wd} {H : Hp}
/-! ### data -/
mutual
theorem Rep.dp : ∀ {v : V} {d : D} {p : PyData}, Rep K S w H v d → d.pd = some p → Dp K H v p
  | _, _, _, .non, e => by cases e; exact .non
  | _, _, _, .bl b, e => by cases e; exact .bl b
  | _, _, _, .int b, e => by cases e; exact .int b
  | _, _, _, .str b, e => by cases e; exact .str b
  | _, .tup ds, _, .tup z h n r, e => by
    unfold D.pd at e
    cases q : pdL ds with
    | none => rw [q] at e; cases e
    | some l => rw [q] at e; cases e; exact .tup (.inl (.inr ⟨_, h⟩)) (RepL.dp r q)
  | _, .tup ds, _, .ktup h r, e => by
    unfold D.pd at e
    cases q : pdL ds with
    | none => rw [q] at e; cases e
    | some l => rw [q] at e; cases e; exact .tup h.sq (RepL.dp r q)
  | _, .lst ds, _, .lst z h r, e => by
    unfold D.pd at e
    cases q : pdL ds with
    | none => rw [q] at e; cases e
    | some l => rw [q] at e; cases e; exact .lst (.inl (.inl h)) (RepL.dp r q)
  | _, _, _, .dct _ _ _, e => by cases e
  | _, _, _, .scr _ _, e => by cases e
  | _, _, _, .kscr _, e => by cases e
  | _, _, _, .loc _, e => by cases e
  | _, _, _, .fn _, e => by cases e
  | _, _, _, .key _ _, e => by cases e
theorem RepL.dp : ∀ {v : List V} {d : List D} {p : List PyData}, RepL K S w H v d → pdL d = some p → DpAll K H v p
  | _, _, _, .nil, e => by cases e; exact .nil
  | _, d :: ds, _, .cons h r, e => by
    unfold pdL at e
    cases q : d.pd with
    | none => rw [q] at e; cases e
    | some a =>
      cases q2 : pdL ds with
      | none => rw [q, q2] at e; cases e
      | some b => rw [q, q2] at e; cases e; exact .cons (Rep.dp h q) (RepL.dp r q2)
end
theorem Rep.deref {M : Mem} {v : V} {d : D} {p : PyData} (m : RelM K S w H M) (r : Rep K S w H v d) (e : (deref M d).pd = some p) : Dp K H v p := by
  unfold CB.deref at e
  split at e
  · rename_i n
    split at e
    · rename_i l hM
      obtain ⟨a, rfl, h1, h2⟩ := m.loc hM r
      cases h2 with
      | lst h r =>
        unfold D.pd at e
        cases q : pdL l with
        | none => rw [q] at e; cases e
        | some b => rw [q] at e; cases e; exact .lst (.inl (.inl h)) (r.dp q)
    · exact r.dp e
  · exact r.dp e
theorem Rep.dpM {M : Mem} {v : V} {d : D} {p : PyData} (m : RelM K S w H M) (r : Rep K S w H v d) (e : pdM M d = some p) : Dp K H v p ∧ SeqAt.shaped p = true := by
  unfold pdM at e
  split at e
  · rename_i q hq
    split at e
    · rename_i hs
      cases e
      exact ⟨r.deref m hq, hs⟩
    · cases e
  · cases e
end
section
variable {X : Cx} {S : Sx}
/-! ### arithmetic -/
theorem Ans.fol {K : PySem.W.Frag} {w : Wd} {H : Hp} {Q : VK} {M : Mem} {d : D} (a : Ans K S w H Q M (some d)) : Fol K S w H Q M d := by
  obtain ⟨d', e, k⟩ := a
  cases e
  exact k
theorem Ans.non {K : PySem.W.Frag} {w : Wd} {H : Hp} {Q : VK} {M : Mem} (a : Ans K S w H Q M none) : False := by
  obtain ⟨d', e, k⟩ := a
  cases e
theorem Ans.cnd {K : PySem.W.Frag} {w : Wd} {H : Hp} {Q : VK} {M : Mem} {c : Prop} [Decidable c] {d : Option D} (a : Ans K S w H Q M (if c then d else none)) : c ∧ Ans K S w H Q M d := by
  by_cases h : c
  · rw [if_pos h] at a; exact ⟨h, a⟩
  · rw [if_neg h] at a; exact a.non.elim
theorem op_addD : OpR X (binaryOp .Add) (RO X.K S add2) := by
  intro pins s σ H x y v u Q I rx ry ⟨w, M, a, b, m, ra, rb, k⟩
  unfold add2 at k
  split at k
  · exact op_add pins s σ H x y v u Q I rx ry ⟨_, _, ra.int_inv, rb.int_inv, k.fol.here m (.int _)⟩
  · obtain ⟨hl, k⟩ := k.cnd
    exact op_add_str pins s σ H x y v u Q I rx ry ⟨_, _, ra.str_inv, rb.str_inv, by rw [← RelM.line]; exact hl, k.fol.here m (.str _)⟩
  · obtain ⟨hl, k⟩ := k.cnd
    obtain ⟨p, xs, e1, h1, r1⟩ := ra.tup_inv
    obtain ⟨q, ys, e2, h2, r2⟩ := rb.tup_inv
    subst e1 e2
    refine op_catF pins s σ H _ _ v u Q I rx ry ⟨p, q, xs, ys, rfl, rfl, h1, h2, by rw [r1.length, r2.length, ← RelM.line]; exact hl, fun e => ?_, fun _ e => ?_, fun _ _ c o hc ho => ?_⟩
    · subst e
      cases r1
      exact k.fol.here m rb
    · subst e
      cases r2
      rw [List.append_nil] at k
      exact k.fol.here m ra
    · exact k.fol.tup m (r1.append r2) hc ho
  · split at k
    · rename_i xs ys ea eb
      obtain ⟨hl, k⟩ := k.cnd
      obtain ⟨p, us, e1, h1, r1⟩ := ra.asL m ea
      obtain ⟨q, vs, e2, h2, r2⟩ := rb.asL m eb
      subst e1 e2
      exact op_cat pins s σ H _ _ v u Q I rx ry ⟨p, q, us, vs, rfl, rfl, h1, h2, by rw [r1.length, r2.length, ← RelM.line]; exact hl, fun c hc => k.fol.lst m (r1.append r2) hc⟩
    · exact k.non.elim
theorem op_subD : OpR X (binaryOp .Sub) (RO X.K S fun M => op2 M .sub) := by
  intro pins s σ H x y v u Q I rx ry ⟨w, M, a, b, m, ra, rb, k⟩
  simp only [op2] at k
  split at k
  · exact op_sub pins s σ H x y v u Q I rx ry ⟨_, _, ra.int_inv, rb.int_inv, k.fol.here m (.int _)⟩
  · exact k.non.elim
theorem small64_iff {i : Int} (h : small64 i = true) : -(2 ^ 64) < i ∧ i < 2 ^ 64 := by
  unfold small64 at h
  simp only [Bool.and_eq_true, decide_eq_true_eq] at h
  exact h
/-- t * k, several times -/
def rRepF (K : PySem.W.Frag) : R2 := fun x y H Q => ∃ l k xs, x = .ref l ∧ y = .int k ∧ SqT K H l xs ∧ xs ≠ [] ∧ 2 ≤ k ∧ k ≤ 1000 ∧ xs.length ≤ 1000 ∧
  ∀ p o, H p = none → o.dict = none → Q (.ref p) (upd H p (.frz o (.tup (List.replicate k.toNat xs).flatten)))
theorem op_repF : OpR X (binaryOp .Mult) (rRepF X.K) := by
  intro pins s σ H x y v u Q I rx ry ⟨l, k, xs, ex, ey, hT, hne, h1, h2, hz, q⟩
  subst ex ey
  cases rx
  obtain ⟨t, rfl⟩ := ry
  obtain ⟨its, r, ⟨⟨cls, dd, data, sl⟩, ho, hc, n, hd⟩, hs⟩ := I.tuple hT
  simp only at hc hd
  subst hc hd
  have hle : its.length = xs.length := r.length.symm
  have hn : its ≠ [] := fun e => hne (List.eq_nil_of_length_eq_zero (by rw [← hle, e]; rfl))
  have hi : its.toArray.isEmpty = false := by
    cases its with
    | nil => exact absurd rfl hn
    | cons a b => rfl
  have hz0 : its.toArray.size = xs.length := by rw [List.size_toArray, hle]
  have fl : (List.replicate k.toNat xs).flatten.length ≤ sizeLine := by
    rw [PyProof.Rows.lm_len_rep_flat, sizeLine_eq]
    have a1 : k.toNat * xs.length ≤ 1000 * 1000 := Nat.mul_le_mul (by omega) hz
    omega
  have fv := r.rep k.toNat
  have hm : ((its.toArray.size : Nat) : Int) * k ≤ 1000000 := by
    rw [hz0]
    have a1 : ((xs.length : Nat) : Int) * k ≤ 1000 * k := Int.mul_le_mul_of_nonneg_right (by omega) (by omega)
    omega
  have c0 : (decide (k < -(2 ^ 63)) || decide (k ≥ 2 ^ 63)) = false := by rw [decide_eq_false (by omega), decide_eq_false (by omega)]; rfl
  have c1 : (its.toArray.isEmpty || k == 1) = false := by rw [hi, Bool.false_or]; exact beq_eq_false_iff_ne.mpr (by omega)
  have c2 : (decide (k ≤ 0) || its.toArray.isEmpty) = false := by rw [hi, Bool.or_false]; exact decide_eq_false (by omega)
  have c4 : Builtin.Tuple.tupleTooMany (((its.toArray.size : Nat) : Int) * k) = false := by
    unfold Builtin.Tuple.tupleTooMany
    exact decide_eq_false (by rw [sizeLine_eq]; omega)
  have fz : (List.foldl (fun x1 x2 => x1 ++ x2) #[] (List.replicate k.toNat its.toArray)).size ≤ sizeLine := by
    rw [size_rep, List.size_toArray, ← fv.length]; exact fl
  have W := tuple_mulW l its.toArray n dd sl k t c0 c1 c2 (by omega) c4 fz
  have C1 := call_meets (prog := X.prog) (w := X.w) (A := X.A) (E := X.xe) (s := s) (Q := EP X pins σ Q) F.slot_tuple_mul (show s.TypeIs (.ref l) "tuple" from ⟨_, ho, rfl⟩) F.entry_tuple_mul (F.args_tuple_mul_2 _ _) W
    ⟨ho, by rw [size_rep]; exact ⟨.ref _, _, Inv.ntup I fv fl, rfl, q _ _ (Inv.nofree I) rfl⟩⟩
  exact wpAny_binaryOp_repeat_ref (T := "tuple") (U := "int") (by decide) ⟨_, ho, rfl⟩ (fun s' => typeIs_int s' k t) noFill_tuple_mul F.fills_int_mul F.slot_int_rmul repeat_tuple F.slot_int_index.lookup
    (call_meets F.slot_int_rmul (typeIs_int s k t) F.entry_int_rmul (F.args_int_rmul_2 _ _) (int_rmul_tuple k t l its.toArray n dd sl) ⟨ho, rfl, ⟨_, ho, rfl⟩, C1⟩)
theorem op_mulD : OpR X (binaryOp .Mult) (RO X.K S fun _ => mul2) := by
  intro pins s σ H x y v u Q I rx ry ⟨w, M, a, b, m, ra, rb, k⟩
  replace k : Ans X.K S w H Q M (mul2 a b) := k
  unfold mul2 at k
  split at k
  · obtain ⟨hl, k⟩ := k.cnd
    rw [Bool.or_eq_true] at hl
    exact op_mul pins s σ H x y v u Q I rx ry ⟨_, _, ra.int_inv, rb.int_inv, hl.imp small64_iff small64_iff, k.fol.here m (.int _)⟩
  · rename_i ds n
    obtain ⟨⟨h0, h1, h2, h3⟩, k⟩ := k.cnd
    obtain ⟨p, xs, e1, hT, r1⟩ := ra.tup_inv
    subst e1
    have e2 := rb.int_inv
    subst e2
    refine op_repF pins s σ H _ _ v u Q I rx ry ⟨p, n, xs, rfl, rfl, hT, fun e => ?_, h1, h2, by rw [r1.length]; exact h3, fun c o hc ho => k.fol.tup m (r1.rep _) hc ho⟩
    subst e
    cases r1
    exact h0 rfl
  · rename_i ds n
    obtain ⟨⟨h1, h2, h3⟩, k⟩ := k.cnd
    obtain ⟨p, xs, e1, h, r1⟩ := ra.lst_inv
    subst e1
    refine op_rep pins s σ H _ y v u Q I rx ry ⟨p, _, xs, rfl, rb.int_inv, h, by omega, by omega, ?_, fun c hc => k.fol.lst m (r1.rep _) hc⟩
    rw [r1.length, sizeLine_eq]
    have : ds.length * n.toNat ≤ 1000 * 1000 := Nat.mul_le_mul (by omega) (by omega)
    omega
  · exact k.non.elim
theorem op_fdivD : OpR X (binaryOp .FloorDiv) (RO X.K S fun M => op2 M .fdiv) := by
  intro pins s σ H x y v u Q I rx ry ⟨w, M, a, b, m, ra, rb, k⟩
  simp only [op2] at k
  split at k
  · obtain ⟨hl, k⟩ := k.cnd
    exact op_fdiv pins s σ H x y v u Q I rx ry ⟨_, _, ra.int_inv, rb.int_inv, hl, k.fol.here m (.int _)⟩
  · exact k.non.elim
theorem op_modD : OpR X (binaryOp .Mod) (RO X.K S fun M => op2 M .mod) := by
  intro pins s σ H x y v u Q I rx ry ⟨w, M, a, b, m, ra, rb, k⟩
  simp only [op2] at k
  split at k
  · obtain ⟨hl, k⟩ := k.cnd
    exact op_mod pins s σ H x y v u Q I rx ry ⟨_, _, ra.int_inv, rb.int_inv, hl, k.fol.here m (.int _)⟩
  · exact k.non.elim
theorem op_powD : OpR X (binaryOp .Pow) (RO X.K S fun M => op2 M .pow) := by
  intro pins s σ H x y v u Q I rx ry ⟨w, M, a, b, m, ra, rb, k⟩
  simp only [op2] at k
  split at k
  · obtain ⟨⟨h1, h2, h3⟩, k⟩ := k.cnd
    have h4 := small64_iff h3
    exact op_pow pins s σ H x y v u Q I rx ry ⟨_, _, ra.int_inv, rb.int_inv, ⟨h1, h2, by omega⟩, k.fol.here m (.int _)⟩
  · exact k.non.elim
theorem repL_ints {K : PySem.W.Frag} {w : Wd} {H : Hp} : ∀ ns : List Int, RepL K S w H (ns.map V.int) (ns.map D.int)
  | [] => .nil
  | n :: ns => .cons (.int n) (repL_ints ns)
theorem atI_rep {K : PySem.W.Frag} {w : Wd} {H : Hp} {xs : List V} {ds : List D} {i : Int} {d : D} (r : RepL K S w H xs ds) (e : atL ds i = some d) : ∃ v, atI xs i = some v ∧ Rep K S w H v d := by
  unfold atL at e
  unfold atI
  rw [r.length]
  cases q : ixN ds.length i with
  | none => rw [q] at e; cases e
  | some j => rw [q] at e; exact r.get e
/-- the pairs of a dict, looked up -/
theorem keyV_inj {a b : List Int} (h : keyV a = keyV b) : a = b := by
  unfold keyV at h
  exact List.map_inj_right (fun x y e => Sum.inl.inj e) |>.mp h
theorem kGet_rep {K : PySem.W.Frag} {w : Wd} {H : Hp} (k : List Int) : ∀ {ks : List (List Key × V)} {kvs : List (List Int × D)}, RepK K S w H ks kvs →
    (kGet k kvs = none ∧ valV ks (keyV k) = none) ∨ ∃ v d, kGet k kvs = some d ∧ valV ks (keyV k) = some v ∧ Rep K S w H v d := by
  intro ks kvs r
  induction kvs generalizing ks with
  | nil => cases r; exact .inl ⟨rfl, rfl⟩
  | cons p ps ih =>
    cases r with
    | cons h r =>
      rename_i q v d vs
      unfold kGet
      by_cases e : q = k
      · subst e
        exact .inr ⟨_, _, if_pos rfl, valV_pos rfl, h⟩
      · rw [if_neg e]
        have e2 : ¬ keyV q = keyV k := fun z => e (keyV_inj z)
        have e3 : valV ((keyV q, v) :: vs) (keyV k) = valV vs (keyV k) := valV_neg e2
        rw [e3]
        exact ih r
theorem keyV_kV (k : List Int) : (keyV k).map kV = k.map V.int := by
  unfold keyV
  rw [List.map_map]
  rfl
theorem Rep.key_inv {K : PySem.W.Frag} {w : Wd} {H : Hp} {v : V} {k : List Int} (r : Rep K S w H v (.key k)) : ∃ b, v = .ref b ∧ H b = some (.tup ((keyV k).map kV)) := by
  cases r with
  | key z h => exact ⟨_, rfl, by rw [keyV_kV]; exact h⟩
/-- a look-up -/
theorem look_rep {K : PySem.W.Frag} {w : Wd} {H : Hp} {M : Mem} {v y : V} {d : D} {k : List Int} {l : List (List Int × D)} (m : RelM K S w H M) (e : asK M d = some l) (r : Rep K S w H v d) (ry : Rep K S w H y (.key k)) :
    ∃ a, v = .ref a ∧ IsD H a ∧ ((kGet k l = none ∧ DGet H a y none) ∨ ∃ u z, kGet k l = some z ∧ DGet H a y (some u) ∧ Rep K S w H u z) := by
  obtain ⟨a, ks, e1, h1, r1⟩ := r.asK m e
  obtain ⟨b, e2, h2⟩ := ry.key_inv
  subst e1 e2
  refine ⟨a, rfl, .inr ⟨ks, h1⟩, ?_⟩
  rcases kGet_rep k r1 with ⟨q1, q2⟩ | ⟨u, z, q1, q2, q3⟩
  · exact .inl ⟨q1, .inr ⟨ks, keyV k, b, h1, rfl, h2, q2.symm⟩⟩
  · exact .inr ⟨u, z, q1, .inr ⟨ks, keyV k, b, h1, rfl, h2, q2.symm⟩, q3⟩
theorem atL_ints {ns : List Int} {i : Int} {d : D} (e : ((L2.ixN ns.length i).bind fun j => (ns[j]?).map D.int) = some d) : ∃ n, atI (ns.map V.int) i = some (.int n) ∧ d = .int n := by
  unfold atI
  rw [List.length_map]
  cases q : ixN ns.length i with
  | none => rw [q] at e; cases e
  | some j =>
    rw [q] at e
    have e : (ns[j]?).map D.int = some d := e
    cases q2 : ns[j]? with
    | none => rw [q2] at e; cases e
    | some n =>
      rw [q2] at e
      cases e
      exact ⟨n, by show (ns.map V.int)[j]? = _; rw [List.getElem?_map, q2]; rfl, rfl⟩
theorem ixD (hu : X.A.units + 1 < cLine) : IxR X (RO X.K S ix2) := by
  intro value slice pins s σ H x y v u Q I rx ry ⟨w, M, a, b, m, ra, rb, k⟩ hs
  unfold ix2 at k
  split at k
  · obtain ⟨d, e, k⟩ := k
    obtain ⟨p, xs, e1, h1, r1⟩ := ra.tup_inv
    obtain ⟨z, q1, q2⟩ := atI_rep r1 e
    exact ix_tup value slice pins s σ H x y v u Q I rx ry ⟨p, xs, _, z, e1, rb.int_inv, h1, q1, Fol.here k m q2⟩ hs
  · obtain ⟨d, e, k⟩ := k
    obtain ⟨p, xs, e1, h1, r1⟩ := ra.lst_inv
    obtain ⟨z, q1, q2⟩ := atI_rep r1 e
    exact ix_list value slice pins s σ H x y v u Q I rx ry ⟨p, xs, _, z, e1, rb.int_inv, .of h1, q1, Fol.here k m q2⟩ hs
  · obtain ⟨d, e, k⟩ := k
    obtain ⟨n, q1, rfl⟩ := atL_ints e
    cases ra with
    | scr z h => exact ix_list value slice pins s σ H _ y v u Q I rx ry ⟨_, _, _, _, rfl, rb.int_inv, .inl h, q1, Fol.here k m (.int n)⟩ hs
    | kscr h => exact ix_list value slice pins s σ H _ y v u Q I rx ry ⟨_, _, _, _, rfl, rb.int_inv, h _, q1, Fol.here k m (.int n)⟩ hs
  · split at k
    · rename_i n i l hM
      obtain ⟨d, e, k⟩ := k
      obtain ⟨p, e1, h0, hr⟩ := m.loc hM ra
      cases hr with
      | lst h1 r1 =>
        obtain ⟨z, q1, q2⟩ := atI_rep r1 e
        exact ix_list value slice pins s σ H x y v u Q I rx ry ⟨p, _, _, z, e1, rb.int_inv, .of h1, q1, Fol.here k m q2⟩ hs
    · exact k.non.elim
  · obtain ⟨d, e, k⟩ := k
    cases q : asK M a with
    | none => rw [q] at e; cases e
    | some l =>
      rw [q] at e
      have e : kGet _ l = some d := e
      obtain ⟨p, e1, _, g⟩ := look_rep m q ra rb
      subst e1
      rcases g with ⟨g1, _⟩ | ⟨z, d', g1, g2, g3⟩
      · rw [g1] at e; cases e
      · rw [g1] at e; cases e
        cases rx
        exact PyProof.Rows.tail_any (dict_typeIs I g2) PySem.F.slot_dict_getitem.lookup (d_getItem hu I g2 ry fun w' s' I' rw' => ⟨z, H, I', rw', Fol.here k m g3⟩) hs
  · exact k.non.elim
/-! ### comparisons -/
theorem ansB {K : PySem.W.Frag} {w : Wd} {H : Hp} {M : Mem} {Q : VK} {r : Option Bool} (k : Ans K S w H Q M (r.map D.bl)) (m : RelM K S w H M) : ∃ b, r = some b ∧ Q (.bl b) H := by
  cases r with
  | none => exact k.non.elim
  | some b => exact ⟨b, rfl, k.fol.here m (.bl b)⟩
theorem op_eqC (hu : X.A.units + 64 < cLine) : OpR X (compareOp .Eq) (RC X.K S fun M => cmp2 M .eq) := by
  intro pins s σ H x y v u Q I rx ry ⟨w, M, a, b, m, ra, rb, k⟩
  obtain ⟨t, e, q⟩ := ansB k m
  simp only [cmp2, eq2] at e
  split at e
  · rename_i p1 p2 h1 h2
    cases e
    obtain ⟨d1, s1⟩ := ra.dpM m h1
    obtain ⟨d2, s2⟩ := rb.dpM m h2
    exact op_eqD hu pins s σ H x y v u Q I rx ry ⟨_, _, d1, d2, s1, s2, q⟩
  · cases e
theorem op_neC (hu : X.A.units + 64 < cLine) : OpR X (compareOp .NotEq) (RC X.K S fun M => cmp2 M .ne) := by
  intro pins s σ H x y v u Q I rx ry ⟨w, M, a, b, m, ra, rb, k⟩
  obtain ⟨t, e, q⟩ := ansB k m
  simp only [cmp2, eq2] at e
  split at e
  · rename_i p1 p2 h1 h2
    cases e
    obtain ⟨d1, s1⟩ := ra.dpM m h1
    obtain ⟨d2, s2⟩ := rb.dpM m h2
    exact op_neD hu pins s σ H x y v u Q I rx ry ⟨_, _, d1, d2, s1, s2, q⟩
  · cases e
theorem op_ltC : OpR X (compareOp .Lt) (RC X.K S fun M => cmp2 M .lt) := by
  intro pins s σ H x y v u Q I rx ry ⟨w, M, a, b, m, ra, rb, k⟩
  obtain ⟨t, e, q⟩ := ansB k m
  simp only [cmp2] at e
  split at e
  · cases e
    exact op_lt pins s σ H x y v u Q I rx ry ⟨_, _, ra.int_inv, rb.int_inv, q⟩
  · cases e
theorem op_gtC : OpR X (compareOp .Gt) (RC X.K S fun M => cmp2 M .gt) := by
  intro pins s σ H x y v u Q I rx ry ⟨w, M, a, b, m, ra, rb, k⟩
  obtain ⟨t, e, q⟩ := ansB k m
  simp only [cmp2] at e
  split at e
  · cases e
    exact op_gt pins s σ H x y v u Q I rx ry ⟨_, _, ra.int_inv, rb.int_inv, q⟩
  · cases e
theorem op_geC : OpR X (compareOp .GtE) (RC X.K S fun M => cmp2 M .ge) := by
  intro pins s σ H x y v u Q I rx ry ⟨w, M, a, b, m, ra, rb, k⟩
  obtain ⟨t, e, q⟩ := ansB k m
  simp only [cmp2] at e
  split at e
  · cases e
    exact op_ge pins s σ H x y v u Q I rx ry ⟨_, _, ra.int_inv, rb.int_inv, q⟩
  · cases e
theorem isNon_rep {K : PySem.W.Frag} {w : Wd} {H : Hp} {v : V} {d : D} (r : Rep K S w H v d) : d.isNon = decide (v = .non) := by
  cases r <;> rfl
theorem op_isC : OpR X (compareOp .Is) (RC X.K S fun M => cmp2 M .is_) := by
  intro pins s σ H x y v u Q I rx ry ⟨w, M, a, b, m, ra, rb, k⟩
  obtain ⟨t, e, q⟩ := ansB k m
  simp only [cmp2, is2] at e
  split at e
  · cases e
    exact op_isN pins s σ H x y v u Q I rx ry ⟨rb.non_inv, by rw [← isNon_rep ra]; exact q⟩
  · rename_i i j
    cases e
    have e2 : decide (i = j) = (i == j) := by cases i <;> cases j <;> rfl
    exact op_isBl pins s σ H x y v u Q I rx ry ⟨_, _, ra.bl_inv, rb.bl_inv, by rw [e2]; exact q⟩
  · cases e
theorem op_isnotC : OpR X (compareOp .IsNot) (RC X.K S fun M => cmp2 M .isnot) := by
  intro pins s σ H x y v u Q I rx ry ⟨w, M, a, b, m, ra, rb, k⟩
  obtain ⟨t, e, q⟩ := ansB k m
  simp only [cmp2, is2] at e
  split at e
  · cases e
    exact op_notN pins s σ H x y v u Q I rx ry ⟨rb.non_inv, by rw [← isNon_rep ra]; exact q⟩
  · rename_i i j
    cases e
    have e2 : decide (i = j) = (i == j) := by cases i <;> cases j <;> rfl
    exact op_notBl pins s σ H x y v u Q I rx ry ⟨_, _, ra.bl_inv, rb.bl_inv, by rw [e2]; exact q⟩
  · cases e
end
end CB
end
section
/-! CB6: in, <=, < of data. -/
namespace CB
open PySem PySem.Spec L2
open PyProof.Rows hiding St
section
variable {X : Cx} {S : Sx}
theorem op_inTD (hu : X.A.units + 65 < cLine) : OpR X (compareOp .In) (fun x y H Q => ∃ d ds, Dp X.K H x d ∧ Dp X.K H y (.tuple ds) ∧ SeqAt.shaped d = true ∧ SeqAt.shaped (.tuple ds) = true ∧ Q (.bl (ds.any fun z => PyData.eqv z d)) H) := by
  intro pins s σ H x y v u Q I rx ry ⟨d, ds, hd, he, sd, se, q⟩
  obtain ⟨as, r1⟩ := Dp.reads I d x v hd rx
  obtain ⟨bs, r2⟩ := Dp.reads I (.tuple ds) y u he ry
  exact SeqAt.in_tuple_reads r2 r1 (SeqAt.canLay_of_shaped se) (SeqAt.canLay_of_shaped sd) (room_in_shaped sd hu) ⟨.bl _, H, I, rfl, q⟩
theorem op_notInTD (hu : X.A.units + 65 < cLine) : OpR X (compareOp .NotIn) (fun x y H Q => ∃ d ds, Dp X.K H x d ∧ Dp X.K H y (.tuple ds) ∧ SeqAt.shaped d = true ∧ SeqAt.shaped (.tuple ds) = true ∧ Q (.bl (!ds.any fun z => PyData.eqv z d)) H) := by
  intro pins s σ H x y v u Q I rx ry ⟨d, ds, hd, he, sd, se, q⟩
  obtain ⟨as, r1⟩ := Dp.reads I d x v hd rx
  obtain ⟨bs, r2⟩ := Dp.reads I (.tuple ds) y u he ry
  exact SeqAt.notIn_tuple_reads r2 r1 (SeqAt.canLay_of_shaped se) (SeqAt.canLay_of_shaped sd) (room_in_shaped sd hu) ⟨.bl _, H, I, rfl, q⟩
theorem pdM_loc {M : Mem} {n : Nat} {l : List D} (h : M[n]? = some (.lst l)) : pdM M (.loc n) = pdM M (.lst l) := by
  unfold pdM deref
  simp only [h]
/-- what «in» asks, whatever stands right -/
theorem in_rep {K : PySem.W.Frag} {w : Wd} {H : Hp} {M : Mem} {x y : V} {a b : D} {t : Bool} (m : RelM K S w H M) (ra : Rep K S w H x a) (rb : Rep K S w H y b) (e : in2 M a b = some t) :
    (∃ p o, y = .ref p ∧ DGet H p x o ∧ t = o.isSome) ∨
    (∃ d ds, Dp K H x d ∧ Dp K H y (.tuple ds) ∧ SeqAt.shaped d = true ∧ SeqAt.shaped (.tuple ds) = true ∧ t = ds.any fun z => PyData.eqv z d) ∨
    (∃ d ds, Dp K H x d ∧ Dp K H y (.list ds) ∧ SeqAt.shaped d = true ∧ SeqAt.shaped (.list ds) = true ∧ t = ds.any fun z => PyData.eqv z d) := by
  have dict : ∀ {k : List Int} {l : List (List Int × D)}, a = .key k → asK M b = some l → t = (kGet k l).isSome → ∃ p o, y = .ref p ∧ DGet H p x o ∧ t = o.isSome := by
    intro k l ea eb et
    subst ea
    obtain ⟨p, e1, _, g⟩ := look_rep m eb rb ra
    rcases g with ⟨g1, g2⟩ | ⟨z, d', g1, g2, g3⟩
    · exact ⟨p, none, e1, g2, by rw [et, g1]; rfl⟩
    · exact ⟨p, some z, e1, g2, by rw [et, g1]; rfl⟩
  unfold in2 at e
  split at e
  · cases e
    exact .inl (dict rfl rfl rfl)
  · split at e
    · rename_i p l h1 h2
      cases e
      obtain ⟨d1, s1⟩ := ra.dpM m h1
      obtain ⟨d2, s2⟩ := rb.dpM m h2
      exact .inr (.inl ⟨_, _, d1, d2, s1, s2, rfl⟩)
    · cases e
  · split at e
    · rename_i p l h1 h2
      cases e
      obtain ⟨d1, s1⟩ := ra.dpM m h1
      obtain ⟨d2, s2⟩ := rb.dpM m h2
      exact .inr (.inr ⟨_, _, d1, d2, s1, s2, rfl⟩)
    · cases e
  · split at e
    · rename_i kvs hM
      split at e
      · cases e
        exact .inl (dict rfl (by unfold asK; simp only [hM]) rfl)
      · cases e
    · rename_i ys hM
      split at e
      · rename_i p l h1 h2
        cases e
        obtain ⟨d1, s1⟩ := ra.dpM m h1
        obtain ⟨d2, s2⟩ := rb.dpM m ((pdM_loc hM).trans h2)
        exact .inr (.inr ⟨_, _, d1, d2, s1, s2, rfl⟩)
      · cases e
    · cases e
  · cases e
theorem op_inC (hu : X.A.units + 65 < cLine) : OpR X (compareOp .In) (RC X.K S fun M => cmp2 M .in_) := by
  intro pins s σ H x y v u Q I rx ry ⟨w, M, a, b, m, ra, rb, k⟩
  obtain ⟨t, e, q⟩ := ansB k m
  rcases in_rep m ra rb e with ⟨p, o, ey, g, et⟩ | ⟨d, ds, h1, h2, h3, h4, et⟩ | ⟨d, ds, h1, h2, h3, h4, et⟩
  · subst ey et
    cases ry
    exact d_in (by omega) I g rx fun s' I' => ⟨.bl _, H, I', rfl, q⟩
  · exact op_inTD hu pins s σ H x y v u Q I rx ry ⟨d, ds, h1, h2, h3, h4, by rw [← et]; exact q⟩
  · exact op_inD hu pins s σ H x y v u Q I rx ry ⟨d, ds, h1, h2, h3, h4, by rw [← et]; exact q⟩
theorem op_notinC (hu : X.A.units + 65 < cLine) : OpR X (compareOp .NotIn) (RC X.K S fun M => cmp2 M .notin) := by
  intro pins s σ H x y v u Q I rx ry ⟨w, M, a, b, m, ra, rb, k⟩
  obtain ⟨t, e, q⟩ := ansB k m
  simp only [cmp2] at e
  cases e0 : in2 M a b with
  | none => rw [e0] at e; cases e
  | some t0 =>
    rw [e0] at e
    cases e
    rcases in_rep m ra rb e0 with ⟨p, o, ey, g, et⟩ | ⟨d, ds, h1, h2, h3, h4, et⟩ | ⟨d, ds, h1, h2, h3, h4, et⟩
    · subst ey et
      cases ry
      exact d_notIn (by omega) I g rx fun s' I' => ⟨.bl _, H, I', rfl, q⟩
    · exact op_notInTD hu pins s σ H x y v u Q I rx ry ⟨d, ds, h1, h2, h3, h4, by rw [← et]; exact q⟩
    · exact op_notInD hu pins s σ H x y v u Q I rx ry ⟨d, ds, h1, h2, h3, h4, by rw [← et]; exact q⟩
/-! ### the order -/
theorem lexAt_shift (e r : Nat → Bool) (z : Bool) : ∀ (k i : Nat), Ob.lexAt e r z (i + 1) k = Ob.lexAt (fun j => e (j + 1)) (fun j => r (j + 1)) z i k
  | 0, _ => rfl
  | k + 1, i => by
    rw [Ob.lexAt_succ, Ob.lexAt_succ, lexAt_shift e r z k (i + 1)]
def eAt (xs ys : List D) (j : Nat) : Bool := (eq2 [] (xs.getD j .non) (ys.getD j .non)).getD false
def rAt (f : D → D → Option Bool) (xs ys : List D) (j : Nat) : Bool := (f (xs.getD j .non) (ys.getD j .non)).getD false
/-- what the answer says of all pairs -/
theorem leL_lex {f : D → D → Option Bool} : ∀ {xs ys : List D} {t : Bool}, leL f xs ys = some t → Ob.lexAt (eAt xs ys) (rAt f xs ys) (decide (xs.length ≤ ys.length)) 0 (min xs.length ys.length) = t ∧
    ∀ j a b, xs[j]? = some a → ys[j]? = some b → eq2 [] a b = some (eAt xs ys j) ∧ (eAt xs ys j = false → f a b = some (rAt f xs ys j))
  | [], ys, t, h => by
    unfold leL at h
    have h : t = true := by cases ys <;> (cases h; rfl)
    subst h
    refine ⟨?_, fun j a b ha => by simp at ha⟩
    simp [Ob.lexAt]
  | x :: xs, [], t, h => by
    unfold leL at h
    cases h
    exact ⟨by simp [Ob.lexAt], fun j a b _ hb => by simp at hb⟩
  | x :: xs, y :: ys, t, h => by
    unfold leL at h
    have sh : ∀ j, eAt (x :: xs) (y :: ys) (j + 1) = eAt xs ys j := fun j => by simp [eAt]
    have sr : ∀ j, rAt f (x :: xs) (y :: ys) (j + 1) = rAt f xs ys j := fun j => by simp [rAt]
    have em : min (x :: xs).length (y :: ys).length = min xs.length ys.length + 1 := by simp only [List.length_cons]; omega
    have ed : decide ((x :: xs).length ≤ (y :: ys).length) = decide (xs.length ≤ ys.length) := by simp
    split at h
    · rename_i r h1 h2
      cases h
      obtain ⟨i1, i2⟩ := leL_lex h2
      have e0 : eAt (x :: xs) (y :: ys) 0 = true := by simp [eAt, h1]
      refine ⟨?_, fun j a b ha hb => ?_⟩
      · rw [em, Ob.lexAt_succ, if_pos e0, ed, lexAt_shift]
        simp only [sh, sr]
        exact i1
      · cases j with
        | zero =>
          simp at ha hb
          subst ha hb
          exact ⟨by rw [h1, e0], fun z => by rw [e0] at z; cases z⟩
        | succ j => rw [sh, sr]; exact i2 j a b (by simpa using ha) (by simpa using hb)
    · rename_i r h1 h2
      obtain ⟨i1, i2⟩ := leL_lex h2
      have e0 : eAt (x :: xs) (y :: ys) 0 = false := by simp [eAt, h1]
      have r0 : rAt f (x :: xs) (y :: ys) 0 = t := by simp [rAt, h]
      refine ⟨?_, fun j a b ha hb => ?_⟩
      · rw [em, Ob.lexAt_succ, if_neg (by rw [e0]; decide), r0]
      · cases j with
        | zero =>
          simp at ha hb
          subst ha hb
          exact ⟨by rw [h1, e0], fun _ => by rw [h, r0]⟩
        | succ j => rw [sh, sr]; exact i2 j a b (by simpa using ha) (by simpa using hb)
    · cases h
theorem ltL_lex {f : D → D → Option Bool} : ∀ {xs ys : List D} {t : Bool}, ltL f xs ys = some t → Ob.lexAt (eAt xs ys) (rAt f xs ys) (decide (xs.length < ys.length)) 0 (min xs.length ys.length) = t ∧
    ∀ j a b, xs[j]? = some a → ys[j]? = some b → eq2 [] a b = some (eAt xs ys j) ∧ (eAt xs ys j = false → f a b = some (rAt f xs ys j))
  | [], [], t, h => by
    unfold ltL at h
    cases h
    exact ⟨by simp [Ob.lexAt], fun j a b ha => by simp at ha⟩
  | [], y :: ys, t, h => by
    unfold ltL at h
    cases h
    exact ⟨by simp [Ob.lexAt], fun j a b ha => by simp at ha⟩
  | x :: xs, [], t, h => by
    unfold ltL at h
    cases h
    exact ⟨by simp [Ob.lexAt], fun j a b _ hb => by simp at hb⟩
  | x :: xs, y :: ys, t, h => by
    unfold ltL at h
    have sh : ∀ j, eAt (x :: xs) (y :: ys) (j + 1) = eAt xs ys j := fun j => by simp [eAt]
    have sr : ∀ j, rAt f (x :: xs) (y :: ys) (j + 1) = rAt f xs ys j := fun j => by simp [rAt]
    have em : min (x :: xs).length (y :: ys).length = min xs.length ys.length + 1 := by simp only [List.length_cons]; omega
    have ed : decide ((x :: xs).length < (y :: ys).length) = decide (xs.length < ys.length) := by simp
    split at h
    · rename_i r h1 h2
      cases h
      obtain ⟨i1, i2⟩ := ltL_lex h2
      have e0 : eAt (x :: xs) (y :: ys) 0 = true := by simp [eAt, h1]
      refine ⟨?_, fun j a b ha hb => ?_⟩
      · rw [em, Ob.lexAt_succ, if_pos e0, ed, lexAt_shift]
        simp only [sh, sr]
        exact i1
      · cases j with
        | zero =>
          simp at ha hb
          subst ha hb
          exact ⟨by rw [h1, e0], fun z => by rw [e0] at z; cases z⟩
        | succ j => rw [sh, sr]; exact i2 j a b (by simpa using ha) (by simpa using hb)
    · rename_i r h1 h2
      obtain ⟨i1, i2⟩ := ltL_lex h2
      have e0 : eAt (x :: xs) (y :: ys) 0 = false := by simp [eAt, h1]
      have r0 : rAt f (x :: xs) (y :: ys) 0 = t := by simp [rAt, h]
      refine ⟨?_, fun j a b ha hb => ?_⟩
      · rw [em, Ob.lexAt_succ, if_neg (by rw [e0]; decide), r0]
      · cases j with
        | zero =>
          simp at ha hb
          subst ha hb
          exact ⟨by rw [h1, e0], fun _ => by rw [h, r0]⟩
        | succ j => rw [sh, sr]; exact i2 j a b (by simpa using ha) (by simpa using hb)
    · cases h
theorem deref_nil (d : D) : deref [] d = d := by
  cases d <;> rfl
theorem Rep.dpN {K : PySem.W.Frag} {w : Wd} {H : Hp} {v : V} {d : D} {p : PyData} (r : Rep K S w H v d) (e : pdM [] d = some p) : Dp K H v p ∧ SeqAt.shaped p = true := by
  unfold pdM at e
  rw [deref_nil] at e
  split at e
  · rename_i q hq
    split at e
    · rename_i hs
      cases e
      exact ⟨r.dp hq, hs⟩
    · cases e
  · cases e
section
variable {pins : List (Addr × Obj)} {σ : St} {H : Hp} {s : Shared} {w : Wd}
theorem eqAt_rep {x y : V} {v u : Value} {a b : D} {t : Bool} {A : Around} (I : Inv X pins σ H s) (ra : Rep X.K S w H x a) (rb : Rep X.K S w H y b) (rx : RelV x v) (ry : RelV y u)
    (hu : A.units + 64 < cLine) (e : eq2 [] a b = some t) : SeqAt.EqAt A s v u t := by
  unfold eq2 at e
  split at e
  · rename_i p1 p2 h1 h2
    cases e
    obtain ⟨d1, s1⟩ := ra.dpN h1
    obtain ⟨d2, s2⟩ := rb.dpN h2
    obtain ⟨as, r1⟩ := Dp.reads I _ x v d1 rx
    obtain ⟨bs, r2⟩ := Dp.reads I _ y u d2 ry
    exact SeqAt.eqAt_reads _ _ _ _ _ _ _ _ r1 r2 (SeqAt.canLay_of_shaped s1) (SeqAt.canLay_of_shaped s2) (SeqAt.room_of_shaped s1 hu)
  · cases e
/-- an item of a tuple, as data, as an abstract value, as a value -/
theorem item_rep {a : Addr} {xs : List V} {ds : List D} {its : List Value} (r : RepL X.K S w H xs ds) (rv : Vals xs its) {j : Nat} (h : j < its.toArray.size) :
    ∃ d x, ds[j]? = some d ∧ ds.getD j .non = d ∧ Rep X.K S w H x d ∧ RelV x its.toArray[j] := by
  have h1 : j < its.length := by simpa using h
  have h2 : j < xs.length := by rw [rv.length]; exact h1
  have hx : xs[j]? = some xs[j] := List.getElem?_eq_getElem h2
  obtain ⟨d, e, rd⟩ := r.getV hx
  obtain ⟨u, e2, ru⟩ := rv.get hx
  have e3 : its.toArray[j] = u := by
    rw [List.getElem?_eq_getElem h1] at e2
    have := Option.some.inj e2
    simpa using this
  exact ⟨d, xs[j], e, by simp [List.getD, e], rd, by rw [e3]; exact ru⟩
theorem rc_le (I : Inv X pins σ H s) : ∀ (n : Nat) (a b : D) (t : Bool) (A : Around) (x y : V) (v u : Value), leN n a b = some t → Rep X.K S w H x a → Rep X.K S w H y b → RelV x v → RelV y u → A.units + 64 + n < cLine → Ob.RcOp .LtE A s v u t
  | 0, _, _, _, _, _, _, _, _, h, _, _, _, _, _ => by cases h
  | n + 1, a, b, t, A, x, y, v, u, h, ra, rb, rx, ry, hu => by
    unfold leN at h
    split at h
    · cases h
      have e1 := ra.int_inv
      have e2 := rb.int_inv
      subst e1 e2
      obtain ⟨t1, rfl⟩ := rx
      obtain ⟨t2, rfl⟩ := ry
      exact Ob.RcOp.le_int _ _ _ _
    · cases h
      have e1 := ra.str_inv
      have e2 := rb.str_inv
      subst e1 e2
      obtain ⟨t1, rfl⟩ := rx
      obtain ⟨t2, rfl⟩ := ry
      exact fun prog w' E Q hq => PySem.P.le_str hq
    · obtain ⟨p, xs, e1, h1, r1⟩ := ra.tup_inv
      obtain ⟨q, ys, e2, h2, r2⟩ := rb.tup_inv
      subst e1 e2
      cases rx
      cases ry
      obtain ⟨its, v1, p1, _⟩ := I.tuple h1
      obtain ⟨its2, v2, p2, _⟩ := I.tuple h2
      obtain ⟨L1, L2⟩ := leL_lex h
      have l1 : its.toArray.size = _ := List.size_toArray.trans (v1.length.symm.trans r1.length)
      have l2 : its2.toArray.size = _ := List.size_toArray.trans (v2.length.symm.trans r2.length)
      rw [← L1, ← l1, ← l2]
      refine Ob.RcOp.tuples_le p1 p2 (by omega) (fun j h1 h2 => ?_) fun j h1 h2 hj => ?_
      · obtain ⟨d1, x1, q1, _, g1, f1⟩ := item_rep (a := p) r1 v1 h1
        obtain ⟨d2, x2, q2, _, g2, f2⟩ := item_rep (a := q) r2 v2 h2
        exact eqAt_rep I g1 g2 f1 f2 (by show A.units + 1 + 64 < cLine; omega) (L2 j d1 d2 q1 q2).1
      · obtain ⟨d1, x1, q1, _, g1, f1⟩ := item_rep (a := p) r1 v1 h1
        obtain ⟨d2, x2, q2, _, g2, f2⟩ := item_rep (a := q) r2 v2 h2
        exact rc_le I n d1 d2 _ A.in1 x1 x2 _ _ ((L2 j d1 d2 q1 q2).2 hj) g1 g2 f1 f2 (by show A.units + 1 + 64 + n < cLine; omega)
    · cases h
theorem rc_lt (I : Inv X pins σ H s) : ∀ (n : Nat) (a b : D) (t : Bool) (A : Around) (x y : V) (v u : Value), ltN n a b = some t → Rep X.K S w H x a → Rep X.K S w H y b → RelV x v → RelV y u → A.units + 64 + n < cLine → Ob.RcOp .Lt A s v u t
  | 0, _, _, _, _, _, _, _, _, h, _, _, _, _, _ => by cases h
  | n + 1, a, b, t, A, x, y, v, u, h, ra, rb, rx, ry, hu => by
    unfold ltN at h
    split at h
    · cases h
      have e1 := ra.int_inv
      have e2 := rb.int_inv
      subst e1 e2
      obtain ⟨t1, rfl⟩ := rx
      obtain ⟨t2, rfl⟩ := ry
      exact Ob.RcOp.lt_int _ _ _ _
    · cases h
      have e1 := ra.str_inv
      have e2 := rb.str_inv
      subst e1 e2
      obtain ⟨t1, rfl⟩ := rx
      obtain ⟨t2, rfl⟩ := ry
      exact fun prog w' E Q hq => PyProof.Rows.lt_str hq
    · obtain ⟨p, xs, e1, h1, r1⟩ := ra.tup_inv
      obtain ⟨q, ys, e2, h2, r2⟩ := rb.tup_inv
      subst e1 e2
      cases rx
      cases ry
      obtain ⟨its, v1, p1, _⟩ := I.tuple h1
      obtain ⟨its2, v2, p2, _⟩ := I.tuple h2
      obtain ⟨L1, L2⟩ := ltL_lex h
      have l1 : its.toArray.size = _ := List.size_toArray.trans (v1.length.symm.trans r1.length)
      have l2 : its2.toArray.size = _ := List.size_toArray.trans (v2.length.symm.trans r2.length)
      rw [← L1, ← l1, ← l2]
      refine Ob.RcOp.tuples_lt p1 p2 (by omega) (fun j h1 h2 => ?_) fun j h1 h2 hj => ?_
      · obtain ⟨d1, x1, q1, _, g1, f1⟩ := item_rep (a := p) r1 v1 h1
        obtain ⟨d2, x2, q2, _, g2, f2⟩ := item_rep (a := q) r2 v2 h2
        exact eqAt_rep I g1 g2 f1 f2 (by show A.units + 1 + 64 < cLine; omega) (L2 j d1 d2 q1 q2).1
      · obtain ⟨d1, x1, q1, _, g1, f1⟩ := item_rep (a := p) r1 v1 h1
        obtain ⟨d2, x2, q2, _, g2, f2⟩ := item_rep (a := q) r2 v2 h2
        exact rc_lt I n d1 d2 _ A.in1 x1 x2 _ _ ((L2 j d1 d2 q1 q2).2 hj) g1 g2 f1 f2 (by show A.units + 1 + 64 + n < cLine; omega)
    · cases h
end
theorem op_leC (hu : X.A.units + 80 < cLine) : OpR X (compareOp .LtE) (RC X.K S fun M => cmp2 M .le) := by
  intro pins s σ H x y v u Q I rx ry ⟨w, M, a, b, m, ra, rb, k⟩
  obtain ⟨t, e, q⟩ := ansB k m
  exact (rc_le I 6 a b t X.A x y v u e ra rb rx ry (by omega)) X.prog X.w X.xe (EP X pins σ Q) ⟨.bl t, H, I, rfl, q⟩
end
end CB
end
section
set_option maxHeartbeats 1000000
/-! CB7: sorted. -/
namespace CB
open PySem PySem.Spec L2
open PyProof.Rows hiding St
open SrtO (Swo Srtd Stb)
section
variable {prog : Program} {w : World} {A : Around} {E : Value → Shared → Prop} {s : Shared}
theorem collect_tup {l : Addr} {vs : List Value} {Q : List Value → Shared → Prop} (hl : IsTup s.heap l vs.toArray)
    (h : Q vs { s with heap := (s.heap.push (seqObj "list" #[] 0)).update s.heap.objs.size (Obj.mapSeq (· ++ vs.toArray)) }) (hsz : vs.length ≤ sizeLine) :
    wpAny (model prog w) A (collect (.ref l)) Q E s := by
  obtain ⟨o, ho, hc, n, hd⟩ := id hl
  unfold collect
  refine wpAny_bind (wpAny_runValue (codeAny_builtin entry_proto_collect' ?_))
  show wpAny _ _ (do again (.builtin "list.__iadd__" ⟨[← newList [], .ref l], []⟩)) _ _ s
  refine wpAny_bind (wpAny_newList (wpAny_pure ⟨Code.quiet_builtin _ (by decide +kernel), codeAny_builtin entry_list_iadd' ?_⟩))
  show wpAny _ _ (Builtin.List.listExtendWith (.ref s.heap.objs.size) (.ref l) (.ref s.heap.objs.size)) _ _ { s with heap := s.heap.push (seqObj "list" #[] 0) }
  unfold Builtin.List.listExtendWith
  have ho' : (s.heap.push (seqObj "list" #[] 0)).get? l = some o := Heap.get?_push_of_some _ ho
  refine wpAny_bind (wpAny_typeOf (T := "tuple") ⟨o, ho', hc⟩ ?_)
  have ht : (Value.type "tuple" == Value.type "tuple") = true := by rfl
  rw [if_pos (by rw [ht]; simp)]
  refine wpAny_bind (listItems_at ho' hd ?_)
  refine wpAny_bind (listItems_at (xs := #[]) (n := 0) (Heap.get?_push_size _ rfl) rfl ?_)
  rw [if_neg (by simp)]
  refine wpAny_bind (listUpdate_at (xs := #[]) (n := 0) (Heap.get?_push_size _ rfl) rfl ?_ (Nat.zero_le _) (by show (#[] ++ vs.toArray).size ≤ sizeLine + 1; simp only [Array.size_append, List.size_toArray, List.length_nil]; omega))
  refine wpAny_pure ?_
  show wpAny (model prog w) A (do
      let o ← load s.heap.objs.size
      match o.data with
      | .seq xs _ => pure xs.toList
      | _ => unsupported "internal:collect") Q E { s with heap := (s.heap.push (seqObj "list" #[] 0)).update s.heap.objs.size (Obj.mapSeq (· ++ vs.toArray)) }
  refine wpAny_bind (wpAny_load (get?_update_seq (Heap.get?_push_size _ rfl) _) ?_)
  show wpAny _ _ (pure ((#[] : Array Value) ++ vs.toArray).toList) Q E _
  rw [show ((#[] : Array Value) ++ vs.toArray).toList = vs by simp]
  exact wpAny_pure h
/-- sorted of a list or a tuple -/
theorem sorted_seq {l : Addr} {vs : List Value} {ltv : Value → Value → Bool} {Q : Value → Shared → Prop} (O : Swo ltv) (hl : s.heap.IsList l vs.toArray ∨ IsTup s.heap l vs.toArray) (hz : vs.length ≤ sizeLine)
    (hS : 2 ≤ vs.length → ∀ (h₁ : Heap) (a : Addr), h₁.get? a = some (seqObj "list" vs.toArray 0) → (∀ b o, s.heap.get? b = some o → b ≠ a ∧ h₁.get? b = some o) → SrtO.SortableO prog w A.in1.in1 { s with heap := h₁ } a vs ltv)
    (h : ∀ out : List Value, Srtd ltv out → Stb ltv out vs → Q (.ref (s.heap.objs.size + 1)) { s with heap := sortedAll s.heap vs out.toArray }) :
    wpAny (model prog w) A (call (.builtin "sorted") [.ref l]) Q E s := by
  rcases hl with hl | hl
  · exact SrtO.sorted_ord O hl hz hS h
  refine Calls.call_function_entry kind_sorted plain_sorted entry_sorted (args_sorted1 _) ?_
  unfold Builtin.«sorted»
  refine wpAny_bind (m := checkCount "sorted" 1 1 _) (wpAny_pure ?_)
  refine wpAny_bind (collect_tup hl ?_ hz)
  refine wpAny_bind (wpAny_newList ?_ hz)
  have hsz : ((s.heap.push (seqObj "list" #[] 0)).update s.heap.objs.size (Obj.mapSeq (· ++ vs.toArray))).objs.size = s.heap.objs.size + 1 := by
    rw [Heap.size_update, size_push']
  have hoL : (((s.heap.push (seqObj "list" #[] 0)).update s.heap.objs.size (Obj.mapSeq (· ++ vs.toArray))).push (seqObj "list" vs.toArray 0)).get? (s.heap.objs.size + 1) = some (seqObj "list" vs.toArray 0) := by
    rw [← hsz]; exact Heap.get?_push_size _ rfl
  have keep : ∀ b o, s.heap.get? b = some o → b ≠ s.heap.objs.size + 1 ∧ (((s.heap.push (seqObj "list" #[] 0)).update s.heap.objs.size (Obj.mapSeq (· ++ vs.toArray))).push (seqObj "list" vs.toArray 0)).get? b = some o := fun b o q => by
    have hlt : b < s.heap.objs.size := Heap.lt_size q
    refine ⟨Nat.ne_of_lt (Nat.lt_succ_of_lt hlt), Heap.get?_push_of_some _ ?_⟩
    rw [Heap.get?_update_ne _ _ _ _ (Nat.ne_of_lt hlt)]
    exact Heap.get?_push_of_some _ q
  show wpAny _ _ _ _ _ { s with heap := ((s.heap.push (seqObj "list" #[] 0)).update s.heap.objs.size (Obj.mapSeq (· ++ vs.toArray))).push (seqObj "list" vs.toArray 0) }
  rw [hsz]
  refine wpAny_bind (wpAny_holding (wpAny_call_entry slot_list_sort ⟨_, hoL, rfl⟩ entry_list_sort (SrtO.list_sort_ord O hoL hz (fun h2 => hS h2 _ _ hoL keep) fun out hs hb => ⟨_, rfl, ?_⟩) (args_list_sort _)))
  exact wpAny_pure ⟨_, rfl, h out hs hb⟩
end
end CB
end
section
set_option maxHeartbeats 1000000
/-! CB8: sorted data. -/
namespace CB
open PySem PySem.Spec L2
open PyProof.Rows hiding St
open SrtO (Swo Srtd Stb)
/-! ### plain facts of the answer -/
mutual
theorem sameD_eq : ∀ {a b : D}, sameD a b = true → a = b
  | .int i, .int j, h => by simp [sameD] at h; rw [h]
  | .str i, .str j, h => by simp [sameD] at h; rw [h]
  | .tup xs, .tup ys, h => congrArg D.tup (sameL_eq (a := xs) (b := ys) (by simpa [sameD] using h))
  | .non, _, h => by simp [sameD] at h
  | .bl _, _, h => by simp [sameD] at h
  | .lst _, _, h => by simp [sameD] at h
  | .dct _, _, h => by simp [sameD] at h
  | .scr _, _, h => by simp [sameD] at h
  | .loc _, _, h => by simp [sameD] at h
  | .fn _, _, h => by simp [sameD] at h
  | .key _, _, h => by simp [sameD] at h
  | .int _, .non, h => by simp [sameD] at h
  | .int _, .bl _, h => by simp [sameD] at h
  | .int _, .str _, h => by simp [sameD] at h
  | .int _, .tup _, h => by simp [sameD] at h
  | .int _, .lst _, h => by simp [sameD] at h
  | .int _, .dct _, h => by simp [sameD] at h
  | .int _, .scr _, h => by simp [sameD] at h
  | .int _, .loc _, h => by simp [sameD] at h
  | .int _, .fn _, h => by simp [sameD] at h
  | .int _, .key _, h => by simp [sameD] at h
  | .str _, .non, h => by simp [sameD] at h
  | .str _, .bl _, h => by simp [sameD] at h
  | .str _, .int _, h => by simp [sameD] at h
  | .str _, .tup _, h => by simp [sameD] at h
  | .str _, .lst _, h => by simp [sameD] at h
  | .str _, .dct _, h => by simp [sameD] at h
  | .str _, .scr _, h => by simp [sameD] at h
  | .str _, .loc _, h => by simp [sameD] at h
  | .str _, .fn _, h => by simp [sameD] at h
  | .str _, .key _, h => by simp [sameD] at h
  | .tup _, .non, h => by simp [sameD] at h
  | .tup _, .bl _, h => by simp [sameD] at h
  | .tup _, .int _, h => by simp [sameD] at h
  | .tup _, .str _, h => by simp [sameD] at h
  | .tup _, .lst _, h => by simp [sameD] at h
  | .tup _, .dct _, h => by simp [sameD] at h
  | .tup _, .scr _, h => by simp [sameD] at h
  | .tup _, .loc _, h => by simp [sameD] at h
  | .tup _, .fn _, h => by simp [sameD] at h
  | .tup _, .key _, h => by simp [sameD] at h
theorem sameL_eq : ∀ {a b : List D}, sameL a b = true → a = b
  | [], [], _ => rfl
  | x :: xs, y :: ys, h => by
    simp only [sameL, Bool.and_eq_true] at h
    rw [sameD_eq h.1, sameL_eq h.2]
  | [], _ :: _, h => by simp [sameL] at h
  | _ :: _, [], h => by simp [sameL] at h
end
theorem insD_perm : ∀ {x : D} {l l' : List D}, insD x l = some l' → l'.Perm (x :: l)
  | x, [], l', h => by
    unfold insD at h
    cases h
    exact .refl _
  | x, y :: r, l', h => by
    unfold insD at h
    split at h
    · cases h; exact .refl _
    · cases q : insD x r with
      | none => rw [q] at h; cases h
      | some k =>
        rw [q] at h
        cases h
        exact ((insD_perm q).cons y).trans (.swap x y r)
    · cases h
theorem sortU_perm : ∀ {l l' : List D}, sortU l = some l' → l'.Perm l
  | [], l', h => by
    unfold sortU at h
    cases h
    exact .refl _
  | x :: r, l', h => by
    unfold sortU at h
    cases q : sortU r with
    | none => rw [q] at h; cases h
    | some k =>
      rw [q] at h
      exact (insD_perm h).trans ((sortU_perm q).cons x)
/-- the place of the first like it -/
noncomputable def rk (l : List D) (d : D) : Nat := l.findIdx (fun e => sameD e d)
theorem okTo_mem {x : D} : ∀ {l : List D}, okTo x l = true → ∀ y ∈ l, (sameD x y = true ∧ ltD x y = some false ∧ ltD y x = some false) ∨ (sameD x y = false ∧ ltD x y = some true ∧ ltD y x = some false)
  | [], _, y, hy => by cases hy
  | z :: r, h, y, hy => by
    simp only [okTo, Bool.and_eq_true, Bool.or_eq_true] at h
    rcases List.mem_cons.mp hy with e | hy
    · subst e
      rcases h.1 with q | q
      · exact .inl ⟨q.1.1, by simpa using q.1.2, by simpa using q.2⟩
      · exact .inr ⟨by simpa using q.1.1, by simpa using q.1.2, by simpa using q.2⟩
    · exact okTo_mem h.2 y hy
theorem okAll_self : ∀ {l : List D}, okAll l = true → ∀ y ∈ l, sameD y y = true ∧ ltD y y = some false
  | [], _, y, hy => by cases hy
  | z :: r, h, y, hy => by
    simp only [okAll, Bool.and_eq_true] at h
    rcases List.mem_cons.mp hy with e | hy
    · subst e
      exact ⟨h.1.1.1, by simpa using h.1.1.2⟩
    · exact okAll_self h.2 y hy
theorem okAll_lt : ∀ {l : List D}, okAll l = true → ∀ (i j : Nat) (x y : D), l[i]? = some x → l[j]? = some y → i < j → (sameD x y = true ∧ ltD x y = some false ∧ ltD y x = some false) ∨ (sameD x y = false ∧ ltD x y = some true ∧ ltD y x = some false)
  | [], _, i, j, x, y, h1, _, _ => by simp at h1
  | z :: r, h, 0, j + 1, x, y, h1, h2, _ => by
    simp only [okAll, Bool.and_eq_true] at h
    simp at h1 h2
    subst h1
    exact okTo_mem h.1.2 y (List.mem_of_getElem? h2)
  | z :: r, h, i + 1, j + 1, x, y, h1, h2, hij => by
    simp only [okAll, Bool.and_eq_true] at h
    exact okAll_lt h.2 i j x y (by simpa using h1) (by simpa using h2) (by omega)
theorem rk_at {l : List D} (h : okAll l = true) {d : D} (hd : d ∈ l) : l[rk l d]? = some d := by
  have hx : ∃ e ∈ l, (fun e => sameD e d) e = true := ⟨d, hd, (okAll_self h d hd).1⟩
  have hlt : rk l d < l.length := List.findIdx_lt_length_of_exists hx
  have hs := List.findIdx_getElem (p := fun e => sameD e d) (xs := l) (w := hlt)
  have he : l[rk l d] = d := sameD_eq hs
  rw [List.getElem?_eq_getElem hlt, he]
theorem rk_inj {l : List D} (h : okAll l = true) {d e : D} (hd : d ∈ l) (he : e ∈ l) (q : rk l d = rk l e) : d = e := by
  have h1 := rk_at h hd
  have h2 := rk_at h he
  rw [q, h2] at h1
  exact (Option.some.inj h1).symm
theorem rk_lt {l : List D} (h : okAll l = true) {d e : D} (hd : d ∈ l) (he : e ∈ l) : ltD d e = some (decide (rk l d < rk l e)) := by
  have h1 := rk_at h hd
  have h2 := rk_at h he
  rcases Nat.lt_trichotomy (rk l d) (rk l e) with q | q | q
  · rw [decide_eq_true q]
    rcases okAll_lt h _ _ d e h1 h2 q with ⟨z, _, _⟩ | ⟨_, z, _⟩
    · rw [sameD_eq z] at q; exact absurd q (Nat.lt_irrefl _)
    · exact z
  · have := rk_inj h hd he q
    subst this
    rw [decide_eq_false (Nat.lt_irrefl _)]
    exact (okAll_self h d hd).2
  · rw [decide_eq_false (by omega)]
    rcases okAll_lt h _ _ e d h2 h1 q with ⟨z, _, _⟩ | ⟨_, _, z⟩
    · rw [sameD_eq z] at q; exact absurd q (Nat.lt_irrefl _)
    · exact z
theorem okAll_rk {l : List D} (h : okAll l = true) : l.Pairwise fun a b => rk l a ≤ rk l b := by
  rw [List.pairwise_iff_getElem]
  intro i j hi hj hij
  have q : rk l l[i] ≤ i := by
    apply Nat.le_of_not_lt
    intro z
    exact absurd (okAll_self h l[i] (List.getElem_mem hi)).1 (by simpa using List.not_of_lt_findIdx z)
  apply Nat.le_of_not_lt
  intro z
  have h1 := rk_at h (List.getElem_mem hj)
  have h2 : l[i]? = some l[i] := List.getElem?_eq_getElem hi
  have z2 : rk l l[j] < i := Nat.lt_of_lt_of_le z q
  have a1 := okAll_lt h _ _ l[j] l[i] h1 h2 z2
  have a2 := okAll_lt h i j l[i] l[j] h2 (List.getElem?_eq_getElem hj) hij
  rcases a1 with ⟨w, _, _⟩ | ⟨_, w1, w2⟩
  · rw [sameD_eq w] at z; exact absurd z (Nat.lt_irrefl _)
  · rcases a2 with ⟨w, _, _⟩ | ⟨_, v1, v2⟩
    · rw [sameD_eq w] at z; exact absurd z (Nat.lt_irrefl _)
    · rw [w2] at v1; cases v1
theorem sorted_uniq : ∀ {l m : List Nat}, l.Pairwise (· ≤ ·) → m.Pairwise (· ≤ ·) → l.Perm m → l = m
  | [], m, _, _, p => (List.Perm.eq_nil p.symm).symm
  | x :: l, [], _, _, p => by simp at p
  | x :: l, y :: m, hl, hm, p => by
    have h1 : x ≤ y := by
      rcases List.mem_cons.mp (p.mem_iff.mpr List.mem_cons_self) with e | e
      · omega
      · exact (List.pairwise_cons.mp hl).1 y e
    have h2 : y ≤ x := by
      rcases List.mem_cons.mp (p.mem_iff.mp List.mem_cons_self) with e | e
      · omega
      · exact (List.pairwise_cons.mp hm).1 x e
    have e : x = y := by omega
    subst e
    rw [sorted_uniq (List.pairwise_cons.mp hl).2 (List.pairwise_cons.mp hm).2 p.cons_inv]
theorem map_rk_inj {l : List D} (h : okAll l = true) : ∀ {a b : List D}, (∀ x ∈ a, x ∈ l) → (∀ x ∈ b, x ∈ l) → a.map (rk l) = b.map (rk l) → a = b
  | [], [], _, _, _ => rfl
  | [], _ :: _, _, _, e => by simp at e
  | _ :: _, [], _, _, e => by simp at e
  | x :: a, y :: b, ha, hb, e => by
    simp only [List.map_cons, List.cons.injEq] at e
    rw [rk_inj h (ha x List.mem_cons_self) (hb y List.mem_cons_self) e.1, map_rk_inj h (fun z m => ha z (List.mem_cons_of_mem _ m)) (fun z m => hb z (List.mem_cons_of_mem _ m)) e.2]
/-- the answer is the only rearrangement that rises by rank -/
theorem sortD_uniq {ds l m : List D} (h : okAll l = true) (hl : l.Perm ds) (hm : m.Perm ds) (hs : m.Pairwise fun a b => rk l a ≤ rk l b) : m = l := by
  refine map_rk_inj h (fun x hx => hl.mem_iff.mpr (hm.mem_iff.mp hx)) (fun x hx => hx) ?_
  exact sorted_uniq (List.pairwise_map.mpr hs) (List.pairwise_map.mpr (okAll_rk h)) ((hm.trans hl.symm).map _)
end CB
end
section
set_option maxHeartbeats 1000000
/-! CB9: sorted, as a rule. -/
namespace CB
open PySem PySem.Spec L2
open PyProof.Rows hiding St
open SrtO (Swo Srtd Stb)
section
variable {X : Cx} {S : Sx} {pins : List (Addr × Obj)} {σ : St} {H : Hp} {s : Shared} {w : Wd}
theorem kat_rep (I : Inv X pins σ H s) (n : Nat) {A : Around} (b : Bool) (hu : A.units + 65 + n < cLine) {Q : Bool → Shared → Prop} : ∀ (i : Nat) (ds es : List D) (xs ys : List V) (its its2 : List Value) (t fin : Bool),
    ltL (ltN n) ds es = some t → RepL X.K S w H xs ds → RepL X.K S w H ys es → Vals xs its → Vals ys its2 → fin = decide (ds.length < es.length) →
    ((b && i == 0) = true → ∀ d, ds.head? = some d → ∀ l, d ≠ .tup l) → Q t s → PySem.W.KatLex X.prog X.w A b fin Q (its.zip its2) i s
  | i, [], [], _, _, _, _, t, fin, h, .nil, .nil, .nil, .nil, hf, _, hq => by
    unfold ltL at h
    cases h
    subst hf
    exact PySem.W.kat_nil hq
  | i, [], e :: es, _, _, _, _, t, fin, h, .nil, .cons _ _, .nil, .cons _ _, hf, _, hq => by
    unfold ltL at h
    cases h
    subst hf
    exact PySem.W.kat_nil (by simpa using hq)
  | i, d :: ds, [], _, _, _, _, t, fin, h, .cons _ _, .nil, .cons _ _, .nil, hf, _, hq => by
    unfold ltL at h
    cases h
    subst hf
    exact PySem.W.kat_nil (by simpa using hq)
  | i, d :: ds, e :: es, _, _, _, _, t, fin, h, .cons rd rds, .cons re res, .cons vd vds, .cons ve ves, hf, hk, hq => by
    unfold ltL at h
    refine PySem.W.kat_cons ?_
    have hf2 : fin = decide (ds.length < es.length) := by rw [hf]; simp
    split at h
    · rename_i r h1 h2
      cases h
      refine eqAt_rep I rd re vd ve (by omega) h1 X.prog X.w _ _ (PySem.W.kat_yes ?_)
      exact kat_rep I n b hu (i + 1) ds es _ _ _ _ t fin h2 rds res vds ves hf2 (fun z => by simp at z) hq
    · rename_i r h1 h2
      refine eqAt_rep I rd re vd ve (by omega) h1 X.prog X.w _ _ (PySem.W.kat_no ?_)
      cases n with
      | zero => cases h
      | succ n =>
        have h0 := h
        unfold ltN at h
        split at h
        · cases h
          have e1 := rd.int_inv
          have e2 := re.int_inv
          subst e1 e2
          obtain ⟨t1, rfl⟩ := vd
          obtain ⟨t2, rfl⟩ := ve
          exact oneLt_any_int hq
        · cases h
          have e1 := rd.str_inv
          have e2 := re.str_inv
          subst e1 e2
          obtain ⟨t1, rfl⟩ := vd
          obtain ⟨t2, rfl⟩ := ve
          exact oneLt_any_str hq
        · have fl : (b && i == 0) = false := by
            cases q : (b && i == 0) with
            | false => rfl
            | true => exact absurd rfl (hk q _ rfl _)
          rw [fl]
          refine PySem.W.kat_one _ _ ?_
          exact (rc_lt I (n + 1) _ _ t A _ _ _ _ h0 rd re vd ve (by omega)) X.prog X.w _ (PySem.W.BoolBack Q) hq
        · cases h
    · cases h
theorem rep_ref (I : Inv X pins σ H s) {a : Addr} {ds es : List D} (r : Rep X.K S w H (.ref a) (.tup ds)) (q : Rep X.K S w H (.ref a) (.tup es)) : ∃ xs, RepL X.K S w H xs ds ∧ RepL X.K S w H xs es := by
  obtain ⟨b, xs, e1, h1, r1⟩ := r.tup_inv
  obtain ⟨c, ys, e2, h2, r2⟩ := q.tup_inv
  cases e1; cases e2
  have := I.tuple_inj h1 h2
  subst this
  exact ⟨xs, r1, r2⟩
mutual
theorem rep_uniq (I : Inv X pins σ H s) : ∀ (d e : D) {x : V}, sameD d d = true → sameD e e = true → Rep X.K S w H x d → Rep X.K S w H x e → d = e
  | .int i, e, x, _, h2, r, q => by
    have := r.int_inv
    subst this
    cases q
    rfl
  | .str i, e, x, _, h2, r, q => by
    have := r.str_inv
    subst this
    cases q
    rfl
  | .tup ds, e, x, h1, h2, r, q => by
    obtain ⟨a, xs, rfl, _, _⟩ := r.tup_inv
    cases e with
    | tup es =>
      obtain ⟨zs, r1, r2⟩ := rep_ref I r q
      rw [repL_uniq I ds es (by simpa [sameD] using h1) (by simpa [sameD] using h2) r1 r2]
    | _ => first | (simp [sameD] at h2; done) | (cases q; done)
  | .non, _, _, h, _, _, _ => by simp [sameD] at h
  | .bl _, _, _, h, _, _, _ => by simp [sameD] at h
  | .lst _, _, _, h, _, _, _ => by simp [sameD] at h
  | .dct _, _, _, h, _, _, _ => by simp [sameD] at h
  | .scr _, _, _, h, _, _, _ => by simp [sameD] at h
  | .loc _, _, _, h, _, _, _ => by simp [sameD] at h
  | .fn _, _, _, h, _, _, _ => by simp [sameD] at h
  | .key _, _, _, h, _, _, _ => by simp [sameD] at h
theorem repL_uniq (I : Inv X pins σ H s) : ∀ (ds es : List D) {xs : List V}, sameL ds ds = true → sameL es es = true → RepL X.K S w H xs ds → RepL X.K S w H xs es → ds = es
  | [], es, _, _, _, .nil, q => by cases q; rfl
  | d :: ds, es, _, h1, h2, .cons r rr, q => by
    cases q with
    | cons q qq =>
      simp only [sameL, Bool.and_eq_true] at h1 h2
      rw [rep_uniq I d _ h1.1 h2.1 r q, repL_uniq I ds _ h1.2 h2.2 rr qq]
end
/-- a value that is such data -/
def IsOf (K : PySem.W.Frag) (S : Sx) (w : Wd) (H : Hp) (v : Value) (d : D) : Prop := ∃ x, Rep K S w H x d ∧ RelV x v
open Classical in
noncomputable def kOf (K : PySem.W.Frag) (S : Sx) (w : Wd) (H : Hp) (ds : List D) (v : Value) : D := if h : ∃ d, d ∈ ds ∧ IsOf K S w H v d then Classical.choose h else .non
theorem kOf_is (I : Inv X pins σ H s) {ds : List D} {v : Value} {d : D} (hs : ∀ e ∈ ds, sameD e e = true) (hd : d ∈ ds) (h : IsOf X.K S w H v d) : kOf X.K S w H ds v = d := by
  have hx : ∃ d, d ∈ ds ∧ IsOf X.K S w H v d := ⟨d, hd, h⟩
  unfold kOf
  rw [dif_pos hx]
  obtain ⟨h1, x, h2, h3⟩ := Classical.choose_spec hx
  obtain ⟨y, h4, h5⟩ := h
  have := h3.inj h5
  subst this
  exact rep_uniq I _ _ (hs _ h1) (hs _ hd) h2 h4
theorem kOf_map (I : Inv X pins σ H s) {full : List D} (hs : ∀ e ∈ full, sameD e e = true) : ∀ {xs : List V} {ds : List D} {its : List Value}, RepL X.K S w H xs ds → Vals xs its → (∀ d ∈ ds, d ∈ full) →
    its.map (kOf X.K S w H full) = ds ∧ ∀ v ∈ its, IsOf X.K S w H v (kOf X.K S w H full v)
  | _, _, _, .nil, .nil, _ => ⟨rfl, fun v h => by cases h⟩
  | _, _, _, .cons r rr, .cons v vv, hf => by
    obtain ⟨h1, h2⟩ := kOf_map I hs rr vv fun d m => hf d (List.mem_cons_of_mem _ m)
    have e := kOf_is I hs (hf _ List.mem_cons_self) ⟨_, r, v⟩
    refine ⟨by rw [List.map_cons, e, h1], fun u hu => ?_⟩
    rcases List.mem_cons.mp hu with z | z
    · subst z
      rw [e]
      exact ⟨_, r, v⟩
    · exact h2 u z
theorem repL_of {k : Value → D} : ∀ {out : List Value}, (∀ v ∈ out, IsOf X.K S w H v (k v)) → ∃ xs, Vals xs out ∧ RepL X.K S w H xs (out.map k)
  | [], _ => ⟨[], .nil, .nil⟩
  | v :: out, h => by
    obtain ⟨xs, h1, h2⟩ := repL_of (out := out) fun u m => h u (List.mem_cons_of_mem _ m)
    obtain ⟨x, h3, h4⟩ := h v List.mem_cons_self
    exact ⟨x :: xs, .cons h4 h1, .cons h3 h2⟩
/-- the kind is found, and two of them compare by rank -/
theorem headK_int {d : D} (h : headK d = 1) : ∃ i, d = .int i := by
  unfold headK at h
  split at h <;> first | exact ⟨_, rfl⟩ | cases h
theorem headK_tup {d : D} (h0 : headK d ≠ 0) (h1 : headK d ≠ 1) : ∃ f r, d = .tup (f :: r) ∧ (headK d = 3 → ∃ i, f = .int i) ∧ (headK d = 4 → ∃ i, f = .str i) ∧ (headK d = 5 → ∃ l, f = .tup l) ∧ (headK d = 3 ∨ headK d = 4 ∨ headK d = 5) := by
  unfold headK at h0 h1 ⊢
  split at h0
  · exact absurd rfl h1
  · exact ⟨_, _, rfl, fun _ => ⟨_, rfl⟩, (fun z => by cases z), (fun z => by cases z), .inl rfl⟩
  · exact ⟨_, _, rfl, (fun z => by cases z), fun _ => ⟨_, rfl⟩, (fun z => by cases z), .inr (.inl rfl)⟩
  · exact ⟨_, _, rfl, (fun z => by cases z), (fun z => by cases z), fun _ => ⟨_, rfl⟩, .inr (.inr rfl)⟩
  · exact absurd rfl h0
theorem ints_of {its : List Value} (h : ∀ v, v ∈ its → ∃ i, IsOf X.K S w H v (.int i)) : ∃ ns, IntsAre its ns := by
  induction its with
  | nil => exact ⟨[], .nil⟩
  | cons v r ih =>
    obtain ⟨ns, h1⟩ := ih fun u m => h u (List.mem_cons_of_mem _ m)
    obtain ⟨i, x, h2, h3⟩ := h v List.mem_cons_self
    have := h2.int_inv
    subst this
    obtain ⟨t, rfl⟩ := h3
    exact ⟨i :: ns, .cons i t h1⟩
theorem tups_of {its : List Value} {P : D → Prop} (I : Inv X pins σ H s) (h : ∀ v, v ∈ its → ∃ f r, IsOf X.K S w H v (.tup (f :: r)) ∧ P f) : ∃ fs, PySem.W.KatTups s.heap its fs ∧ fs.length = its.length ∧ ∀ u ∈ fs, ∃ f, IsOf X.K S w H u f ∧ P f := by
  induction its with
  | nil => exact ⟨[], .nil, rfl, fun u m => by cases m⟩
  | cons v r ih =>
    obtain ⟨fs, h1, h2, h3⟩ := ih fun u m => h u (List.mem_cons_of_mem _ m)
    obtain ⟨f, r', ⟨x, h4, h5⟩, hp⟩ := h v List.mem_cons_self
    obtain ⟨a, xs, rfl, h6, h7⟩ := h4.tup_inv
    cases h5
    obtain ⟨its2, v2, ⟨o, ho, hc, n, hd⟩, _⟩ := I.tuple h6
    cases h7 with
    | cons q qq =>
      cases v2 with
      | cons y yy =>
        rename_i u us
        refine ⟨u :: fs, .cons ho hc hd (by simp) h1, by simp [h2], fun z m => ?_⟩
        rcases List.mem_cons.mp m with e | m
        · subst e
          exact ⟨f, ⟨_, q, y⟩, hp⟩
        · exact h3 z m
theorem typ_tup (I : Inv X pins σ H s) {u : Value} {l : List D} (h : IsOf X.K S w H u (.tup l)) {M : Model} : PySem.W.Looks M s.heap (typeOf u) (.type "tuple") := by
  obtain ⟨x, h1, h2⟩ := h
  obtain ⟨a, xs, rfl, h3, _⟩ := h1.tup_inv
  cases h2
  obtain ⟨its, _, ⟨o, ho, hc, _⟩, _⟩ := I.tuple h3
  exact hc ▸ (PySem.W.Looks.ld ho).andThen .now
theorem typ_int {u : Value} {i : Int} (h : IsOf X.K S w H u (.int i)) {M : Model} : PySem.W.Looks M s.heap (typeOf u) (.type "int") := by
  obtain ⟨x, h1, h2⟩ := h
  have := h1.int_inv
  subst this
  obtain ⟨t, rfl⟩ := h2
  exact .now
theorem typ_str {u : Value} {i : Str} (h : IsOf X.K S w H u (.str i)) {M : Model} : PySem.W.Looks M s.heap (typeOf u) (.type "str") := by
  obtain ⟨x, h1, h2⟩ := h
  have := h1.str_inv
  subst this
  obtain ⟨t, rfl⟩ := h2
  exact .now
/-- two values that are such tuples compare as the data say -/
theorem keyLt_tup (I : Inv X pins σ H s) {A : Around} (b : Bool) (hu : A.units + 80 < cLine) {v u : Value} {d e : D} {t : Bool} (hv : IsOf X.K S w H v d) (hw : IsOf X.K S w H u e) (ht : ltD d e = some t)
    (hd : ∃ f r, d = .tup (f :: r) ∧ (b = true → ∀ l, f ≠ .tup l)) (he : ∃ r, e = .tup r) {Q : Bool → Shared → Prop} {E : Value → Shared → Prop} (hq : Q t s) : wpAny (model X.prog X.w) A (keyLt' (tuples' b) v u) Q E s := by
  obtain ⟨f, r, rfl, hf⟩ := hd
  obtain ⟨r2, rfl⟩ := he
  obtain ⟨x, h1, h2⟩ := hv
  obtain ⟨y, h3, h4⟩ := hw
  obtain ⟨p, xs, rfl, h5, h6⟩ := h1.tup_inv
  obtain ⟨q, ys, rfl, h7, h8⟩ := h3.tup_inv
  cases h2
  cases h4
  obtain ⟨its, v1, ⟨o1, ho1, hc1, n1, hd1⟩, _⟩ := I.tuple h5
  obtain ⟨its2, v2, ⟨o2, ho2, hc2, n2, hd2⟩, _⟩ := I.tuple h7
  refine PySem.W.kat_lt ho1 hd1 ho2 hd2 ?_
  have ht : ltL (ltN 5) (f :: r) r2 = some t := ht
  refine kat_rep I 5 b (by omega) 0 (f :: r) r2 xs ys its its2 t _ ht h6 h8 v1 v2 ?_ (fun z d hd l => ?_) hq
  · have l1 := v1.length.symm.trans h6.length
    have l2 := v2.length.symm.trans h8.length
    rw [List.size_toArray, List.size_toArray, l1, l2]
  · cases hd
    refine hf ?_ l
    cases b with
    | true => rfl
    | false => cases z
theorem keyKind_ints2 {vs : List Value} {ns : List Int} (h2 : 2 ≤ vs.length) (hI : IntsAre vs ns) : keyKind' vs.toArray = pure oneType' := by
  match vs, h2, hI with
  | v1 :: v2 :: r, _, hI => exact keyKind_ints hI
/-- the kind of the items is found, and two of them compare as said -/
theorem sortable_rep (I : Inv X pins σ H s) {A : Around} (hu : A.units + 80 < cLine) {its : List Value} {kk : Value → D} {c : Nat} {ltv : Value → Value → Bool} (h2 : 2 ≤ its.length) (ki : ∀ v ∈ its, IsOf X.K S w H v (kk v)) (h0 : c ≠ 0) (hk : ∀ v ∈ its, headK (kk v) = c)
    (cmp : ∀ v u, v ∈ its → u ∈ its → ltD (kk v) (kk u) = some (ltv v u)) :
    ∃ κ, (∀ (Q : SortKind → Shared → Prop) (E : Value → Shared → Prop), Q κ s → wpAny (model X.prog X.w) A (keyKind' its.toArray) Q E s) ∧ SrtO.Cmp X.prog X.w A s κ (fun p => p.1 ∈ its) (SrtO.lt2 ltv) := by
  by_cases hi : c = 1
  · obtain ⟨ns, hns⟩ := ints_of (X := X) (S := S) (H := H) (w := w) (its := its) fun v hv => by
      obtain ⟨i, e⟩ := headK_int ((hk v hv).trans hi)
      exact ⟨i, e ▸ ki v hv⟩
    refine ⟨oneType', fun Q E hq => ?_, fun p q hp hq => ?_⟩
    · rw [keyKind_ints2 h2 hns]
      exact wpAny_pure hq
    · have c := cmp p.1 q.1 hp hq
      obtain ⟨i, e1⟩ := headK_int ((hk _ hp).trans hi)
      obtain ⟨j, e2⟩ := headK_int ((hk _ hq).trans hi)
      obtain ⟨y1, g1, g2⟩ := ki _ hp
      obtain ⟨y2, g3, g4⟩ := ki _ hq
      rw [keyLt'_oneType]
      show wpAny _ _ (oneLt' true p.1 q.1) (fun r s' => s' = s ∧ r = ltv p.1 q.1) _ _
      rw [e1, e2] at c
      rw [e1] at g1
      rw [e2] at g3
      have := g1.int_inv
      subst this
      have := g3.int_inv
      subst this
      obtain ⟨t1, f1⟩ := g2
      obtain ⟨t2, f2⟩ := g4
      rw [f1, f2] at c ⊢
      exact oneLt_int ⟨rfl, Option.some.inj c⟩
  · have tup : ∀ v ∈ its, ∃ f r, kk v = .tup (f :: r) ∧ (c = 3 → ∃ i, f = .int i) ∧ (c = 4 → ∃ i, f = .str i) ∧ (c = 5 → ∃ l, f = .tup l) ∧ (c = 3 ∨ c = 4 ∨ c = 5) := fun v hv => by
      have q := headK_tup (d := kk v) (by rw [hk v hv]; exact h0) (by rw [hk v hv]; exact hi)
      rw [hk v hv] at q
      exact q
    have kind : ∀ (b : Bool), (∃ P : D → Prop, (∀ v ∈ its, ∃ f r, kk v = .tup (f :: r) ∧ P f) ∧ (∀ f, P f → b = true → ∀ l, f ≠ .tup l) ∧ ∃ T : Value, (T == T) = true ∧ (T != Value.type "tuple") = b ∧
        ∀ (M : Model) u f, P f → IsOf X.K S w H u f → PySem.W.Looks M s.heap (typeOf u) T) →
        ∃ κ, (∀ (Q : SortKind → Shared → Prop) (E : Value → Shared → Prop), Q κ s → wpAny (model X.prog X.w) A (keyKind' its.toArray) Q E s) ∧ SrtO.Cmp X.prog X.w A s κ (fun p => p.1 ∈ its) (SrtO.lt2 ltv) := by
      rintro b ⟨P, hP, hb, T, hT, hTb, hTy⟩
      refine ⟨tuples' b, fun Q E hq => ?_, fun p q hp hq => ?_⟩
      · obtain ⟨fs, f1, f2, f3⟩ := tups_of (its := its) (P := P) I fun v hv => by
          obtain ⟨f, r, e, hp⟩ := hP v hv
          exact ⟨f, r, e ▸ ki v hv, hp⟩
        refine PySem.W.kat_kind (T := T) f1 (by omega) (fun u hu' => ?_) hT ?_
        · obtain ⟨f, g1, g2⟩ := f3 u hu'
          exact hTy _ u f g2 g1
        · rw [hTb]; exact hq
      · obtain ⟨f, r, e1, g1⟩ := hP _ hp
        obtain ⟨f', r', e2, g2⟩ := hP _ hq
        exact keyLt_tup I (S := S) (w := w) (A := A) b hu (ki _ hp) (ki _ hq) (cmp _ _ hp hq) ⟨f, r, e1, fun z => hb f g1 z⟩ ⟨_, e2⟩ ⟨rfl, rfl⟩
    have any1 : ∃ v, v ∈ its := by
      match its, h2 with
      | v :: _, _ => exact ⟨v, List.mem_cons_self⟩
    obtain ⟨v0, hv0⟩ := any1
    obtain ⟨_, _, _, _, _, _, hcase⟩ := tup v0 hv0
    rcases hcase with hc | hc | hc
    · refine kind true ⟨fun f => ∃ i, f = .int i, fun v hv => ?_, fun f hf _ l e => ?_, .type "int", by rfl, by decide, fun M u f hf hu' => ?_⟩
      · obtain ⟨f, r, e, q, _⟩ := tup v hv
        exact ⟨f, r, e, q hc⟩
      · obtain ⟨i, rfl⟩ := hf; cases e
      · obtain ⟨i, rfl⟩ := hf; exact typ_int hu'
    · refine kind true ⟨fun f => ∃ i, f = .str i, fun v hv => ?_, fun f hf _ l e => ?_, .type "str", by rfl, by decide, fun M u f hf hu' => ?_⟩
      · obtain ⟨f, r, e, _, q, _⟩ := tup v hv
        exact ⟨f, r, e, q hc⟩
      · obtain ⟨i, rfl⟩ := hf; cases e
      · obtain ⟨i, rfl⟩ := hf; exact typ_str hu'
    · refine kind false ⟨fun f => ∃ i, f = .tup i, fun v hv => ?_, (fun f hf z => by cases z), .type "tuple", by rfl, by decide, fun M u f hf hu' => ?_⟩
      · obtain ⟨f, r, e, _, _, q, _⟩ := tup v hv
        exact ⟨f, r, e, q hc⟩
      · obtain ⟨i, rfl⟩ := hf; exact typ_tup I hu'
def rSrtD (K : PySem.W.Frag) (S : Sx) : List V → Hp → VK → Prop := fun vs H Q => ∃ w M d ds ds' x, vs = [x] ∧ RelM K S w H M ∧ Rep K S w H x d ∧ asLT M d = some ds ∧ sortD ds = some ds' ∧ Fol K S w H Q M (.lst ds')
theorem call_srtD (hu : X.A.units + 90 < cLine) : CallR X (.builtin "sorted") (rSrtD X.K S) := by
  intro pins s σ H vs us Q I r ⟨w, M, d, ds, ds', x, e, m, rx, hl, hs, k⟩
  subst e
  obtain ⟨u, rfl, ru⟩ := vals1 r
  obtain ⟨a, xs, rfl, hA, rl⟩ := rx.asLT m hl
  cases ru
  unfold sortD at hs
  have hk : kindOk ds = true := by
    cases q : kindOk ds with
    | true => rfl
    | false => rw [q] at hs; simp at hs
  rw [if_pos hk] at hs
  cases hq : sortU ds with
  | none => rw [hq] at hs; cases hs
  | some l' =>
  rw [hq] at hs
  have hs : (if okAll l' = true then some l' else none) = some ds' := hs
  have ho : okAll l' = true := by
    cases q : okAll l' with
    | true => rfl
    | false => rw [q] at hs; simp at hs
  rw [if_pos ho] at hs
  cases hs
  have pm := sortU_perm hq
  obtain ⟨its, rv, hlist, hz⟩ : ∃ its : List Value, Vals xs its ∧ (s.heap.IsList a its.toArray ∨ IsTup s.heap a its.toArray) ∧ xs.length ≤ sizeLine := by
    rcases hA with h | h
    · obtain ⟨its, h1, h2, h3⟩ := I.list (.of h)
      exact ⟨its, h1, .inl h2.isList, h3⟩
    · obtain ⟨its, h1, h2, h3⟩ := I.tuple h
      exact ⟨its, h1, .inr h2, h3⟩
  have same : ∀ e ∈ ds, sameD e e = true := fun e he => (okAll_self ho e (pm.mem_iff.mpr he)).1
  obtain ⟨km, ki⟩ := kOf_map I same rl rv fun d m => m
  generalize hkk : kOf X.K S w H ds = kk at km ki
  have kmem : ∀ v ∈ its, kk v ∈ ds := fun v hv => by rw [← km]; exact List.mem_map.mpr ⟨v, hv, rfl⟩
  have hlen : its.length = ds.length := by rw [← km, List.length_map]
  refine sorted_seq (ltv := fun v u => decide (rk ds' (kk v) < rk ds' (kk u))) ⟨fun v u h => ?_, fun v u z h1 h2 => ?_⟩ hlist (by rw [← rv.length]; exact hz) (fun h2 h₁ b hb kp => ?_) fun out o1 o2 => ?_
  · have := of_decide_eq_true h
    exact decide_eq_false (by omega)
  · have := of_decide_eq_false h1
    have := of_decide_eq_false h2
    exact decide_eq_false (by omega)
  · -- the kind and the comparisons
    intro h' keep
    have I' : Inv X pins σ H { s with heap := h', toks := s.toks } := I.kept fun c o ec => keep c o (kp c o ec).1 (kp c o ec).2
    obtain ⟨x1, hx1, hxk⟩ : ∃ x1, headK x1 ≠ 0 ∧ ∀ z ∈ ds, headK z = headK x1 := by
      match ds, hk, hlen with
      | [], _, hlen => exact absurd h2 (by rw [hlen]; decide)
      | [_], _, hlen => exact absurd h2 (by rw [hlen]; show ¬ 2 ≤ 1; decide)
      | x1 :: x2 :: dr, hk, _ =>
        have hk : (headK x1 != 0 && (x2 :: dr).all (fun z => headK z == headK x1)) = true := hk
        rw [Bool.and_eq_true] at hk
        refine ⟨x1, by simpa using hk.1, fun z hz' => ?_⟩
        rcases List.mem_cons.mp hz' with e | e
        · rw [e]
        · simpa using List.all_eq_true.mp hk.2 z e
    exact sortable_rep I' (show X.A.units + 1 + 1 + 80 < cLine by omega) h2 ki hx1 (fun v hv => hxk _ (kmem v hv)) fun v u hv hu' => rk_lt ho (pm.mem_iff.mpr (kmem v hv)) (pm.mem_iff.mpr (kmem u hu'))
  · -- the new list
    have hout : ∀ v ∈ out, v ∈ its := fun v hv => o2.perm.mem_iff.mp hv
    obtain ⟨xs', w1, w2⟩ := repL_of (X := X) (S := S) (H := H) (w := w) (k := kk) (out := out) fun v hv => ki v (hout v hv)
    have ek : out.map kk = ds' := sortD_uniq ho pm (by rw [← km]; exact o2.perm.map kk) (by
      rw [List.pairwise_map]
      exact o1.imp fun h => by have := of_decide_eq_false h; omega)
    rw [ek] at w2
    obtain ⟨nn, hn⟩ := sortedAll_at s.heap its out.toArray
    have hd : s.heap.objs.size ≤ s.heap.objs.size + 1 := Nat.le_succ _
    have hp := I.hok.fresh hd
    refine ⟨.ref _, upd H (s.heap.objs.size + 1) (.lst xs'), I.laid (t' := s.toks) (fun b o e => sortedAll_old e) hd ⟨?_, out, nn, w1, hn⟩, rfl, Fol.lst k m w2 hp⟩
    rw [w1.length, o2.perm.length_eq, ← rv.length]
    exact hz
end
end CB
end
section
set_option maxHeartbeats 1000000
/-! CB10: built-in functions, methods. -/
namespace CB
open PySem PySem.Spec L2
open PyProof.Rows hiding St
section
variable {X : Cx} {S : Sx}
theorem _root_.L2.CallR.imp {f : Value} {r r' : List V → Hp → VK → Prop} (h : CallR X f r) (q : ∀ vs H Q, r' vs H Q → r vs H Q) : CallR X f r' := fun pins s σ H xs us Q I rv z => h pins s σ H xs us Q I rv (q _ _ _ z)
/-- a built-in by the interpreter -/
def RB (K : PySem.W.Frag) (S : Sx) (g : Mem → List D → Option D) : List V → Hp → VK → Prop := fun vs H Q => ∃ w M ds, RelM K S w H M ∧ RepL K S w H vs ds ∧ Ans K S w H Q M (g M ds)
section
variable {K : PySem.W.Frag} {w : Wd} {H : Hp} {M : Mem}
theorem repL_one {vs : List V} {d : D} (r : RepL K S w H vs [d]) : ∃ v, vs = [v] ∧ Rep K S w H v d := by
  cases r with
  | cons h r => cases r; exact ⟨_, rfl, h⟩
theorem repL_two {vs : List V} {d e : D} (r : RepL K S w H vs [d, e]) : ∃ v u, vs = [v, u] ∧ Rep K S w H v d ∧ Rep K S w H u e := by
  cases r with
  | cons h r =>
    obtain ⟨u, rfl, q⟩ := repL_one r
    exact ⟨_, _, rfl, h, q⟩
theorem repL_bools : ∀ {ds : List D} {vs : List V} {bs : List Bool}, dBools ds = some bs → RepL K S w H vs ds → vs = bs.map V.bl
  | [], _, _, e, .nil => by cases e; rfl
  | d :: ds, _, bs, e, .cons h r => by
    unfold dBools at e
    split at e
    · rename_i hd
      cases hd
    · rename_i b l hd
      injection hd with h1 h2
      subst h1 h2
      cases q : dBools ds with
      | none => rw [q] at e; cases e
      | some l' =>
        rw [q] at e
        cases e
        rw [repL_bools q r, h.bl_inv]
        rfl
    · cases e
theorem repL_dInts : ∀ {ds : List D} {vs : List V} {bs : List Int}, dInts ds = some bs → RepL K S w H vs ds → vs = bs.map V.int
  | [], _, _, e, .nil => by cases e; rfl
  | d :: ds, _, bs, e, .cons h r => by
    unfold dInts at e
    split at e
    · rename_i hd
      cases hd
    · rename_i b l hd
      injection hd with h1 h2
      subst h1 h2
      cases q : dInts ds with
      | none => rw [q] at e; cases e
      | some l' =>
        rw [q] at e
        cases e
        rw [repL_dInts q r, h.int_inv]
        rfl
    · cases e
theorem repL_dStrs : ∀ {ds : List D} {vs : List V} {bs : List Str}, dStrs ds = some bs → RepL K S w H vs ds → vs = bs.map V.str
  | [], _, _, e, .nil => by cases e; rfl
  | d :: ds, _, bs, e, .cons h r => by
    unfold dStrs at e
    split at e
    · rename_i hd
      cases hd
    · rename_i b l hd
      injection hd with h1 h2
      subst h1 h2
      cases q : dStrs ds with
      | none => rw [q] at e; cases e
      | some l' =>
        rw [q] at e
        cases e
        rw [repL_dStrs q r, h.str_inv]
        rfl
    · cases e
theorem minI_spec : ∀ {ns : List Int} {m : Int}, minI ns = some m → ∀ k, k ∈ ns → (∀ y, y ∈ ns → k ≤ y) → k = m
  | [], m, h, k, hk, _ => by cases hk
  | x :: r, m, h, k, hk, hl => by
    unfold minI at h
    cases h
    have a : ∀ (l : List Int) (x : Int), l.foldl min x ≤ x ∧ (∀ y ∈ l, l.foldl min x ≤ y) ∧ (l.foldl min x = x ∨ l.foldl min x ∈ l) := by
      intro l
      induction l with
      | nil => intro x; exact ⟨Int.le_refl _, (fun y hy => by cases hy), .inl rfl⟩
      | cons z l ih =>
        intro x
        obtain ⟨h1, h2, h3⟩ := ih (min x z)
        simp only [List.foldl_cons]
        refine ⟨by omega, fun y hy => ?_, ?_⟩
        · rcases List.mem_cons.mp hy with e | hy
          · subst e; omega
          · exact h2 y hy
        · rcases h3 with e | e
          · by_cases q : x ≤ z
            · left; omega
            · right; rw [e]; have : min x z = z := by omega
              rw [this]; exact List.mem_cons_self
          · exact .inr (List.mem_cons_of_mem _ e)
    obtain ⟨h1, h2, h3⟩ := a r x
    have u1 : List.foldl min x r ≤ k := by
      rcases List.mem_cons.mp hk with e | e
      · omega
      · exact h2 k e
    have u2 : k ≤ List.foldl min x r := by
      rcases h3 with e | e
      · rw [e]; exact hl x List.mem_cons_self
      · exact hl _ (List.mem_cons_of_mem _ e)
    omega
end
theorem call_lenB : CallR X (.builtin "len") (RB X.K S fun M => callB M .len) := by
  intro pins s σ H vs us Q I rv ⟨w, M, ds, m, r, k⟩
  have k : Ans X.K S w H Q M (callB M .len ds) := k
  match ds, k with
  | [d], k =>
    obtain ⟨v, rfl, rd⟩ := repL_one r
    simp only [callB] at k
    cases q : lenD M d with
    | none => rw [q] at k; exact k.non.elim
    | some n =>
      rw [q] at k
      have kq : Q (.int (n : Int)) H := Fol.here k.fol m (.int _)
      unfold lenD at q
      split at q
      · cases q
        obtain ⟨a, xs, rfl, h, rl⟩ := rd.tup_inv
        exact call_len_seq pins s σ H _ us Q I rv ⟨a, xs, rfl, .inr h, by rw [rl.length]; exact kq⟩
      · cases q
        obtain ⟨a, xs, rfl, h, rl⟩ := rd.lst_inv
        exact call_len_seq pins s σ H _ us Q I rv ⟨a, xs, rfl, .inl (.of h), by rw [rl.length]; exact kq⟩
      · cases q
        cases rd with
        | scr z h => exact call_len_seq pins s σ H _ us Q I rv ⟨_, _, rfl, .inl (.inl h), by rw [List.length_map]; exact kq⟩
        | kscr h => exact call_len_seq pins s σ H _ us Q I rv ⟨_, _, rfl, .inl (h _), by rw [List.length_map]; exact kq⟩
      · split at q
        · cases q
          have := rd.str_inv
          subst this
          rename_i h
          exact call_len_str pins s σ H _ us Q I rv ⟨_, rfl, by rw [← RelM.line]; exact h, kq⟩
        · cases q
      · split at q
        · rename_i l hM
          cases q
          obtain ⟨a, rfl, h1, h2⟩ := m.loc hM rd
          cases h2 with
          | lst h rl => exact call_len_seq pins s σ H _ us Q I rv ⟨a, _, rfl, .inl (.of h), by rw [rl.length]; exact kq⟩
        · cases q
      · cases q
  | [], k => exact k.non.elim
  | _ :: _ :: _, k => exact k.non.elim
theorem one_arg {w : Wd} {H : Hp} {M : Mem} {Q : VK} {o : OB} {vs : List V} {ds : List D} (ho : ∀ M d e r, callB M o (d :: e :: r) = none) (hn : ∀ M, callB M o [] = none) (r : RepL X.K S w H vs ds) (k : Ans X.K S w H Q M (callB M o ds)) :
    ∃ d v, ds = [d] ∧ vs = [v] ∧ Rep X.K S w H v d ∧ Ans X.K S w H Q M (callB M o [d]) := by
  match ds, r, k with
  | [d], r, k =>
    obtain ⟨v, rfl, rd⟩ := repL_one r
    exact ⟨d, v, rfl, rfl, rd, k⟩
  | [], _, k => rw [hn] at k; exact k.non.elim
  | _ :: _ :: _, _, k => rw [ho] at k; exact k.non.elim
theorem Ans.bnd {α : Type} {w : Wd} {H : Hp} {M : Mem} {Q : VK} {o : Option α} {f : α → Option D} {K : PySem.W.Frag} (k : Ans K S w H Q M (o.bind f)) : ∃ a, o = some a ∧ Ans K S w H Q M (f a) := by
  cases o with
  | none => exact k.non.elim
  | some a => exact ⟨a, rfl, k⟩
theorem Ans.mp {α : Type} {w : Wd} {H : Hp} {M : Mem} {Q : VK} {o : Option α} {f : α → D} {K : PySem.W.Frag} (k : Ans K S w H Q M (o.map f)) : ∃ a, o = some a ∧ Fol K S w H Q M (f a) := by
  cases o with
  | none => exact k.non.elim
  | some a => exact ⟨a, rfl, k.fol⟩
theorem call_allB (hc : X.calm = true) : CallR X (.builtin "all") (RB X.K S fun M => callB M .all) := by
  intro pins s σ H vs us Q I rv ⟨w, M, ds, m, r, k⟩
  obtain ⟨d, v, rfl, rfl, rd, k⟩ := one_arg (fun _ _ _ _ => rfl) (fun _ => rfl) r k
  obtain ⟨l, h1, k⟩ := Ans.bnd k
  obtain ⟨bs, h2, k⟩ := Ans.mp k
  obtain ⟨a, xs, rfl, h3, h4⟩ := rd.asL m h1
  have := repL_bools h2 h4
  subst this
  exact cr_all hc pins s σ H _ us Q I rv ⟨a, bs, rfl, .of h3, k.here m (.bl _)⟩
theorem call_anyB (hc : X.calm = true) : CallR X (.builtin "any") (RB X.K S fun M => callB M .any) := by
  intro pins s σ H vs us Q I rv ⟨w, M, ds, m, r, k⟩
  obtain ⟨d, v, rfl, rfl, rd, k⟩ := one_arg (fun _ _ _ _ => rfl) (fun _ => rfl) r k
  obtain ⟨l, h1, k⟩ := Ans.bnd k
  obtain ⟨bs, h2, k⟩ := Ans.mp k
  obtain ⟨a, xs, rfl, h3, h4⟩ := rd.asL m h1
  have := repL_bools h2 h4
  subst this
  exact cr_any hc pins s σ H _ us Q I rv ⟨a, bs, rfl, .of h3, k.here m (.bl _)⟩
theorem call_sumB (hc : X.calm = true) : CallR X (.builtin "sum") (RB X.K S fun M => callB M .sum) := by
  intro pins s σ H vs us Q I rv ⟨w, M, ds, m, r, k⟩
  obtain ⟨d, v, rfl, rfl, rd, k⟩ := one_arg (fun _ _ _ _ => rfl) (fun _ => rfl) r k
  obtain ⟨l, h1, k⟩ := Ans.bnd k
  obtain ⟨bs, h2, k⟩ := Ans.mp k
  obtain ⟨a, xs, rfl, h3, h4⟩ := rd.asL m h1
  have := repL_dInts h2 h4
  subst this
  exact cr_sum hc pins s σ H _ us Q I rv ⟨a, bs, rfl, .of h3, k.here m (.int _)⟩
theorem call_minB (hc : X.calm = true) : CallR X (.builtin "min") (RB X.K S fun M => callB M .min) := by
  intro pins s σ H vs us Q I rv ⟨w, M, ds, m, r, k⟩
  obtain ⟨d, v, rfl, rfl, rd, k⟩ := one_arg (fun _ _ _ _ => rfl) (fun _ => rfl) r k
  obtain ⟨l, h1, k⟩ := Ans.bnd k
  obtain ⟨bs, h2, k⟩ := Ans.bnd k
  obtain ⟨mn, h5, k⟩ := Ans.mp k
  obtain ⟨a, xs, rfl, h3, h4⟩ := rd.asL m h1
  have := repL_dInts h2 h4
  subst this
  refine cr_min hc pins s σ H _ us Q I rv ⟨a, bs, rfl, .of h3, ?_, fun z hz hl => ?_⟩
  · cases bs with
    | nil => cases h5
    | cons x r => simp
  · rw [minI_spec h5 z hz hl]
    exact k.here m (.int _)
theorem call_tupleB : CallR X (.type "tuple") (RB X.K S fun M => callB M .tuple) := by
  intro pins s σ H vs us Q I rv ⟨w, M, ds, m, r, k⟩
  obtain ⟨d, v, rfl, rfl, rd, k⟩ := one_arg (fun _ _ _ _ => rfl) (fun _ => rfl) r k
  obtain ⟨l, h1, k2⟩ := Ans.mp k
  have h0 := h1
  unfold asLT at h1
  split at h1
  · cases h1
    obtain ⟨a, xs, rfl, h3, h4⟩ := rd.lst_inv
    exact call_tupF pins s σ H _ us Q I rv ⟨a, xs, rfl, .inl ⟨.of h3, fun p o hp ho => k2.tup m h4 hp ho⟩⟩
  · cases h1
    obtain ⟨a, xs, rfl, h3, h4⟩ := rd.tup_inv
    exact call_tupF pins s σ H _ us Q I rv ⟨a, xs, rfl, .inr ⟨h3, k2.here m rd⟩⟩
  · split at h1
    · rename_i l' hM
      cases h1
      obtain ⟨a, rfl, h3, h4⟩ := m.loc hM rd
      cases h4 with
      | lst h rl => exact call_tupF pins s σ H _ us Q I rv ⟨a, _, rfl, .inl ⟨.of h, fun p o hp ho => k2.tup m rl hp ho⟩⟩
    · cases h1
  · cases h1
theorem call_listB : CallR X (.type "list") (RB X.K S fun M => callB M .list) := by
  intro pins s σ H vs us Q I rv ⟨w, M, ds, m, r, k⟩
  obtain ⟨d, v, rfl, rfl, rd, k⟩ := one_arg (fun _ _ _ _ => rfl) (fun _ => rfl) r k
  obtain ⟨l, h1, k⟩ := Ans.mp k
  obtain ⟨a, xs, rfl, h3, h4⟩ := rd.asLT m h1
  exact call_list_of pins s σ H _ us Q I rv ⟨a, xs, rfl, h3.imp SqL.of id, fun p hp => k.lst m h4 hp⟩
theorem call_sortedB (hu : X.A.units + 90 < cLine) : CallR X (.builtin "sorted") (RB X.K S fun M => callB M .sorted) := by
  intro pins s σ H vs us Q I rv ⟨w, M, ds, m, r, k⟩
  obtain ⟨d, v, rfl, rfl, rd, k⟩ := one_arg (fun _ _ _ _ => rfl) (fun _ => rfl) r k
  obtain ⟨l, h1, k⟩ := Ans.bnd k
  obtain ⟨_, k⟩ := Ans.cnd k
  obtain ⟨l', h2, k⟩ := Ans.mp k
  exact call_srtD hu pins s σ H _ us Q I rv ⟨w, M, d, l, l', v, rfl, m, rd, h1, h2, k⟩
theorem inv_min2 {M : Mem} {ds : List D} {d : D} (h : callB M .min2 ds = some d) : ∃ a b, ds = [.int a, .int b] ∧ d = .int (if b < a then b else a) := by
  unfold callB at h
  split at h <;> simp_all
  exact ⟨_, _, ⟨rfl, rfl⟩, h.symm⟩
theorem inv_max2 {M : Mem} {ds : List D} {d : D} (h : callB M .max2 ds = some d) : ∃ a b, ds = [.int a, .int b] ∧ d = .int (if b > a then b else a) := by
  unfold callB at h
  split at h <;> simp_all
  exact ⟨_, _, ⟨rfl, rfl⟩, h.symm⟩
theorem inv_abs {M : Mem} {ds : List D} {d : D} (h : callB M .abs ds = some d) : ∃ a, ds = [.int a] ∧ d = .int (if a < 0 then -a else a) := by
  unfold callB at h
  split at h <;> simp_all
theorem inv_int {M : Mem} {ds : List D} {d : D} (h : callB M .int ds = some d) : (∃ a, ds = [.int a] ∧ d = .int a) ∨ ∃ b, ds = [.bl b] ∧ d = .int (if b then 1 else 0) := by
  unfold callB at h
  split at h <;> simp_all
  exact .inl ⟨_, h.symm⟩
theorem inv_str {M : Mem} {ds : List D} {d : D} (h : callB M .str ds = some d) : (∃ a, ds = [.int a] ∧ a.natAbs.log2 < 1920 ∧ d = .str (toString a)) ∨ ∃ b, ds = [.str b] ∧ d = .str b := by
  unfold callB at h
  split at h <;> simp_all
  exact .inr ⟨_, h.symm⟩
theorem call_min2B (hc : X.calm = true) : CallR X (.builtin "min") (RB X.K S fun M => callB M .min2) := by
  intro pins s σ H vs us Q I rv ⟨w, M, ds, m, r, d, e, k⟩
  obtain ⟨a, b, rfl, rfl⟩ := inv_min2 e
  obtain ⟨v, u, rfl, r1, r2⟩ := repL_two r
  exact call_min2 hc pins s σ H _ us Q I rv ⟨_, _, by rw [r1.int_inv, r2.int_inv], Fol.here k m (.int _)⟩
theorem call_max2B (hc : X.calm = true) : CallR X (.builtin "max") (RB X.K S fun M => callB M .max2) := by
  intro pins s σ H vs us Q I rv ⟨w, M, ds, m, r, d, e, k⟩
  obtain ⟨a, b, rfl, rfl⟩ := inv_max2 e
  obtain ⟨v, u, rfl, r1, r2⟩ := repL_two r
  exact call_max2 hc pins s σ H _ us Q I rv ⟨_, _, by rw [r1.int_inv, r2.int_inv], Fol.here k m (.int _)⟩
theorem call_absB : CallR X (.builtin "abs") (RB X.K S fun M => callB M .abs) := by
  intro pins s σ H vs us Q I rv ⟨w, M, ds, m, r, d, e, k⟩
  obtain ⟨a, rfl, rfl⟩ := inv_abs e
  obtain ⟨v, rfl, r1⟩ := repL_one r
  exact call_abs pins s σ H _ us Q I rv ⟨_, by rw [r1.int_inv], Fol.here k m (.int _)⟩
theorem call_intB : CallR X (.type "int") (RB X.K S fun M => callB M .int) := by
  intro pins s σ H vs us Q I rv ⟨w, M, ds, m, r, d, e, k⟩
  rcases inv_int e with ⟨a, rfl, rfl⟩ | ⟨a, rfl, rfl⟩
  · obtain ⟨v, rfl, r1⟩ := repL_one r
    exact call_int1 pins s σ H _ us Q I rv (.inl ⟨_, by rw [r1.int_inv], Fol.here k m (.int _)⟩)
  · obtain ⟨v, rfl, r1⟩ := repL_one r
    exact call_int1 pins s σ H _ us Q I rv (.inr ⟨_, by rw [r1.bl_inv], Fol.here k m (.int _)⟩)
theorem call_strB : CallR X (.type "str") (RB X.K S fun M => callB M .str) := by
  intro pins s σ H vs us Q I rv ⟨w, M, ds, m, r, d, e, k⟩
  rcases inv_str e with ⟨a, rfl, hl, rfl⟩ | ⟨a, rfl, rfl⟩
  · obtain ⟨v, rfl, r1⟩ := repL_one r
    exact call_str_int pins s σ H _ us Q I rv ⟨_, by rw [r1.int_inv], hl, Fol.here k m (.str _)⟩
  · obtain ⟨v, rfl, r1⟩ := repL_one r
    exact SkE.call_str_str pins s σ H _ us Q I rv ⟨_, by rw [r1.str_inv], Fol.here k m (.str _)⟩
end
end CB
end
section
set_option maxHeartbeats 1000000
/-! CB11: methods of built-in types; isinstance. -/
namespace CB
open PySem PySem.Spec L2
open PyProof.Rows hiding St
/-- a value of a built-in type whose methods may be called -/
def tyW (K : PySem.W.Frag) (T : String) (x : V) (H : Hp) : Prop := tyV K T x H ∨ ∃ p, x = .ref p ∧
  ((T = "tuple" ∧ ((∃ o xs, H p = some (.frz o (.tup xs)) ∧ o.dict = none) ∨ ∃ xs, KTup K p xs)) ∨ (T = "dict" ∧ ∃ kvs, Rd H p (.dT kvs)))
structure MOk (name : Str) (T id : String) : Prop where
  pa : PlainAttrs T
  slot : Slot T name id
  ty : typeOf (.builtin id) = pure (.type "method_descriptor")
/-- the call goes well -/
def CallGo (X : Cx) (id : String) : V → List V → Hp → VK → Prop := fun x xs H Q => ∀ (pins : List (Addr × Obj)) (s : Shared) (σ : L2.St) (v : Value) (us : List Value), Inv X pins σ H s → RelV x v → Vals xs us →
  wpAny (model X.prog X.w) X.A (call (.builtin id) (v :: us)) (EP X pins σ Q) X.xe s
section
variable {X : Cx} {S : Sx}
theorem tyW_is {pins : List (Addr × Obj)} {σ : L2.St} {H : Hp} {s : Shared} {T : String} {x : V} {v : Value} (I : Inv X pins σ H s) (r : RelV x v) (ty : tyW X.K T x H) :
    s.TypeIs v T ∧ ∀ a, v = .ref a → ∃ ob, s.heap.get? a = some ob ∧ ob.dict = none := by
  rcases ty with ty | ⟨p, rfl, ⟨rfl, h⟩ | ⟨rfl, kvs, h⟩⟩
  · exact tyV_is I r ty
  · cases r
    rcases h with ⟨o, xs, h, hn⟩ | ⟨xs, o, its, n, h1, h2, h3, _⟩
    · obtain ⟨e, _, _, _, o2, e2, hc, _⟩ := I.hok p _ h
      rw [e] at e2
      cases e2
      exact ⟨⟨o, e, hc⟩, fun a q => by cases q; exact ⟨o, e, hn⟩⟩
    · have e := I.kIn p o h1
      exact ⟨⟨o, e, h2⟩, fun a q => by cases q; exact ⟨o, e, h3⟩⟩
  · cases r
    obtain ⟨h1, h2, _⟩ := isD_at I (.inr ⟨kvs, h⟩)
    exact ⟨h1, h2⟩
/-- o.name(..) by values -/
def tMe (X : Cx) (name : Str) (to : TE) (t : TA) : TE := fun σ H Q => to σ H fun x H1 => ∃ T id, MOk name T id ∧ tyW X.K T x H1 ∧ t σ H1 fun xs H2 => CallGo X id x xs H2 Q
theorem pe_me {o e : Expr} {es : List Expr} {to : TE} {t : TA} {name : Str} {apos cpos : Pos} (ho : PE X o to) (ha : PA X (e :: es) t)
    (hbase : attributeBase o name X.env (eval o X.env) = eval o X.env)
    (hfew : ((backTo cpos (starEach (e :: es) X.env)).all (fun x => !x.1) && (backToKw cpos (keywordEach [] X.env)).all (fun x => x.1.isSome)
      && decide ((e :: es).length + ([] : List Keyword).length + (if ([] : List Keyword).isEmpty then 0 else 1) < 30)) = true)
    (hline : (apos.endLine == cpos.line) = true) (hs : starEach (e :: es) X.env = (false, eval e X.env) :: starEach es X.env) (hplain : (backTo cpos (starEach es X.env)).any (·.1) = false) :
    PE X (.Call (.Attribute o name apos) (e :: es) [] cpos) (tMe X name to t) := by
  constructor
  intro pins s σ H Q I h
  refine wpAny_Call_method_late hbase hfew hline rfl (thn (ho.run pins s σ H _ I h) fun v s1 ⟨x, H1, I1, r1, T, id, ok, ty, q1⟩ => ?_)
  obtain ⟨h1, h2⟩ := tyW_is I1 r1 ty
  refine ⟨T, id, ok.pa, ok.slot, ok.ty, h1, h2, ?_⟩
  have hA := ha.run cpos pins s1 σ H1 _ I1 q1
  rw [hs] at hA ⊢
  refine Calls.callWith_builtin (by show (false || (backTo cpos (starEach es X.env)).any (·.1)) = false; rw [hplain] <;> rfl) (Calls.evalArgs_plain ?_)
  exact thn hA fun us s2 ⟨vs, H2, I2, r2, q2⟩ => q2 pins s2 σ v us I2 r1 r2
/-! ### index, count over data -/
theorem readsAll_len {h : Heap} : ∀ {ds : List PyData} {us : List Value} {as : List Addr}, ReadsAll h us ds as → us.length = ds.length := fun r => SeqAt.ReadsAll.length _ _ _ r
/-- items of a sequence read as data: how each compares with x -/
theorem items_cmp {pins : List (Addr × Obj)} {σ : L2.St} {H : Hp} {s : Shared} {xs : List V} {its : List Value} {ds : List PyData} {y : V} {u : Value} {d : PyData} (I : Inv X pins σ H s) (ha : DpAll X.K H xs ds) (rv : Vals xs its) (hy : Dp X.K H y d) (ry : RelV y u)
    (sl : PyData.canLayAll0 ds = true) (sd : SeqAt.shaped d = true) (hu : X.A.units + 65 < cLine) :
    (∀ z, z ∈ its.toArray → SeqAt.EqAt X.A.in1 s z u (PyData.eqv (SeqAt.readOf s.heap z) d)) ∧ its.map (SeqAt.readOf s.heap) = ds := by
  obtain ⟨as, h4⟩ := Dp.readsAll I ds _ its ha rv
  obtain ⟨bs, r1⟩ := Dp.reads I d y u hy ry
  exact ⟨SeqAt.items_eqAt (vs := its.toArray) (show ReadsAll s.heap its.toArray.toList ds as from h4) r1 sl (SeqAt.canLay_of_shaped sd) (room_in_shaped sd hu), SeqAt.readsAll_map ds its as sl h4⟩
theorem firstAt_spec {p : PyData → Bool} : ∀ {l : List PyData} {i n : Nat}, firstAt p l i = some n → ∃ j z, n = i + j ∧ l[j]? = some z ∧ p z = true ∧ ∀ m z', m < j → l[m]? = some z' → p z' = false
  | [], i, n, h => by cases h
  | x :: r, i, n, h => by
    unfold firstAt at h
    by_cases hp : p x = true
    · rw [if_pos hp] at h
      cases h
      exact ⟨0, x, rfl, rfl, hp, fun m z' hm => by omega⟩
    · rw [if_neg hp] at h
      obtain ⟨j, z, h1, h2, h3, h4⟩ := firstAt_spec h
      refine ⟨j + 1, z, by omega, by simpa using h2, h3, fun m z' hm hz => ?_⟩
      cases m with
      | zero => simp at hz; subst hz; simpa using hp
      | succ m => exact h4 m z' (by omega) (by simpa using hz)
theorem get_map_read {h : Heap} {its : List Value} {ds : List PyData} (e : its.map (SeqAt.readOf h) = ds) {m : Nat} (hm : m < its.toArray.size) : ∃ z, ds[m]? = some z ∧ SeqAt.readOf h its.toArray[m] = z := by
  have h1 : m < its.length := by simpa using hm
  refine ⟨SeqAt.readOf h its[m], ?_, by simp⟩
  rw [← e, List.getElem?_map, List.getElem?_eq_getElem h1]
  rfl
theorem go_index_list (hu : X.A.units + 65 < cLine) {H : Hp} {a : Addr} {xs : List V} {y : V} {d : PyData} {ds : List PyData} {n : Nat} {Q : VK} (hl : SqL X.K H a xs) (ha : DpAll X.K H xs ds) (sl : SeqAt.shaped (.list ds) = true) (hy : Dp X.K H y d) (sd : SeqAt.shaped d = true)
    (hn : firstAt (fun z => PyData.eqv z d) ds 0 = some n) (q : Q (.int (n : Int)) H) : CallGo X "list.index" (.ref a) [y] H Q := by
  intro pins s σ v us I rx rxs
  obtain ⟨j, z, h1, h2, h3, h4⟩ := firstAt_spec hn
  have : n = j := by omega
  subst this
  exact mt_indexD hu pins s σ H _ _ v us Q I rx rxs ⟨a, y, d, ds, n, z, rfl, rfl, .lst hl ha, hy, sl, sd, h2, h3, h4, q⟩
theorem go_index_tup (hu : X.A.units + 65 < cLine) {H : Hp} {a : Addr} {xs : List V} {y : V} {d : PyData} {ds : List PyData} {n : Nat} {Q : VK} (hl : SqT X.K H a xs) (ha : DpAll X.K H xs ds) (sl : SeqAt.shaped (.tuple ds) = true) (hy : Dp X.K H y d) (sd : SeqAt.shaped d = true)
    (hn : firstAt (fun z => PyData.eqv z d) ds 0 = some n) (q : Q (.int (n : Int)) H) : CallGo X "tuple.index" (.ref a) [y] H Q := by
  intro pins s σ v us I rx rxs
  obtain ⟨j, z, h1, h2, h3, h4⟩ := firstAt_spec hn
  have : n = j := by omega
  subst this
  cases rx
  obtain ⟨u, rfl, ry⟩ := vals1 rxs
  obtain ⟨its, rv, ⟨⟨cls, dd, data, sls⟩, ho, hc, nn, hd⟩, hlen⟩ := I.tuple hl
  simp only at hc hd
  subst hc hd
  obtain ⟨he, hm⟩ := items_cmp I ha rv hy ry (SeqAt.canLay_of_shaped sl) sd hu
  have hn1 : n < its.length := by
    obtain ⟨hh, _⟩ := List.getElem?_eq_some_iff.mp h2
    rw [← hm, List.length_map] at hh
    exact hh
  have hj : n < its.toArray.size := by simpa using hn1
  have hz : its.length ≤ sizeLine := by rw [← rv.length]; exact hlen
  rw [sizeLine_eq] at hz
  have W := SeqAt.tuple_index2_found a its.toArray nn dd sls u (fun j => PyData.eqv (SeqAt.readOf s.heap (its.toArray.getD j .none)) d) n hj (Nat.zero_le _) hj (by
      obtain ⟨z', g1, g2⟩ := get_map_read hm hj
      rw [h2] at g1
      cases g1
      simp only [Array.getD, hj, dif_pos]
      rw [show its.toArray.getInternal n hj = its.toArray[n] from rfl, g2]
      exact h3) (fun m hm' _ hlt => by
      obtain ⟨z', g1, g2⟩ := get_map_read hm hm'
      simp only [Array.getD, hm', dif_pos]
      rw [show its.toArray.getInternal m hm' = its.toArray[m] from rfl, g2]
      exact h4 m z' hlt g1)
  refine call_meets F.slot_tuple_index (show s.TypeIs (.ref a) "tuple" from ⟨_, ho, rfl⟩) F.entry_tuple_index (F.args_tuple_index_2 _ _) W ⟨ho, fun j hj' => ?_, ⟨.int (n : Nat), H, I.tok _, ⟨_, rfl⟩, q⟩⟩
  simp only [Array.getD, hj', dif_pos]
  exact he _ (Array.getElem_mem hj')
theorem countP_read {h : Heap} {d : PyData} : ∀ {its : List Value} {ds : List PyData}, its.map (SeqAt.readOf h) = ds → its.countP (fun z => PyData.eqv (SeqAt.readOf h z) d) = ds.countP fun z => PyData.eqv z d := fun {its ds} e => by
  rw [← e, List.countP_map]
  rfl
theorem go_count_tup (hu : X.A.units + 65 < cLine) {H : Hp} {a : Addr} {xs : List V} {y : V} {d : PyData} {ds : List PyData} {Q : VK} (hl : SqT X.K H a xs) (ha : DpAll X.K H xs ds) (sl : SeqAt.shaped (.tuple ds) = true) (hy : Dp X.K H y d) (sd : SeqAt.shaped d = true)
    (q : Q (.int ((ds.countP fun z => PyData.eqv z d : Nat) : Int)) H) : CallGo X "tuple.count" (.ref a) [y] H Q := by
  intro pins s σ v us I rx rxs
  cases rx
  obtain ⟨u, rfl, ry⟩ := vals1 rxs
  obtain ⟨its, rv, ⟨⟨cls, dd, data, sls⟩, ho, hc, nn, hd⟩, hlen⟩ := I.tuple hl
  simp only at hc hd
  subst hc hd
  obtain ⟨he, hm⟩ := items_cmp I ha rv hy ry (SeqAt.canLay_of_shaped sl) sd hu
  have W := SeqAt.tuple_countAt a its.toArray nn dd sls u (fun z => PyData.eqv (SeqAt.readOf s.heap z) d)
  refine call_meets F.slot_tuple_count (show s.TypeIs (.ref a) "tuple" from ⟨_, ho, rfl⟩) F.entry_tuple_count (F.args_tuple_count_2 _ _) W ⟨ho, he, ?_⟩
  rw [show its.toArray.toList = its from rfl, countP_read hm]
  exact ⟨.int _, H, I.tok _, ⟨_, rfl⟩, q⟩
theorem go_count_list (hu : X.A.units + 65 < cLine) {H : Hp} {a : Addr} {xs : List V} {y : V} {d : PyData} {ds : List PyData} {Q : VK} (hl : SqL X.K H a xs) (ha : DpAll X.K H xs ds) (sl : SeqAt.shaped (.list ds) = true) (hy : Dp X.K H y d) (sd : SeqAt.shaped d = true)
    (q : Q (.int ((ds.countP fun z => PyData.eqv z d : Nat) : Int)) H) : CallGo X "list.count" (.ref a) [y] H Q := by
  intro pins s σ v us I rx rxs
  cases rx
  obtain ⟨u, rfl, ry⟩ := vals1 rxs
  obtain ⟨its, rv, ⟨⟨cls, dd, data, sls⟩, nn, ho, hc, hdn, hd⟩, hlen⟩ := I.list hl
  simp only at hc hd
  subst hc hd
  obtain ⟨he, hm⟩ := items_cmp I ha rv hy ry (SeqAt.canLay_of_shaped sl) sd hu
  have W := SeqAt.list_countAt a its.toArray nn dd sls u (fun z => PyData.eqv (SeqAt.readOf s.heap z) d)
  refine call_meets F.slot_list_count (show s.TypeIs (.ref a) "list" from ⟨_, ho, rfl⟩) F.entry_list_count (F.args_list_count_2 _ _) W ⟨ho, he, ?_⟩
  rw [show its.toArray.toList = its from rfl, countP_read hm]
  exact ⟨.int _, H, I.tok _, ⟨_, rfl⟩, q⟩
end
end CB
end
section
set_option maxHeartbeats 1000000
/-! CB12: methods by the interpreter; isinstance. -/
namespace CB
open PySem PySem.Spec L2
open PyProof.Rows hiding St
def omName : OM → Str
  | .get => "get"
  | .index => "index"
  | .count => "count"
  | .join => "join"
  | .split => "split"
  | .replace => "replace"
def mkT : MK → String
  | .tup => "tuple"
  | .lst => "list"
  | .str => "str"
  | .dct => "dict"
section
variable {X : Cx} {S : Sx}
theorem ok_get : MOk "get" "dict" "dict.get" := ⟨F.plainAttrs_dict, F.slot_dict_get, F.type_dict_get⟩
theorem ok_index : MOk "index" "list" "list.index" := ⟨F.plainAttrs_list, F.slot_list_index, F.type_list_index⟩
theorem ok_indexT : MOk "index" "tuple" "tuple.index" := ⟨F.plainAttrs_tuple, F.slot_tuple_index, F.type_tuple_index⟩
theorem ok_count : MOk "count" "list" "list.count" := ⟨F.plainAttrs_list, F.slot_list_count, F.type_list_count⟩
theorem ok_countT : MOk "count" "tuple" "tuple.count" := ⟨F.plainAttrs_tuple, F.slot_tuple_count, F.type_tuple_count⟩
theorem ok_join : MOk "join" "str" "str.join" := ⟨F.plainAttrs_str, F.slot_str_join, F.type_str_join⟩
theorem ok_split : MOk "split" "str" "str.split" := ⟨F.plainAttrs_str, F.slot_str_split, F.type_str_split⟩
section
variable {w w1 : Wd} {H H1 : Hp} {M M1 : Mem} {x : V} {d : D}
theorem Rep.tyTup {l : List D} (r : Rep X.K S w H x (.tup l)) : tyW X.K "tuple" x H := by
  cases r with
  | tup z h n r => exact .inr ⟨_, rfl, .inl ⟨rfl, .inl ⟨_, _, h, n⟩⟩⟩
  | ktup h r => exact .inr ⟨_, rfl, .inl ⟨rfl, .inr ⟨_, h⟩⟩⟩
theorem Rep.tyKind {k : MK} (m : RelM X.K S w H M) (r : Rep X.K S w H x d) (hk : mKind M d = some k) : tyW X.K (mkT k) x H := by
  cases d with
  | tup l => cases hk; exact r.tyTup
  | lst l =>
    cases hk
    obtain ⟨a, xs, rfl, h, _⟩ := r.lst_inv
    exact .inl (.inl ⟨rfl, xs, .of h⟩)
  | str l =>
    cases hk
    have := r.str_inv
    subst this
    exact .inl rfl
  | dct l =>
    cases hk
    cases r with
    | dct z h r => exact .inr ⟨_, rfl, .inr ⟨rfl, _, h⟩⟩
  | loc n =>
    unfold mKind at hk
    simp only at hk
    split at hk
    · rename_i hM
      cases hk
      obtain ⟨a, rfl, h1, h2⟩ := m.loc hM r
      cases h2 with
      | lst h r => exact .inl (.inl ⟨rfl, _, .of h⟩)
    · rename_i hM
      cases hk
      obtain ⟨a, rfl, h1, h2⟩ := m.loc hM r
      cases h2 with
      | dct h r => exact .inr ⟨_, rfl, .inr ⟨rfl, _, .inl h⟩⟩
    · cases hk
  | _ => cases hk
/-- a tuple's data: where it lies, its items' data -/
theorem Rep.tupDp {l : List D} {ps : List PyData} (m : RelM X.K S w H M) (r : Rep X.K S w H x (.tup l)) (e : pdM M (.tup l) = some (.tuple ps)) : ∃ a xs, x = .ref a ∧ SqT X.K H a xs ∧ DpAll X.K H xs ps ∧ SeqAt.shaped (.tuple ps) = true := by
  obtain ⟨h1, h2⟩ := r.dpM m e
  cases h1 with
  | tup h h3 => exact ⟨_, _, rfl, h, h3, h2⟩
theorem Rep.lstDp {ps : List PyData} (m : RelM X.K S w H M) (r : Rep X.K S w H x d) (e : pdM M d = some (.list ps)) : ∃ a xs, x = .ref a ∧ SqL X.K H a xs ∧ DpAll X.K H xs ps ∧ SeqAt.shaped (.list ps) = true := by
  obtain ⟨h1, h2⟩ := r.dpM m e
  cases h1 with
  | lst h h3 => exact ⟨_, _, rfl, h, h3, h2⟩
/-- the method's own id for that kind -/
def mId (o : OM) (k : MK) : String × String := match o, k with
  | .get, _ => ("dict", "dict.get")
  | .index, .tup => ("tuple", "tuple.index")
  | .index, _ => ("list", "list.index")
  | .count, .tup => ("tuple", "tuple.count")
  | .count, _ => ("list", "list.count")
  | .join, _ => ("str", "str.join")
  | .split, _ => ("str", "str.split")
  | .replace, _ => ("str", "str.replace")
theorem mId_ok {o : OM} {k : MK} (h : o ≠ .replace) : MOk (omName o) (mId o k).1 (mId o k).2 := by
  cases o <;> cases k <;> first | exact ok_get | exact ok_index | exact ok_indexT | exact ok_count | exact ok_countT | exact ok_join | exact ok_split | exact absurd rfl h
/-- the call of the method, from the interpreter's answer -/
theorem me_go (hu : X.A.units + 90 < cLine) {o : OM} {k : MK} {xs : List V} {ds : List D} {Q : VK} (m : RelM X.K S w H M) (r : Rep X.K S w H x d) (rs : RepL X.K S w H xs ds) (a : Ans X.K S w H Q M (callM k M o d ds)) : CallGo X (mId o k).2 x xs H Q := by
  obtain ⟨z, e, q⟩ := a
  unfold callM at e
  split at e
  · -- get
    split at e
    · rename_i hk
      unfold getD2 at e
      split at e
      · rename_i k'
        cases hK : asK M d with
        | none => rw [hK] at e; cases e
        | some kvs =>
          rw [hK] at e
          cases e
          dsimp only at q
          obtain ⟨u1, u2, rfl, r1, r2⟩ := repL_two rs
          obtain ⟨a, rfl, hd, g⟩ := look_rep m hK r r1
          intro pins s σ v us I rx rv
          cases rx
          obtain ⟨y1, y2, rfl, e1, e2⟩ := vals2 rv
          rcases g with ⟨g1, g2⟩ | ⟨t, z, g1, g2, g3⟩
          · refine d_get2 (by omega) I g2 e1 e2 fun w' s' I' rw' => ⟨_, H, I', rw', ?_⟩
            rw [g1] at q
            exact (Fol.here (v := u2) q m r2 : Q u2 H)
          · refine d_get2 (by omega) I g2 e1 e2 fun w' s' I' rw' => ⟨_, H, I', rw', ?_⟩
            rw [g1] at q
            exact (Fol.here (v := t) q m g3 : Q t H)
      · cases e
    · cases e
  · -- index
    rename_i x0
    obtain ⟨y, rfl, ry⟩ := repL_one rs
    cases hN : idxD M k d x0 with
    | none => rw [hN] at e; cases e
    | some n =>
      rw [hN] at e
      cases e
      have qq : Q (.int (n : Int)) H := Fol.here q m (.int _)
      unfold idxD at hN
      split at hN
      · split at hN
        · split at hN
          · rename_i ps p h1 h2
            obtain ⟨a, xs, rfl, g1, g2, g3⟩ := r.tupDp m h1
            obtain ⟨g4, g5⟩ := ry.dpM m h2
            exact go_index_tup (by omega) g1 g2 g3 g4 g5 hN qq
          · cases hN
        · cases hN
      · split at hN
        · rename_i ps p h1 h2
          obtain ⟨a, xs, rfl, g1, g2, g3⟩ := r.lstDp m h1
          obtain ⟨g4, g5⟩ := ry.dpM m h2
          exact go_index_list (by omega) g1 g2 g3 g4 g5 hN qq
        · cases hN
      · cases hN
  · -- count
    rename_i x0
    obtain ⟨y, rfl, ry⟩ := repL_one rs
    cases hN : cntD M k d x0 with
    | none => rw [hN] at e; cases e
    | some n =>
      rw [hN] at e
      cases e
      have qq : Q (.int (n : Int)) H := Fol.here q m (.int _)
      unfold cntD at hN
      split at hN
      · split at hN
        · split at hN
          · rename_i ps p h1 h2
            obtain ⟨a, xs, rfl, g1, g2, g3⟩ := r.tupDp m h1
            obtain ⟨g4, g5⟩ := ry.dpM m h2
            cases hN
            exact go_count_tup (by omega) g1 g2 g3 g4 g5 qq
          · cases hN
        · cases hN
      · split at hN
        · rename_i ps p h1 h2
          obtain ⟨a, xs, rfl, g1, g2, g3⟩ := r.lstDp m h1
          obtain ⟨g4, g5⟩ := ry.dpM m h2
          cases hN
          exact go_count_list (by omega) g1 g2 g3 g4 g5 qq
        · cases hN
      · cases hN
  · -- join
    rename_i x0
    split at e
    · obtain ⟨y, rfl, ry⟩ := repL_one rs
      unfold joinD at e
      split at e
      · rename_i a
        cases h1 : asLT M x0 with
        | none => rw [h1] at e; cases e
        | some l =>
          rw [h1] at e
          have e : ((dStrs l).bind fun ys => if (ys.map (·.length)).sum + ys.length * a.length ≤ lineN then some (D.str (Txt.join a ys)) else none) = some z := e
          cases h2 : dStrs l with
          | none => rw [h2] at e; cases e
          | some ys =>
            rw [h2] at e
            have e : (if (ys.map (·.length)).sum + ys.length * a.length ≤ lineN then some (D.str (Txt.join a ys)) else none) = some z := e
            by_cases hl : (ys.map (·.length)).sum + ys.length * a.length ≤ lineN
            · rw [if_pos hl] at e
              cases e
              obtain ⟨p, xs, rfl, g1, g2⟩ := ry.asLT m h1
              have := repL_dStrs h2 g2
              subst this
              intro pins s σ v us I rx rv
              exact mt_join pins s σ H x _ v us Q I rx rv ⟨a, p, ys, r.str_inv, rfl, g1.imp SqL.of id, hl, Fol.here q m (.str _)⟩
            · rw [if_neg hl] at e; cases e
      · cases e
    · cases e
  · -- split
    rename_i x0
    split at e
    · obtain ⟨y, rfl, ry⟩ := repL_one rs
      unfold splitD at e
      split at e
      · rename_i a b
        by_cases hl : b.length ≠ 0 ∧ a.length + 2 ≤ lineN
        · rw [if_pos hl] at e
          cases e
          intro pins s σ v us I rx rv
          refine mt_split pins s σ H x _ v us Q I rx rv ⟨a, b, r.str_inv, by rw [ry.str_inv], by simpa using hl.1, by rw [← RelM.line]; exact hl.2, ?_⟩
          intro p hp
          exact Fol.lst q m (by
            have : ∀ l : List Str, RepL X.K S w H (l.map V.str) (l.map D.str) := fun l => by
              induction l with
              | nil => exact .nil
              | cons a r ih => exact .cons (.str a) ih
            exact this _) hp
        · rw [if_neg hl] at e; cases e
      · cases e
    · cases e
  · cases e
end
/-! ### isinstance -/
def tyName : Ty → String
  | .int => "int"
  | .bool => "bool"
  | .tuple => "tuple"
  | .str => "str"
  | .list => "list"
theorem kit_all (K : PySem.W.Frag) : ∀ (a : String) (ty : Ty), a ∈ ["NoneType", "bool", "int", "str", "tuple", "list", "dict"] → PySem.W.kitOne K (.type a) (.type (tyName ty)) = some (a == tyName ty || (a == "bool" && tyName ty == "int")) := by
  intro a ty h
  simp only [List.mem_cons, List.not_mem_nil, or_false] at h
  rcases h with h | h | h | h | h | h | h <;> subst h <;> cases ty <;> first | rfl | decide | (decide +kernel)
end
end CB
end
section
set_option maxHeartbeats 1000000
/-! CB13: expressions. -/
namespace CB
open PySem PySem.Spec L2
open PyProof.Rows hiding St
theorem _root_.L2.PE.imp {X : Cx} {e : Expr} {t t' : TE} (h : PE X e t) (q : ∀ σ H Q, t' σ H Q → t σ H Q) : PE X e t' := ⟨fun pins s σ H Q I z => h.run pins s σ H Q I (q _ _ _ z)⟩
theorem _root_.L2.PT.imp {X : Cx} {e : Expr} {t t' : TT} (h : PT X e t) (q : ∀ σ H Q, t' σ H Q → t σ H Q) : PT X e t' := ⟨fun pins s σ H Q I z => h.run pins s σ H Q I (q _ _ _ z)⟩
theorem _root_.L2.PA.imp {X : Cx} {e : List Expr} {t t' : TA} (h : PA X e t) (q : ∀ σ H Q, t' σ H Q → t σ H Q) : PA X e t' := ⟨fun pos pins s σ H Q I z => h.run pos pins s σ H Q I (q _ _ _ z)⟩
theorem _root_.L2.PO.imp {X : Cx} {e : Option Expr} {t t' : TO} (h : PO X e t) (q : ∀ σ H Q, t' σ H Q → t σ H Q) : PO X e t' := ⟨fun pins s σ H Q I z => h.run pins s σ H Q I (q _ _ _ z)⟩
abbrev Sem1 := Env → Mem → Rs D
abbrev SemL := Env → Mem → Rs (List D)
abbrev DE (X : Cx) (S : Sx) (W : WX) (e : Expr) (f : Sem1) : Prop := PE X e (RD X.K S W f)
abbrev DT (X : Cx) (S : Sx) (W : WX) (e : Expr) (f : Sem1) : Prop := PT X e (RT X.K S W f)
abbrev DA (X : Cx) (S : Sx) (W : WX) (e : List Expr) (f : SemL) : Prop := PA X e (RA X.K S W f)
/-- a new list or dict, that nobody's words speak of yet -/
def PostF (K : PySem.W.Frag) (S : Sx) (W : WX) (σ : L2.St) (w : Wd) (H : Hp) (Q : VK) : Rs D → Prop
  | .ok (.lst ds) M => ∀ w' H' p xs, Evo w H w' H' → RelM K S w' H' M → RepL K S w' H' xs ds → H' p = none → Q (.ref p) (upd H' p (.lst xs))
  | .ok (.dct ds) M => ∀ w' H' p xs, Evo w H w' H' → RelM K S w' H' M → RepK K S w' H' xs ds → H' p = none → Q (.ref p) (upd H' p (.dT xs))
  | .ok _ _ => False
  | .exc x M' => ∀ w' H' cls dd, Evo w H w' H' → RelM K S w' H' M' → S.xc x cls dd H' → W cls dd σ H'
  | .stuck => False
def RF (K : PySem.W.Frag) (S : Sx) (W : WX) (f : Sem1) : TE := fun σ H Q => ∃ w δ M, RelM K S w H M ∧ RelE K S w H σ δ ∧ PostF K S W σ w H Q (f δ M)
abbrev FE (X : Cx) (S : Sx) (W : WX) (e : Expr) (f : Sem1) : Prop := PE X e (RF X.K S W f)
def RP (K : PySem.W.Frag) (S : Sx) (W : WX) (f : Env → Mem → Rs (Option Int)) : TO := fun σ H Q => ∃ w δ M, RelM K S w H M ∧ RelE K S w H σ δ ∧ Post K S W σ (fun _ _ (b : Option Int) (c : Option Int) => b = c) w H Q (f δ M)
def isFresh : D → Prop
  | .lst _ => True
  | .dct _ => True
  | _ => False
section
variable {K : PySem.W.Frag} {S : Sx} {W : WX} {σ : L2.St} {w w1 : Wd} {H H1 : Hp} {M : Mem} {Q : VK}
theorem PostF.shift {r : Rs D} (h : PostF K S W σ w H Q r) (e : Evo w H w1 H1) : PostF K S W σ w1 H1 Q r := by
  cases r with
  | ok a M =>
    cases a with
    | lst ds => exact fun w' H' p xs e' m r n => h w' H' p xs (e.trans e') m r n
    | dct ds => exact fun w' H' p xs e' m r n => h w' H' p xs (e.trans e') m r n
    | _ => exact h
  | exc x M => exact fun w' H' c d e' m r => h w' H' c d (e.trans e') m r
  | stuck => exact h
theorem PostF.step {β α : Type} {R : Wd → Hp → β → α → Prop} {r : Rs α} {g : α → Mem → Rs D} (h : PostF K S W σ w H Q (r.bind g)) :
    Post K S W σ R w H (fun b H1 => ∃ w1 M1 a, Evo w H w1 H1 ∧ RelM K S w1 H1 M1 ∧ R w1 H1 b a ∧ PostF K S W σ w1 H1 Q (g a M1)) r := by
  cases r with
  | ok a M => exact fun w' H' b e m r => ⟨w', M, a, e, m, r, PostF.shift h e⟩
  | exc x M => exact h
  | stuck => exact h
/-- as a value: from now on it never changes -/
theorem PostF.of {r : Rs D} (h : Post K S W σ (Rep K S) w H Q r) (hf : ∀ d M', r = .ok d M' → isFresh d) : PostF K S W σ w H Q r := by
  cases r with
  | ok a M =>
    have := hf a M rfl
    cases a with
    | lst ds => exact fun w' H' p xs e' m r n => h _ _ _ (e'.trans (new_evo m n)) (new_rel m n) (.lst new_z upd_same (r.mono (new_evo m n)))
    | dct ds => exact fun w' H' p xs e' m r n => h _ _ _ (e'.trans (new_evo m n)) (new_rel m n) (.dct new_z (.inl upd_same) (r.mono (new_evo m n)))
    | _ => exact this.elim
  | exc x M => exact h
  | stuck => exact h
end
section
variable {X : Cx} {S : Sx} {W : WX}
theorem FE.de {e : Expr} {f : Sem1} (h : FE X S W e f) (hf : ∀ δ M d M', f δ M = .ok d M' → isFresh d) : DE X S W e f :=
  PE.imp h fun σ H Q ⟨w, δ, M, m, r, p⟩ => ⟨w, δ, M, m, r, PostF.of p (hf δ M)⟩
variable {Φ : Nat → List D → Mem → Rs D}
/-! ### names, constants -/
theorem getVar_some {δ : Env} {i : Nat} {d : D} (h : getVar δ i = some d) : δ[i]? = some (some d) := by
  unfold getVar at h
  cases q : δ[i]? with
  | none => rw [q] at h; cases h
  | some o => rw [q] at h; have h : o = some d := h; rw [h]
theorem de_var {i : Nat} {x : Str} {pos : Pos} (hN : X.N[i]? = some x) (hv : Vis X.env.scope x) (hd : (x == ("__debug__" : Str)) = false) (hcd : (x == ("__classdict__" : Str)) = false) : DE X S W (.Name x pos) (ev Φ (.var i)) :=
  PE.imp (pe_var hN hv hd hcd) fun σ H Q ⟨w, δ, M, m, r, p⟩ => by
    unfold ev at p
    cases q : getVar δ i with
    | none => rw [q] at p; exact p.elim
    | some d =>
      rw [q] at p
      obtain ⟨v, h1, h2⟩ := r.get i d (getVar_some q)
      exact ⟨v, h1, p.done m h2⟩
theorem de_int {i : Int} {j : Nat} {pos : Pos} : DE X S W (.Constant (.int i) j pos) (ev Φ (.con (.int i))) := PE.imp pe_int fun σ H Q ⟨w, δ, M, m, r, p⟩ => Post.done (by unfold ev at p; exact p) m (Rep.int i)
theorem de_bl {i : Bool} {j : Nat} {pos : Pos} : DE X S W (.Constant (.bool i) j pos) (ev Φ (.con (.bl i))) := PE.imp pe_bl fun σ H Q ⟨w, δ, M, m, r, p⟩ => Post.done (by unfold ev at p; exact p) m (Rep.bl i)
theorem de_str {i : Str} {j : Nat} {pos : Pos} : DE X S W (.Constant (.str i) j pos) (ev Φ (.con (.str i))) := PE.imp pe_str fun σ H Q ⟨w, δ, M, m, r, p⟩ => Post.done (by unfold ev at p; exact p) m (Rep.str i)
theorem de_non {j : Nat} {pos : Pos} : DE X S W (.Constant .none j pos) (ev Φ (.con .non)) := PE.imp pe_non fun σ H Q ⟨w, δ, M, m, r, p⟩ => Post.done (by unfold ev at p; exact p) m Rep.non
theorem de_glob {x : Str} {v : V} {u : Value} {d : D} {pos : Pos} (hg : Gl X x) (hm : X.mg x = some u) (rv : RelV v u) (hd : (x == ("__debug__" : Str)) = false) (hr : ∀ w H, Rep X.K S w H v d) : DE X S W (.Name x pos) (ev Φ (.con d)) :=
  PE.imp (pe_glob hg hm rv hd) fun σ H Q ⟨w, δ, M, m, r, p⟩ => Post.done (by unfold ev at p; exact p) m (hr w H)
/-! ### arguments -/
theorem da_nil : DA X S W [] (evs Φ .nil) := PA.imp pa_nil fun σ H Q ⟨w, δ, M, m, r, p⟩ => Post.done (by unfold evs at p; exact p) m RepL.nil
theorem da_cons {e : Expr} {es : List Expr} {t : T} {ts : Ts} (h1 : DE X S W e (ev Φ t)) (h2 : DA X S W es (evs Φ ts)) (hs : starEach (e :: es) X.env = (false, eval e X.env) :: starEach es X.env) : DA X S W (e :: es) (evs Φ (.cons t ts)) :=
  PA.imp (pa_cons h1 h2 hs) fun σ H Q ⟨w, δ, M, m, r, p⟩ => by
    unfold evs at p
    refine ⟨w, δ, M, m, r, p.step.mono fun b H1 ⟨w1, M1, a, e1, m1, r1, p1⟩ => ⟨w1, δ, M1, m1, r.mono e1, p1.step.mono fun bs H2 ⟨w2, M2, as, e2, m2, r2, p2⟩ => p2.done m2 (.cons (r1.mono e2) r2)⟩⟩
/-! ### displays -/
theorem len1000 {n : Nat} (h : n ≤ 1000) : n ≤ sizeLine := by rw [sizeLine_eq]; omega
theorem post_ite {α β : Type} {K : PySem.W.Frag} {σ : L2.St} {R : Wd → Hp → β → α → Prop} {w : Wd} {H : Hp} {Q : β → Hp → Prop} {c : Prop} [Decidable c] {r : Rs α} (p : Post K S W σ R w H Q (if c then r else .stuck)) : c ∧ Post K S W σ R w H Q r := by
  by_cases h : c
  · rw [if_pos h] at p; exact ⟨h, p⟩
  · rw [if_neg h] at p; exact p.elim
theorem postF_ite {K : PySem.W.Frag} {σ : L2.St} {w : Wd} {H : Hp} {Q : VK} {c : Prop} [Decidable c] {r : Rs D} (p : PostF K S W σ w H Q (if c then r else .stuck)) : c ∧ PostF K S W σ w H Q r := by
  by_cases h : c
  · rw [if_pos h] at p; exact ⟨h, p⟩
  · rw [if_neg h] at p; exact p.elim
theorem de_tup {es : List Expr} {ts : Ts} {x1 : Nat} {pos : Pos} (h : DA X S W es (evs Φ ts)) : DE X S W (.Tuple es x1 pos) (ev Φ (.tup ts)) :=
  PE.imp (pe_tupF h) fun σ H Q ⟨w, δ, M, m, r, p⟩ => by
    unfold ev at p
    refine ⟨w, δ, M, m, r, p.step.mono fun b H1 ⟨w1, M1, a, e1, m1, r1, p1⟩ => ?_⟩
    obtain ⟨hl, p1⟩ := post_ite p1
    exact ⟨by rw [r1.length]; exact len1000 hl, fun q o hq ho => Fol.tup p1 m1 r1 hq ho⟩
theorem de_key {es : List Expr} {ts : Ts} {x1 : Nat} {pos : Pos} (h : DA X S W es (evs Φ ts)) : DE X S W (.Tuple es x1 pos) (ev Φ (.key ts)) :=
  PE.imp (pe_tup h) fun σ H Q ⟨w, δ, M, m, r, p⟩ => by
    unfold ev at p
    refine ⟨w, δ, M, m, r, p.step.mono fun b H1 ⟨w1, M1, a, e1, m1, r1, p1⟩ => ?_⟩
    obtain ⟨hl, p1⟩ := post_ite p1
    cases q : dInts a with
    | none => rw [q] at p1; exact p1.elim
    | some ks =>
      rw [q] at p1
      have := repL_dInts q r1
      subst this
      exact ⟨by rw [r1.length]; exact len1000 hl, fun c hc => Fol.key p1 m1 hc⟩
theorem fe_lst {es : List Expr} {ts : Ts} {pos : Pos} (h : DA X S W es (evs Φ ts)) : FE X S W (.List es pos) (ev Φ (.lst ts)) :=
  PE.imp (pe_lst h) fun σ H Q ⟨w, δ, M, m, r, p⟩ => by
    unfold ev at p
    refine ⟨w, δ, M, m, r, p.step.mono fun b H1 ⟨w1, M1, a, e1, m1, r1, p1⟩ => ?_⟩
    obtain ⟨hl, p1⟩ := postF_ite p1
    exact ⟨by rw [r1.length]; exact len1000 hl, fun c hc => p1 w1 H1 c b (Evo.refl _ _) m1 r1 hc⟩
theorem fe_dict0 {pos : Pos} : FE X S W (.Dict [] [] pos) (ev Φ (.con (.dct []))) :=
  PE.imp pe_dnewT fun σ H Q ⟨w, δ, M, m, r, p⟩ => by
    unfold ev at p
    exact fun c hc => p w H c [] (Evo.refl _ _) m .nil hc
theorem fresh_lst {ts : Ts} : ∀ δ M d M', ev Φ (.lst ts) δ M = .ok d M' → isFresh d := fun δ M d M' e => by
  unfold ev at e
  cases q : evs Φ ts δ M with
  | ok a M1 =>
    rw [q] at e
    simp only [Rs.bind_ok] at e
    split at e
    · cases e; trivial
    · cases e
  | exc x M1 => rw [q] at e; cases e
  | stuck => rw [q] at e; cases e
/-! ### operators -/
theorem de_op {a b : Expr} {ta tb : T} {o : O2} {op : Operator} {pos : Pos} (ho : OpR X (binaryOp op) (RO X.K S fun M => op2 M o)) (ha : DE X S W a (ev Φ ta)) (hb : DE X S W b (ev Φ tb)) : DE X S W (.BinOp a op b pos) (ev Φ (.op2 o ta tb)) :=
  PE.imp (pe_op ho ha hb) fun σ H Q ⟨w, δ, M, m, r, p⟩ => by
    unfold ev at p
    exact ⟨w, δ, M, m, r, p.step.mono fun x H1 ⟨w1, M1, d1, e1, m1, r1, p1⟩ => ⟨w1, δ, M1, m1, r.mono e1, p1.step.mono fun y H2 ⟨w2, M2, d2, e2, m2, r2, p2⟩ => ⟨w2, M2, d1, d2, m2, r1.mono e2, r2, ans_of p2⟩⟩⟩
theorem de_ix (hu : X.A.units + 1 < cLine) {a b : Expr} {ta tb : T} {pos : Pos} (ha : DE X S W a (ev Φ ta)) (hb : DE X S W b (ev Φ tb)) (hs : PlainIx b) : DE X S W (.Subscript a b pos) (ev Φ (.op2 .ix ta tb)) :=
  PE.imp (pe_ix (ixD (S := S) hu) ha hb hs) fun σ H Q ⟨w, δ, M, m, r, p⟩ => by
    unfold ev at p
    exact ⟨w, δ, M, m, r, p.step.mono fun x H1 ⟨w1, M1, d1, e1, m1, r1, p1⟩ => ⟨w1, δ, M1, m1, r.mono e1, p1.step.mono fun y H2 ⟨w2, M2, d2, e2, m2, r2, p2⟩ => ⟨w2, M2, d1, d2, m2, r1.mono e2, r2, ans_of p2⟩⟩⟩
theorem rc_read {a b : Expr} {ta tb : T} {o : OC} {Q : VK} {σ : L2.St} {H : Hp} (h : RD X.K S W (ev Φ (.cmp o ta tb)) σ H Q) : tOp (RC X.K S fun M => cmp2 M o) (RD X.K S W (ev Φ ta)) (RD X.K S W (ev Φ tb)) σ H Q := by
  obtain ⟨w, δ, M, m, r, p⟩ := h
  unfold ev at p
  exact ⟨w, δ, M, m, r, p.step.mono fun x H1 ⟨w1, M1, d1, e1, m1, r1, p1⟩ => ⟨w1, δ, M1, m1, r.mono e1, p1.step.mono fun y H2 ⟨w2, M2, d2, e2, m2, r2, p2⟩ => ⟨w2, M2, d1, d2, m2, r1.mono e2, r2, ansB_of p2⟩⟩⟩
theorem de_cmp {a b : Expr} {ta tb : T} {o : OC} {op : CmpOp} {pos : Pos} (ho : OpR X (compareOp op) (RC X.K S fun M => cmp2 M o)) (ha : DE X S W a (ev Φ ta)) (hb : DE X S W b (ev Φ tb)) (hm : behindInMarks op b = false) :
    DE X S W (.Compare a [op] [b] pos) (ev Φ (.cmp o ta tb)) := PE.imp (pe_cmpR ho ha hb hm) fun σ H Q h => rc_read (a := a) (b := b) h
/-- from a value's reading to a test's -/
theorem RT.val {f : Sem1} {K : PySem.W.Frag} {σ : L2.St} {H : Hp} {Q : Bool → Hp → Prop} (h : RT K S W f σ H Q) : RD K S W f σ H fun x H' => ∃ k, x = .bl k ∧ Q k H' := by
  obtain ⟨w, δ, M, m, r, p⟩ := h
  refine ⟨w, δ, M, m, r, ?_⟩
  cases q : f δ M with
  | ok d M1 =>
    rw [q] at p
    cases d with
    | bl b => exact fun w' H' v e' m' r' => ⟨b, r'.bl_inv, p w' H' b e' m' rfl⟩
    | _ => exact p.elim
  | exc x M1 => rw [q] at p; exact p
  | stuck => rw [q] at p; exact p
theorem dt_cmp {a b : Expr} {ta tb : T} {o : OC} {op : CmpOp} {pos : Pos} (ho : OpR X (compareOp op) (RC X.K S fun M => cmp2 M o)) (ha : DE X S W a (ev Φ ta)) (hb : DE X S W b (ev Φ tb)) (hm : behindInMarks op b = false) :
    DT X S W (.Compare a [op] [b] pos) (ev Φ (.cmp o ta tb)) := PT.imp (pt_cmpR ho ha hb hm) fun σ H Q h => rc_read (a := a) (b := b) h.val
theorem chn_read {ta tb tc : T} {o o' : OC} {Q : VK} {σ : L2.St} {H : Hp} (h : RD X.K S W (ev Φ (.chn o o' ta tb tc)) σ H Q) :
    tChain (RC X.K S fun M => cmp2 M o) (RC X.K S fun M => cmp2 M o') (RD X.K S W (ev Φ ta)) (RD X.K S W (ev Φ tb)) (RD X.K S W (ev Φ tc)) σ H Q := by
  obtain ⟨w, δ, M, m, r, p⟩ := h
  unfold ev at p
  refine ⟨w, δ, M, m, r, p.step.mono fun x H1 ⟨w1, M1, d1, e1, m1, r1, p1⟩ => ⟨w1, δ, M1, m1, r.mono e1, p1.step.mono fun y H2 ⟨w2, M2, d2, e2, m2, r2, p2⟩ => ⟨w2, M2, d1, d2, m2, r1.mono e2, r2, ?_⟩⟩⟩
  cases q : cmp2 M2 o d1 d2 with
  | none => rw [q] at p2; exact p2.elim
  | some t =>
    rw [q] at p2
    refine ⟨.bl t, by show (cmp2 M2 o d1 d2).map D.bl = _; rw [q]; rfl, fun w3 H3 v e3 m3 r3 => ⟨t, r3.bl_inv, ?_⟩⟩
    cases t with
    | true =>
      rw [if_pos rfl]
      exact ⟨w3, δ, M2, m3, (r.mono e1).mono (e2.trans e3), (p2.shift e3).step.mono fun z H4 ⟨w4, M4, d4, e4, m4, r4, p4⟩ => ⟨w4, M4, d2, d4, m4, (r2.mono e3).mono e4, r4, ansB_of p4⟩⟩
    | false =>
      rw [if_neg (by decide)]
      exact p2.donee e3 m3 (.bl false)
theorem de_chn {a b c : Expr} {ta tb tc : T} {o o' : OC} {op op' : CmpOp} {pos : Pos} (ho : OpR X (compareOp op) (RC X.K S fun M => cmp2 M o)) (ho' : OpR X (compareOp op') (RC X.K S fun M => cmp2 M o')) (ha : DE X S W a (ev Φ ta)) (hb : DE X S W b (ev Φ tb)) (hc : DE X S W c (ev Φ tc))
    (hm : behindInMarks op' c = false) : DE X S W (.Compare a [op, op'] [b, c] pos) (ev Φ (.chn o o' ta tb tc)) := PE.imp (pe_chain ho ho' ha hb hc hm) fun σ H Q h => chn_read h
theorem dt_chn {a b c : Expr} {ta tb tc : T} {o o' : OC} {op op' : CmpOp} {pos : Pos} (ho : OpR X (compareOp op) (RC X.K S fun M => cmp2 M o)) (ho' : OpR X (compareOp op') (RC X.K S fun M => cmp2 M o')) (ha : DE X S W a (ev Φ ta)) (hb : DE X S W b (ev Φ tb)) (hc : DE X S W c (ev Φ tc))
    (hm : behindInMarks op' c = false) : DT X S W (.Compare a [op, op'] [b, c] pos) (ev Φ (.chn o o' ta tb tc)) := PT.imp (pt_chain ho ho' ha hb hc hm) fun σ H Q h => chn_read h.val
end
end CB
end
section
set_option maxHeartbeats 1000000
/-! CB14: tests, slices, cells. -/
namespace CB
open PySem PySem.Spec L2
open PyProof.Rows hiding St
section
variable {α β γ ε : Type} {K : PySem.W.Frag} {S : Sx} {W : WX} {σ : L2.St} {w w1 : Wd} {H H1 : Hp} {R2 : Wd → Hp → ε → γ → Prop} {Q2 : ε → Hp → Prop} {Q : VK}
theorem Post.test {r : Rs D} {g : Bool → Mem → Rs γ} (h : Post K S W σ R2 w H Q2 (r.test g)) :
    Post K S W σ (Rep K S) w H (fun v H1 => ∃ c, v = .bl c ∧ ∃ w1 M1, Evo w H w1 H1 ∧ RelM K S w1 H1 M1 ∧ Post K S W σ R2 w1 H1 Q2 (g c M1)) r := by
  cases r with
  | ok a M =>
    cases a with
    | bl b => exact fun w' H' v e m r => ⟨b, r.bl_inv, w', M, e, m, h.shift e⟩
    | _ => exact h.elim
  | exc x M => exact h
  | stuck => exact h
theorem Post.testT {r : Rs D} {g : Bool → Mem → Rs γ} (h : Post K S W σ R2 w H Q2 (r.test g)) :
    Post K S W σ (fun _ _ (b : Bool) (c : Bool) => b = c) w H (fun c H1 => ∃ w1 M1, Evo w H w1 H1 ∧ RelM K S w1 H1 M1 ∧ Post K S W σ R2 w1 H1 Q2 (g c M1)) (r.test fun b M => .ok b M) := by
  cases r with
  | ok a M =>
    cases a with
    | bl b =>
      intro w' H' c e m r
      subst r
      exact ⟨w', M, e, m, h.shift e⟩
    | _ => exact h.elim
  | exc x M => exact h
  | stuck => exact h
theorem Post.unbl {r : Rs D} (h : Post K S W σ (Rep K S) w H Q (r.test fun c M => .ok (.bl c) M)) : Post K S W σ (Rep K S) w H Q r := by
  cases r with
  | ok a M =>
    cases a with
    | bl b => exact h
    | _ => exact h.elim
  | exc x M => exact h
  | stuck => exact h
end
theorem Rs.test_test {α : Type} (r : Rs D) (g : Bool → Mem → Rs α) : (r.test fun c M => .ok (.bl c) M).test g = r.test g := by
  cases r with
  | ok a M => cases a <;> rfl
  | exc x M => rfl
  | stuck => rfl
section
variable {X : Cx} {S : Sx} {W : WX} {Φ : Nat → List D → Mem → Rs D}
abbrev DW (X : Cx) (S : Sx) (W : WX) (e : Expr) (f : Sem1) : Prop := PW X e (RT X.K S W f)
theorem de_not {a : Expr} {t : T} {pos : Pos} (ha : DE X S W a (ev Φ t)) : DE X S W (.UnaryOp .Not a pos) (ev Φ (.not t)) :=
  PE.imp (pe_not ha) fun σ H Q ⟨w, δ, M, m, r, p⟩ => by
    unfold ev at p
    exact ⟨w, δ, M, m, r, p.test.mono fun v H1 ⟨c, h, w1, M1, e1, m1, p1⟩ => ⟨c, h, p1.done m1 (Rep.bl _)⟩⟩
theorem dt_not {a : Expr} {t : T} {pos : Pos} (ha : DT X S W a (ev Φ t)) : DT X S W (.UnaryOp .Not a pos) (ev Φ (.not t)) :=
  PT.imp (pt_not ha) fun σ H Q ⟨w, δ, M, m, r, p⟩ => by
    unfold ev at p
    have p2 : Post X.K S W σ (fun _ _ (b : Bool) (c : Bool) => b = c) w H Q ((ev Φ t δ M).test fun b M => .ok (!b) M) := by
      cases q : ev Φ t δ M with
      | ok a M1 => rw [q] at p; cases a <;> exact p
      | exc x M1 => rw [q] at p; exact p
      | stuck => rw [q] at p; exact p
    exact ⟨w, δ, M, m, r, p2.testT.mono fun c H1 ⟨w1, M1, e1, m1, p1⟩ => p1.done m1 rfl⟩
theorem de_and {a b : Expr} {rest : List Expr} {ta tb : T} {pos : Pos} (ha : DE X S W a (ev Φ ta)) (hb : DE X S W (.BoolOp .And (b :: rest) pos) (ev Φ tb)) : DE X S W (.BoolOp .And (a :: b :: rest) pos) (ev Φ (.and ta tb)) :=
  PE.imp (pe_and ha hb) fun σ H Q ⟨w, δ, M, m, r, p⟩ => by
    unfold ev at p
    refine ⟨w, δ, M, m, r, p.test.mono fun v H1 ⟨c, h, w1, M1, e1, m1, p1⟩ => ⟨c, h, ?_⟩⟩
    cases c with
    | true => rw [if_pos rfl] at p1 ⊢; exact ⟨w1, δ, M1, m1, r.mono e1, p1.unbl⟩
    | false => rw [if_neg (by decide)] at p1 ⊢; exact p1.done m1 (Rep.bl _)
theorem de_or {a b : Expr} {rest : List Expr} {ta tb : T} {pos : Pos} (ha : DE X S W a (ev Φ ta)) (hb : DE X S W (.BoolOp .Or (b :: rest) pos) (ev Φ tb)) : DE X S W (.BoolOp .Or (a :: b :: rest) pos) (ev Φ (.or ta tb)) :=
  PE.imp (pe_or ha hb) fun σ H Q ⟨w, δ, M, m, r, p⟩ => by
    unfold ev at p
    refine ⟨w, δ, M, m, r, p.test.mono fun v H1 ⟨c, h, w1, M1, e1, m1, p1⟩ => ⟨c, h, ?_⟩⟩
    cases c with
    | true => rw [if_pos rfl] at p1 ⊢; exact p1.done m1 (Rep.bl _)
    | false => rw [if_neg (by decide)] at p1 ⊢; exact ⟨w1, δ, M1, m1, r.mono e1, p1.unbl⟩
theorem dw_and {a b : Expr} {rest : List Expr} {ta tb : T} {pos : Pos} (ha : DT X S W a (ev Φ ta)) (hb : DW X S W (.BoolOp .And (b :: rest) pos) (ev Φ tb)) : DW X S W (.BoolOp .And (a :: b :: rest) pos) (ev Φ (.and ta tb)) := by
  refine ⟨fun wh pins s σ H Q I z => (pw_and ha hb).run wh pins s σ H Q I ?_⟩
  obtain ⟨w, δ, M, m, r, p⟩ := z
  unfold ev at p
  have p2 : Post X.K S W σ (fun _ _ (b : Bool) (c : Bool) => b = c) w H Q ((ev Φ ta δ M).test fun c M1 => if c = true then (ev Φ tb δ M1).test fun b M => .ok b M else .ok false M1) := by
    cases q : ev Φ ta δ M with
    | ok a M1 =>
      rw [q] at p
      cases a with
      | bl c =>
        cases c with
        | true =>
          have p : Post X.K S W σ (fun _ _ (b : Bool) (c : Bool) => b = c) w H Q (((ev Φ tb δ M1).test fun c M => .ok (.bl c) M).test fun b M => .ok b M) := p
          rw [Rs.test_test] at p
          exact p
        | false => exact p
      | _ => exact p
    | exc x M1 => rw [q] at p; exact p
    | stuck => rw [q] at p; exact p
  refine ⟨w, δ, M, m, r, p2.testT.mono fun c H1 ⟨w1, M1, e1, m1, p1⟩ => ?_⟩
  cases c with
  | true => rw [if_pos rfl] at p1 ⊢; exact ⟨w1, δ, M1, m1, r.mono e1, p1⟩
  | false => rw [if_neg (by decide)] at p1 ⊢; exact p1.done m1 rfl
theorem dw_or {a b : Expr} {rest : List Expr} {ta tb : T} {pos : Pos} (ha : DT X S W a (ev Φ ta)) (hb : DW X S W (.BoolOp .Or (b :: rest) pos) (ev Φ tb)) : DW X S W (.BoolOp .Or (a :: b :: rest) pos) (ev Φ (.or ta tb)) := by
  refine ⟨fun wh pins s σ H Q I z => (pw_or ha hb).run wh pins s σ H Q I ?_⟩
  obtain ⟨w, δ, M, m, r, p⟩ := z
  unfold ev at p
  have p2 : Post X.K S W σ (fun _ _ (b : Bool) (c : Bool) => b = c) w H Q ((ev Φ ta δ M).test fun c M1 => if c = true then .ok true M1 else (ev Φ tb δ M1).test fun b M => .ok b M) := by
    cases q : ev Φ ta δ M with
    | ok a M1 =>
      rw [q] at p
      cases a with
      | bl c =>
        cases c with
        | true => exact p
        | false =>
          have p : Post X.K S W σ (fun _ _ (b : Bool) (c : Bool) => b = c) w H Q (((ev Φ tb δ M1).test fun c M => .ok (.bl c) M).test fun b M => .ok b M) := p
          rw [Rs.test_test] at p
          exact p
      | _ => exact p
    | exc x M1 => rw [q] at p; exact p
    | stuck => rw [q] at p; exact p
  refine ⟨w, δ, M, m, r, p2.testT.mono fun c H1 ⟨w1, M1, e1, m1, p1⟩ => ?_⟩
  cases c with
  | true => rw [if_pos rfl] at p1 ⊢; exact p1.done m1 rfl
  | false => rw [if_neg (by decide)] at p1 ⊢; exact ⟨w1, δ, M1, m1, r.mono e1, p1⟩
/-- a value that is a bool, as a test -/
theorem dt_val {e : Expr} {f : Sem1} (h : DE X S W e f) (he : ∀ whole, isTrue e X.env whole = (do let v ← whole; standAt e.pos; holding [v] (truthy v))) : DT X S W e f := PT.imp (pt_val h he) fun σ H Q h => h.val
theorem de_ite {c a b : Expr} {tc ta tb : T} {pos : Pos} (hc : DT X S W c (ev Φ tc)) (ha : DE X S W a (ev Φ ta)) (hb : DE X S W b (ev Φ tb)) : DE X S W (.IfExp c a b pos) (ev Φ (.ite tc ta tb)) :=
  PE.imp (pe_ifExp hc ha hb) fun σ H Q ⟨w, δ, M, m, r, p⟩ => by
    unfold ev at p
    refine ⟨w, δ, M, m, r, p.testT.mono fun c H1 ⟨w1, M1, e1, m1, p1⟩ => ?_⟩
    cases c with
    | true => rw [if_pos rfl] at p1 ⊢; exact ⟨w1, δ, M1, m1, r.mono e1, p1⟩
    | false => rw [if_neg (by decide)] at p1 ⊢; exact ⟨w1, δ, M1, m1, r.mono e1, p1⟩
theorem de_neg {a : Expr} {ta : T} {pos : Pos} (ha : DE X S W a (ev Φ ta)) : DE X S W (.UnaryOp .USub a pos) (ev Φ (.neg ta)) :=
  PE.imp (pe_un un_neg ha) fun σ H Q ⟨w, δ, M, m, r, p⟩ => by
    unfold ev at p
    refine ⟨w, δ, M, m, r, p.step.mono fun v H1 ⟨w1, M1, d, e1, m1, r1, p1⟩ => ?_⟩
    cases d with
    | int i => exact ⟨i, r1.int_inv, p1.done m1 (Rep.int _)⟩
    | _ => exact p1.elim
/-! ### slices -/
abbrev DP (X : Cx) (S : Sx) (W : WX) (e : Option Expr) (f : Env → Mem → Rs (Option Int)) : Prop := PO X e (RP X.K S W f)
theorem dp_no : DP X S W none (evo Φ .no) := PO.imp po_none fun σ H Q ⟨w, δ, M, m, r, p⟩ => by
  unfold evo at p
  exact p.done m rfl
theorem dp_yes {e : Expr} {t : T} (h : DE X S W e (ev Φ t)) : DP X S W (some e) (evo Φ (.yes t)) := PO.imp (po_some h) fun σ H Q ⟨w, δ, M, m, r, p⟩ => by
  unfold evo at p
  refine ⟨w, δ, M, m, r, p.step.mono fun v H1 ⟨w1, M1, d, e1, m1, r1, p1⟩ => ?_⟩
  cases d with
  | int i => exact ⟨i, r1.int_inv, p1.done m1 rfl⟩
  | _ => exact p1.elim
theorem cut_rep {K : PySem.W.Frag} {w : Wd} {H : Hp} {xs : List V} {ds : List D} {lo hi : Option Int} (r : RepL K S w H xs ds) : RepL K S w H (cutV xs lo hi) (cutD ds lo hi) := by
  unfold cutV cutD
  rw [r.length]
  exact (r.drop _).take _
theorem cut_whole {ds : List D} {lo hi : Option Int} (h : HT.sIx ds.length 0 lo = 0 ∧ HT.sIx ds.length ds.length hi = ds.length) : cutD ds lo hi = ds := by
  unfold cutD
  rw [h.1, h.2]
  simp
theorem sl_D : SlR X fun x lo hi H Q => ∃ w M d, RelM X.K S w H M ∧ Rep X.K S w H x d ∧ Ans X.K S w H Q M (slc3 M d lo hi) := by
  have h := SlR.or (X := X) (sl_tupF (X := X)) (SlR.or sl_list sl_str)
  intro pins s σ H x v vl vu lo hi sl Q I rx hs pl pu ⟨w, M, d, m, r, a⟩
  refine h pins s σ H x v vl vu lo hi sl Q I rx hs pl pu ?_
  obtain ⟨u, e, k⟩ := a
  unfold slc3 at e
  split at e
  · cases e
    obtain ⟨a, xs, rfl, hq, rl⟩ := r.tup_inv
    refine .inl ⟨a, xs, rfl, hq, fun hw => ?_, fun p o hp ho => Fol.tup k m (cut_rep rl) hp ho⟩
    rw [rl.length] at hw
    exact Fol.here k m (by rw [cut_whole hw]; exact r)
  · rename_i z
    split at e
    · rename_i hz
      cases e
      refine .inr (.inr ⟨z, r.str_inv, by rw [← RelM.line]; exact hz, Fol.here k m (Rep.str _)⟩)
    · cases e
  · cases q : asL M d with
    | none => rw [q] at e; cases e
    | some l =>
      rw [q] at e
      cases e
      obtain ⟨a, xs, rfl, hq, rl⟩ := r.asL m q
      exact .inr (.inl ⟨a, xs, rfl, .inl (.inl hq), fun p hp => Fol.lst k m (cut_rep rl) hp⟩)
theorem de_slc {e : Expr} {lo hi : Option Expr} {t : T} {tl th : To} {p2 pos : Pos} (he : DE X S W e (ev Φ t)) (hl : DP X S W lo (evo Φ tl)) (hh : DP X S W hi (evo Φ th)) : DE X S W (.Subscript e (.Slice lo hi none p2) pos) (ev Φ (.slc t tl th)) :=
  PE.imp (pe_slice (sl_D (S := S)) he hl hh) fun σ H Q ⟨w, δ, M, m, r, p⟩ => by
    unfold ev at p
    refine ⟨w, δ, M, m, r, p.step.mono fun v H1 ⟨w1, M1, d, e1, m1, r1, p1⟩ => ⟨w1, δ, M1, m1, r.mono e1, p1.step.mono fun l H2 ⟨w2, M2, l', e2, m2, r2, p2⟩ => ?_⟩⟩
    subst r2
    refine ⟨w2, δ, M2, m2, (r.mono e1).mono e2, p2.step.mono fun u H3 ⟨w3, M3, u', e3, m3, r3, p3⟩ => ?_⟩
    subst r3
    exact ⟨w3, M3, d, m3, (r1.mono e2).mono e3, ans_of p3⟩
end
/-! ### cells -/
section
variable {K : PySem.W.Frag} {S : Sx} {w : Wd} {H : Hp} {M : Mem} {p : Addr}
def Wd.cell (w : Wd) (p : Addr) : Wd := { w with ρ := w.ρ ++ [p] }
theorem cell_evo {o : HO} (m : RelM K S w H M) (hp : H p = none) : Evo w H (w.cell p) (upd H p o) :=
  ⟨fun i a h => by
    have hi : i < w.ρ.length := (List.getElem?_eq_some_iff.mp h).1
    show (w.ρ ++ [p])[i]? = _
    rw [List.getElem?_append_left hi]; exact h, fun _ h => h, fun a z => upd_ne fun e => m.zed a z (by rw [e]; exact hp), rfl⟩
theorem app1 {α : Type} {l : List α} {x y : α} {i : Nat} (h : (l ++ [x])[i]? = some y) : l[i]? = some y ∨ (i = l.length ∧ x = y) := by
  by_cases hi : i < l.length
  · rw [List.getElem?_append_left hi] at h; exact .inl h
  · rw [List.getElem?_append_right (by omega)] at h
    have : i - l.length = 0 := by
      by_cases q : i - l.length = 0
      · exact q
      · rw [List.getElem?_eq_none (by simp; omega)] at h; cases h
    rw [this] at h
    simp at h
    exact .inr ⟨by omega, h⟩
theorem cell_rel {o : HO} {u : MO} (m : RelM K S w H M) (hp : H p = none) (hu : MRep K S (w.cell p) (upd H p o) p u) : RelM K S (w.cell p) (upd H p o) (M ++ [u]) := by
  have hold : ∀ (i : Nat) (u' : MO) (a : Addr), M[i]? = some u' → u'.live → w.ρ[i]? = some a → a ≠ p := fun i u' a h1 l h2 e => (m.obj i u' a h1 h2).some l (by rw [e]; exact hp)
  have hl := m.len
  have hm : ∀ (i : Nat) (u' : MO) (a : Addr), (M ++ [u])[i]? = some u' → (w.ρ ++ [p])[i]? = some a → (M[i]? = some u' ∧ w.ρ[i]? = some a) ∨ (i = M.length ∧ u = u' ∧ p = a) := fun i u' a h1 h2 => by
    rcases app1 h1 with h1 | ⟨h1, h1'⟩
    · rcases app1 h2 with h2 | ⟨h2, _⟩
      · exact .inl ⟨h1, h2⟩
      · have := (List.getElem?_eq_some_iff.mp h1).1; omega
    · rcases app1 h2 with h2 | ⟨h2, h2'⟩
      · have := (List.getElem?_eq_some_iff.mp h2).1; omega
      · exact .inr ⟨h1, h1', h2'⟩
  refine ⟨by show (w.ρ ++ [p]).length = _; simp [hl], fun i u' a h1 h2 => ?_, fun i j u1 u2 a h1 h2 l1 l2 h3 h4 => ?_, fun i u' a h1 l h2 => ?_, fun a z => ?_, m.zp, fun a q xs => ?_⟩
  · rcases hm i u' a h1 h2 with ⟨h1, h2⟩ | ⟨_, e1, e2⟩
    · exact (m.obj i u' a h1 h2).mono (cell_evo m hp) fun l => upd_ne (hold i u' a h1 l h2)
    · subst e1 e2; exact hu
  · rcases hm i u1 a h1 h3 with ⟨x1, x2⟩ | ⟨x0, x1, x2⟩
    · rcases hm j u2 a h2 h4 with ⟨y1, y2⟩ | ⟨y0, y1, y2⟩
      · exact m.inj i j u1 u2 a x1 y1 l1 l2 x2 y2
      · exact absurd y2.symm (hold i u1 a x1 l1 x2)
    · rcases hm j u2 a h2 h4 with ⟨y1, y2⟩ | ⟨y0, y1, y2⟩
      · exact absurd x2.symm (hold j u2 a y1 l2 y2)
      · omega
  · rcases hm i u' a h1 h2 with ⟨h1, h2⟩ | ⟨_, e1, e2⟩
    · exact m.sep i u' a h1 l h2
    · subst e2
      exact ⟨fun z => m.zed p (.inl z) hp, fun z => m.zed p (.inr z) hp⟩
  · by_cases e : a = p
    · rw [e, upd_same]; simp
    · rw [upd_ne e]; exact m.zed a z
  · have e : a ≠ p := fun e => m.zed a (.inr q) (by rw [e]; exact hp)
    rw [upd_ne e]; exact m.prl a q xs
theorem cell_loc (m : RelM K S w H M) {H' : Hp} : Rep K S (w.cell p) H' (.ref p) (.loc M.length) := .loc (by
  show (w.ρ ++ [p])[M.length]? = some p
  rw [← m.len]; simp)
/-- a cell that is given up: its object never changes again -/
def Wd.ice (w : Wd) (p : Addr) : Wd := { w with Z := fun a => w.Z a ∨ a = p }
theorem ice_evo : Evo w H (w.ice p) H := ⟨fun _ _ h => h, fun _ h => .inl h, fun _ _ => rfl, rfl⟩
theorem ice_rel {n : Nat} {o : MO} (m : RelM K S w H M) (h1 : M[n]? = some o) (l : o.live) (h2 : w.ρ[n]? = some p) : RelM K S (w.ice p) H (M.set n .dead) := by
  have hn : ∀ (i : Nat) (u : MO), (M.set n .dead)[i]? = some u → u.live → M[i]? = some u ∧ i ≠ n := fun i u h l => by
    by_cases e : n = i
    · subst e
      rw [List.getElem?_set_self (List.getElem?_eq_some_iff.mp h1).1] at h
      cases h; exact l.elim
    · rw [List.getElem?_set_ne e] at h; exact ⟨h, fun q => e q.symm⟩
  refine ⟨by rw [List.length_set]; exact m.len, fun i u a x1 x2 => ?_, fun i j u1 u2 a x1 x2 l1 l2 x3 x4 => ?_, fun i u a x1 l' x2 => ?_, fun a z => ?_, fun a z q => ?_, m.prl⟩
  · by_cases e : n = i
    · subst e
      rw [List.getElem?_set_self (List.getElem?_eq_some_iff.mp h1).1] at x1
      cases x1; exact .dead
    · rw [List.getElem?_set_ne e] at x1; exact (m.obj i u a x1 x2).mono ice_evo fun _ => rfl
  · exact m.inj i j u1 u2 a (hn i u1 x1 l1).1 (hn j u2 x2 l2).1 l1 l2 x3 x4
  · obtain ⟨y, q⟩ := hn i u x1 l'
    refine ⟨fun z => z.elim (m.sep i u a y l' x2).1 fun e => q ?_, (m.sep i u a y l' x2).2⟩
    subst e
    exact m.inj i n u o a y h1 l' l x2 h2
  · rcases z with (z | z) | z
    · exact m.zed a (.inl z)
    · subst z; exact (m.obj n o a h1 h2).some l
    · exact m.zed a (.inr z)
  · rcases z with z | z
    · exact m.zp a z q
    · subst z; exact (m.sep n o a h1 l h2).2 q
end
section
variable {X : Cx} {S : Sx} {W : WX} {Φ : Nat → List D → Mem → Rs D}
theorem de_mk {e : Expr} {t : T} (h : FE X S W e (ev Φ t)) : DE X S W e (ev Φ (.mk t)) :=
  PE.imp h fun σ H Q ⟨w, δ, M, m, r, p⟩ => by
    unfold ev at p
    refine ⟨w, δ, M, m, r, ?_⟩
    cases q : ev Φ t δ M with
    | ok d M1 =>
      rw [q] at p
      cases d with
      | lst ds => exact fun w' H' a xs e' m' r' hn => Post.donee p (e'.trans (cell_evo m' hn)) (cell_rel m' hn (.lst upd_same (r'.mono (cell_evo m' hn)))) (cell_loc m')
      | dct ds => exact fun w' H' a xs e' m' r' hn => Post.donee p (e'.trans (cell_evo m' hn)) (cell_rel m' hn (.dct upd_same (r'.mono (cell_evo m' hn)))) (cell_loc m')
      | _ => exact p.elim
    | exc x M1 => rw [q] at p; exact p
    | stuck => rw [q] at p; exact p
theorem de_frz {i : Nat} {x : Str} {pos : Pos} (hN : X.N[i]? = some x) (hv : Vis X.env.scope x) (hd : (x == ("__debug__" : Str)) = false) (hcd : (x == ("__classdict__" : Str)) = false) : DE X S W (.Name x pos) (ev Φ (.frz i)) :=
  PE.imp (pe_var hN hv hd hcd) fun σ H Q ⟨w, δ, M, m, r, p⟩ => by
    unfold ev at p
    cases q : getVar δ i with
    | none => rw [q] at p; exact p.elim
    | some d =>
      rw [q] at p
      obtain ⟨v, h1, h2⟩ := r.get i d (getVar_some q)
      refine ⟨v, h1, ?_⟩
      have p : Post X.K S W σ (Rep X.K S) w H Q (frzD d M) := p
      unfold frzD at p
      split at p
      · rename_i n
        split at p
        · rename_i l hM
          obtain ⟨a, rfl, g1, g2⟩ := m.loc hM h2
          cases g2 with
          | lst hh rr => exact p.donee ice_evo (ice_rel m hM True.intro g1) (.lst (.inr rfl) hh (rr.mono ice_evo))
        · rename_i l hM
          obtain ⟨a, rfl, g1, g2⟩ := m.loc hM h2
          cases g2 with
          | dct hh rr => exact p.donee ice_evo (ice_rel m hM True.intro g1) (.dct (.inr rfl) (.inl hh) (rr.mono ice_evo))
        · exact p.elim
      · exact p.elim
end
end CB
end
section
set_option maxHeartbeats 1000000
/-! CB15: calls. -/
namespace CB
open PySem PySem.Spec L2
open PyProof.Rows hiding St
section
variable {X : Cx} {S : Sx} {W : WX} {Φ : Nat → List D → Mem → Rs D}
/-! ### plain expressions (no star) -/
def unStar : Expr → Bool
  | .Starred _ _ => false
  | _ => true
theorem star_cons {e : Expr} {es : List Expr} {env : PySem.Env} (h : unStar e = true) : starEach (e :: es) env = (false, eval e env) :: starEach es env := by
  cases e <;> first | rfl | cases h
theorem star_any {es : List Expr} {env : PySem.Env} {pos : Pos} (h : es.all unStar = true) : (backTo pos (starEach es env)).any (·.1) = false := by
  induction es with
  | nil => rfl
  | cons e r ih =>
    simp only [List.all_cons, Bool.and_eq_true] at h
    rw [star_cons h.1]
    show (false || (backTo pos (starEach r env)).any (·.1)) = false
    rw [ih h.2]; rfl
theorem star_all {es : List Expr} {env : PySem.Env} {pos : Pos} (h : es.all unStar = true) : (backTo pos (starEach es env)).all (fun x => !x.1) = true := by
  induction es with
  | nil => rfl
  | cons e r ih =>
    simp only [List.all_cons, Bool.and_eq_true] at h
    rw [star_cons h.1]
    show (true && (backTo pos (starEach r env)).all (fun x => !x.1)) = true
    rw [ih h.2]; rfl
/-! ### built-ins -/
theorem rb_of {o : OB} {ts : Ts} {σ : L2.St} {H : Hp} {Q : VK} (h : RD X.K S W (ev Φ (.b o ts)) σ H Q) : tCB (RB X.K S fun M => callB M o) (RA X.K S W (evs Φ ts)) σ H Q := by
  obtain ⟨w, δ, M, m, r, p⟩ := h
  unfold ev at p
  exact ⟨w, δ, M, m, r, p.step.mono fun vs H1 ⟨w1, M1, ds, e1, m1, r1, p1⟩ => ⟨w1, M1, ds, m1, r1, ans_of p1⟩⟩
theorem de_blt {e : Expr} {es : List Expr} {ts : Ts} {o : OB} {id : String} {x : Str} {p pos : Pos} (hc : CallR X (.builtin id) (RB X.K S fun M => callB M o)) (hg : Gl X x) (hm : X.mg x = none) (hv : bootBuiltins x = some (.builtin id)) (ha : DA X S W (e :: es) (evs Φ ts))
    (hn : x ≠ "__name__") (hdb : (x == ("__debug__" : Str)) = false) (hs : (e :: es).all unStar = true) : DE X S W (.Call (.Name x p) (e :: es) [] pos) (ev Φ (.b o ts)) := by
  have h2 := hs
  simp only [List.all_cons, Bool.and_eq_true] at h2
  exact PE.imp (pe_callB hc hg hm hv ha hn hdb (star_cons h2.1) (star_any h2.2)) fun σ H Q h => rb_of h
theorem de_bltT {e : Expr} {es : List Expr} {ts : Ts} {o : OB} {id : String} {x : Str} {p pos : Pos} (hc : CallR X (.type id) (RB X.K S fun M => callB M o)) (hg : Gl X x) (hm : X.mg x = none) (hv : bootBuiltins x = some (.type id)) (ha : DA X S W (e :: es) (evs Φ ts))
    (hn : x ≠ "__name__") (hdb : (x == ("__debug__" : Str)) = false) (hs : (e :: es).all unStar = true) : DE X S W (.Call (.Name x p) (e :: es) [] pos) (ev Φ (.b o ts)) := by
  have h2 := hs
  simp only [List.all_cons, Bool.and_eq_true] at h2
  exact PE.imp (pe_callTy hc hg hm hv ha hn hdb (star_cons h2.1) (star_any h2.2)) fun σ H Q h => rb_of h
/-! ### methods -/
theorem de_me (hu : X.A.units + 90 < cLine) {o e : Expr} {es : List Expr} {t : T} {ts : Ts} {m : OM} {apos cpos : Pos} (ho : DE X S W o (ev Φ t)) (ha : DA X S W (e :: es) (evs Φ ts))
    (hbase : attributeBase o (omName m) X.env (eval o X.env) = eval o X.env) (hline : (apos.endLine == cpos.line) = true) (hl : (e :: es).length < 30) (hs : (e :: es).all unStar = true) : DE X S W (.Call (.Attribute o (omName m) apos) (e :: es) [] cpos) (ev Φ (.m m t ts)) := by
  have h2 := hs
  simp only [List.all_cons, Bool.and_eq_true] at h2
  refine PE.imp (pe_me ho ha hbase ?_ hline (star_cons h2.1) (star_any h2.2)) fun σ H Q ⟨w, δ, M, mm, r, p⟩ => ?_
  · rw [star_all hs]
    have hl2 : (e :: es).length + 0 + 0 < 30 := hl
    simp only [Bool.true_and, Bool.and_eq_true]
    exact ⟨rfl, decide_eq_true hl2⟩
  · unfold ev at p
    refine ⟨w, δ, M, mm, r, p.step.mono fun x H1 ⟨w1, M1, d, e1, m1, r1, p1⟩ => ?_⟩
    cases hk : mKind M1 d with
    | none => rw [hk] at p1; exact p1.elim
    | some k =>
      rw [hk] at p1
      obtain ⟨hf, p1⟩ := post_ite p1
      have hT : (mId m k).1 = mkT k ∧ m ≠ .replace := by
        cases m <;> cases k <;> first | exact ⟨rfl, by decide⟩ | cases hf
      refine ⟨(mId m k).1, (mId m k).2, mId_ok hT.2, by rw [hT.1]; exact Rep.tyKind m1 r1 hk, w1, δ, M1, m1, r.mono e1, p1.step.mono fun vs H2 ⟨w2, M2, ds, e2, m2, r2, p2⟩ => ?_⟩
      exact me_go hu m2 (r1.mono e2) r2 (ans_of p2)
end
/-! ### isinstance -/
section
variable {X : Cx} {S : Sx} {W : WX} {Φ : Nat → List D → Mem → Rs D}
theorem isOf_rep {w : Wd} {H : Hp} {M : Mem} {v : V} {d : D} {ty : Ty} {b : Bool} (m : RelM X.K S w H M) (r : Rep X.K S w H v d) (e : isOf M ty d = some b) :
    ∃ a : String, TyX X.K H v (.type a) ∧ a ∈ ["NoneType", "bool", "int", "str", "tuple", "list", "dict"] ∧ b = (a == tyName ty || (a == "bool" && tyName ty == "int")) := by
  cases d with
  | non => cases r; cases e; exact ⟨_, .base .non, by decide, by cases ty <;> decide⟩
  | bl k => cases r; cases ty <;> (cases e; exact ⟨_, .base (.bl _), by decide, by decide⟩)
  | int k => cases r; cases ty <;> (cases e; exact ⟨_, .base (.int _), by decide, by decide⟩)
  | str k => cases r; cases ty <;> (cases e; exact ⟨_, .base (.str _), by decide, by decide⟩)
  | tup l =>
    have h2 : b = (tyName ty == "tuple") := by cases ty <;> (cases e; decide)
    subst h2
    cases r with
    | tup z h n r => exact ⟨_, .fTuple h, by decide, by cases ty <;> decide⟩
    | ktup h r => 
      obtain ⟨o, its, n, h1, h2, _⟩ := h
      exact ⟨_, .kTuple h1 h2, by decide, by cases ty <;> decide⟩
  | lst l =>
    have h2 : b = (tyName ty == "list") := by cases ty <;> (cases e; decide)
    subst h2
    obtain ⟨a, xs, rfl, h, _⟩ := r.lst_inv
    exact ⟨_, .base (.lst h), by decide, by cases ty <;> decide⟩
  | loc n =>
    unfold isOf at e
    simp only at e
    split at e
    · rename_i hM
      obtain ⟨a, rfl, h1, h2⟩ := m.loc hM r
      have h3 : b = (tyName ty == "list") := by cases ty <;> (cases e; decide)
      subst h3
      cases h2 with
      | lst h r => exact ⟨_, .base (.lst h), by decide, by cases ty <;> decide⟩
    · cases e
  | _ => cases e
theorem de_isi {a : Expr} {t : T} {ty : Ty} {x y : Str} {p p2 pos : Pos} (ha : DE X S W a (ev Φ t)) (hx : x = "isinstance") (hy : y = tyName ty) (hg : Gl X x) (hm : X.mg x = none) (hv : bootBuiltins x = some (.builtin "isinstance"))
    (hg2 : Gl X y) (hm2 : X.mg y = none) (hv2 : bootBuiltins y = some (.type (tyName ty))) (hn2 : y ≠ "__name__") (hd2 : (y == ("__debug__" : Str)) = false) (hn : x ≠ "__name__") (hd : (x == ("__debug__" : Str)) = false) (hs : unStar a = true) :
    DE X S W (.Call (.Name x p) [a, .Name y p2] [] pos) (ev Φ (.isi t ty)) := by
  refine PE.imp (pe_callB call_isi hg hm hv (pa_cons ha (pa_cons (pe_bltn hg2 hm2 hv2 (v := .ty (tyName ty)) rfl hn2 hd2) pa_nil (star_cons rfl)) (star_cons hs)) hn hd (star_cons hs) (star_any rfl)) fun σ H Q ⟨w, δ, M, m, r, p⟩ => ?_
  unfold ev at p
  refine ⟨w, δ, M, m, r, p.step.mono fun v H1 ⟨w1, M1, d, e1, m1, r1, p1⟩ => ?_⟩
  cases q : isOf M1 ty d with
  | none => rw [q] at p1; exact p1.elim
  | some b =>
    rw [q] at p1
    obtain ⟨a', h1, h2, h3⟩ := isOf_rep m1 r1 q
    refine ⟨v, .ty (tyName ty), .type a', .type (tyName ty), b, rfl, .ty _, h1, ?_, p1.done m1 (Rep.bl _)⟩
    rw [kit_all X.K a' ty h2, h3]
/-! ### defs -/
/-- what a def promises -/
def spF (K : PySem.W.Frag) (S : Sx) (φ : List D → Mem → Rs D) : Sp := fun vs H Q E => ∃ w M ds, RelM K S w H M ∧ RepL K S w H vs ds ∧ Post K S (fun c d _ H => E c d H) [] (Rep K S) w H Q (φ ds M)
def Callee (X : Cx) (S : Sx) (k : Nat) (φ : List D → Mem → Rs D) (x : Str) : Prop := ∃ a fd ps, FnOk X.prog X.w X.K X.mg X.base (L2.CX X.prog X.w) k a fd ps (spF X.K S φ) ∧ X.mg x = some (.ref a) ∧ PySem.W.keepIn X.K (.ref a) = true ∧ Binds X.K fd ps []
theorem post_at {α β : Type} {K : PySem.W.Frag} {σ : L2.St} {R : Wd → Hp → β → α → Prop} {w : Wd} {H : Hp} {Q : β → Hp → Prop} {r : Rs α} (p : Post K S W σ R w H Q r) : Post K S (fun c d _ H => WE W σ c d H) [] R w H Q r := by
  cases r with
  | ok a M => exact p
  | exc x M => exact p
  | stuck => exact p
theorem de_call {k : Nat} {e : Expr} {es : List Expr} {ts : Ts} {f : Nat} {x : Str} {p pos : Pos} (hf : Callee X S k (Φ f) x) (hr : Room k X.A) (tk : Takes X W) (hg : Gl X x) (ha : DA X S W (e :: es) (evs Φ ts)) (hdb : (x == ("__debug__" : Str)) = false) (hs : (e :: es).all unStar = true) :
    DE X S W (.Call (.Name x p) (e :: es) [] pos) (ev Φ (.call f ts)) := by
  have h2 := hs
  simp only [List.all_cons, Bool.and_eq_true] at h2
  obtain ⟨a, fd, ps, F, hm, hk, hb⟩ := hf
  refine PE.imp (pe_callS F hr hg hm hk hb (passAt tk) ha hdb (star_cons h2.1) (star_any h2.2)) fun σ H Q ⟨w, δ, M, m, r, p⟩ => ?_
  unfold ev at p
  exact ⟨w, δ, M, m, r, p.step.mono fun vs H1 ⟨w1, M1, ds, e1, m1, r1, p1⟩ => ⟨w1, M1, ds, m1, r1, post_at p1⟩⟩
theorem de_call0 {k : Nat} {f : Nat} {x : Str} {p pos : Pos} (hf : Callee X S k (Φ f) x) (hr : Room k X.A) (hg : Gl X x) (hdb : (x == ("__debug__" : Str)) = false) : DE X S W (.Call (.Name x p) [] [] pos) (ev Φ (.call0 f)) := by
  obtain ⟨a, fd, ps, F, hm, hk, hb⟩ := hf
  refine PE.imp (pe_call0 (E := fun _ _ _ => False) F hr hg hm hk hb .nil (fun pins σ H s e s' I c => ?_) (hdb := hdb)) fun σ H Q ⟨w, δ, M, m, r, p⟩ => ?_
  · obtain ⟨_, _, _, _, _, _, _, _, _, _, _, _, z⟩ := c
    exact z.elim
  · unfold ev at p
    refine ⟨w, M, [], m, .nil, ?_⟩
    cases q : Φ f [] M with
    | ok d M1 => rw [q] at p; exact p
    | exc x M1 => rw [q] at p; exact p.elim
    | stuck => rw [q] at p; exact p.elim
end
end CB
end
section
set_option maxHeartbeats 2000000
/-! CB16: enumerate over a tuple. -/
namespace CB
open PySem PySem.Spec L2
open PyProof.Rows hiding St
theorem meets_enum1 {v : Value} {o : Obj} {H : Heap → Prop} (B : Begins v o H) :
    Meets (Builtin.«enumerate.__new__» ⟨[.type "enumerate", v], []⟩) (fun _ R s => H s.heap ∧
      R (.ok (.ret (.ref (s.heap.push o).objs.size))) { s with heap := (s.heap.push o).push { cls := .type "enumerate", data := .fields #[.none, .bool false, .ref s.heap.objs.size, rawInt 0, .none, .none] } }) :=
  .of_wp fun prog w A R s h => by
    obtain ⟨hp, g, d, tk, os⟩ := s; obtain ⟨h1, h⟩ := h
    have hsub := sub_enumerate
    have q1 : ∀ {A' : Around} {E : Value → Shared → Prop} {Q : Value → Shared → Prop}, Q (.ref hp.objs.size) ⟨hp.push o, g, d, tk, os⟩ → wpAny (model prog w) A' (pyIter v) Q E ⟨hp, g, d, tk, os⟩ :=
      fun q => B.iter prog w _ _ ⟨hp, g, d, tk, os⟩ _ h1 q
    wp_walk
    refine wpAny_stack_any fun st => wpAny_pure ?_
    split
    · rename_i c _ _ _ _ _
      cases (c == Value.type "enumerate")
      · wp_walk using q1
        exact ⟨_, rfl, h⟩
      · wp_walk using q1
        exact ⟨_, rfl, h⟩
    · wp_walk using q1
      exact ⟨_, rfl, h⟩
section
variable {prog : Program} {w : World} {A : Around} {E : Value → Shared → Prop} {s : Shared}
theorem enum1_begins {v : Value} {o : Obj} {H : Heap → Prop} {Q : Value → Shared → Prop} (B : Begins v o H) (h1 : H s.heap)
    (h : ∀ h', IsEnum h' (s.heap.objs.size + 1) s.heap.objs.size 0 .none → h'.get? s.heap.objs.size = some o → h'.objs.size = s.heap.objs.size + 2 →
      (∀ b o, s.heap.get? b = some o → h'.get? b = some o) → Q (.ref (s.heap.objs.size + 1)) { s with heap := h' }) :
    wpAny (model prog w) A (call (.type "enumerate") [v]) Q E s := by
  refine callType_new F.called_enumerate (by decide) (F.typeCall_enumerate_1 _) (F.newCall_enumerate_1 _) (fun obj => F.args_object_init_2 obj _) F.entry_enumerate_new
    (meets_enum1 B) ⟨h1, ?_⟩
  have hz : (s.heap.push o).objs.size = s.heap.objs.size + 1 := Heap.size_push ..
  show _ ∧ _
  rw [hz]
  have he : IsEnum ((s.heap.push o).push { cls := .type "enumerate", data := .fields #[.none, .bool false, .ref s.heap.objs.size, rawInt 0, .none, .none] }) (s.heap.objs.size + 1) s.heap.objs.size 0 .none := by
    have := Heap.get?_push_size (s.heap.push o) (o := { cls := .type "enumerate", data := .fields #[.none, .bool false, .ref s.heap.objs.size, rawInt 0, .none, .none] }) rfl
    rw [hz] at this; exact this
  refine ⟨⟨_, he, rfl⟩, h _ he (Heap.get?_push_of_some _ (Heap.get?_push_size _ B.free)) (by rw [Heap.size_push, hz]) fun b o x => Heap.get?_push_of_some _ (Heap.get?_push_of_some _ x)⟩
end
/-- the tuple at a, each item in a new pair -/
def IteT (K : PySem.W.Frag) (a : Addr) : It :=
  ⟨fun i H => ∃ (xs : List V) (x : V), SqT K H a xs ∧ xs[i]? = some x, fun i H v H' => ∃ T x, v = .ref T ∧ H T = none ∧ H' = upd H T (.tup [.int (i : Nat), x]) ∧ ∀ xs, SqT K H a xs → xs[i]? = some x, fun i H => ∃ xs : List V, SqT K H a xs ∧ xs.length ≤ i⟩
theorem turn_enumT {P : Program} {w : World} {K : PySem.W.Frag} {elts : List Expr} {kk : Nat} {tpos : Pos} (a e it : Addr) (hai : a ≠ it) :
    Turn P w K (.Tuple elts kk tpos) (IteT K a) [e, it] e (fun i h => (∃ old, IsEnum h e it ((i : Nat) : Int) old) ∧ h.IsTupleIter it a i ∧ e ≠ it ∧ e ≠ a) where
  mem := by simp
  obj := fun i h st b hb => by
    obtain ⟨⟨old, he⟩, ⟨o, ho, hc, hd⟩, _⟩ := st
    have e' : b = e ∨ b = it := by simpa using hb
    rcases e' with z | z
    · rw [z]; exact ⟨_, he, fun v q => nomatch q⟩
    · rw [z]; exact ⟨o, ho, fun v q => by rw [hd] at q; cases q⟩
  keep := fun i h h' st k => let ⟨⟨old, he⟩, hi, hne⟩ := st; ⟨⟨old, k e (by simp) _ he⟩, hi.at fun o q => k it (by simp) o q, hne⟩
  item := by
    intro X hP hw hK hc i pins s σ H E I hf st hg
    subst hP hw hK
    obtain ⟨⟨old, he⟩, hit, hne, hea⟩ := st
    obtain ⟨xs, x, hq, hx⟩ := hg
    obtain ⟨its, rv, p, hz⟩ := I.tuple hq
    obtain ⟨u, hu, ru⟩ := rv.get hx
    have hel : e < s.heap.objs.size := Heap.lt_size he
    have hil : it < s.heap.objs.size := by obtain ⟨_, q, _⟩ := hit; exact Heap.lt_size q
    have hlt : i < its.toArray.size := by
      have := List.getElem?_eq_some_iff.mp hu
      simpa using this.1
    refine wpAny_pyNext_enum_itemD (Draws.tuple (prog := X.prog) (w := X.w) (A := X.A.in1) (I.ok.hd hc) it a hai its.toArray) he ⟨hit, p⟩ hlt hne (by simp [hne, hea]) fun x' h' tk hP ho st' hT hsz hk => ?_
    have ex' : x' = u := by
      have : its.toArray[i]? = some u := by simpa using hu
      rw [this] at hP; exact (Option.some.inj hP).symm
    subst ex'
    refine ⟨_, rfl, wpAny_letOwnedTupleGo_enum (s := { s with heap := h', toks := tk + 1 }) ho fun h'' he' sb => ?_⟩
    have hT2 : h''.get? s.heap.objs.size = some { cls := .type "tuple", data := .seq #[.int i tk, x'] } := (sb.2 _ (Nat.ne_of_gt hel)).trans hT
    have new : ObjOk X.prog X.w (upd H s.heap.objs.size (.tup [.int (i : Nat), x])) h'' s.heap.objs.size (.tup [.int (i : Nat), x]) :=
      ⟨by show 2 ≤ sizeLine; decide, [.int i tk, x'], .cons ⟨_, rfl⟩ (.cons ru .nil), ⟨_, hT2, rfl, _, rfl⟩⟩
    have I1 : Inv X pins σ (upd H s.heap.objs.size (.tup [.int (i : Nat), x])) { s with heap := h'', toks := tk + 1 } :=
      I.turnedNew (ch := [e, it]) (fun b ob hb q => (sb.2 b (fun z => hb (by simp [z]))).trans (hk b ob (fun z => hb (by simp [z])) (fun z => hb (by simp [z])) q)) hf (Nat.le_refl _) new
    refine ⟨.ref s.heap.objs.size, _, I1, rfl, ⟨_, x, rfl, I.hok.fresh (Nat.le_refl _), rfl, fun ys hy => by rw [I.tuple_inj hy hq]; exact hx⟩, ⟨⟨x', ?_⟩, st'.1.at fun o q => (sb.2 it (Ne.symm hne)).trans q, hne, hea⟩, fun b hb => ?_⟩
    · have e1 : ((i + 1 : Nat) : Int) = (i : Int) + 1 := by omega
      rw [e1]; exact he'
    · have hb' : b < s.heap.objs.size := by
        have e' : b = e ∨ b = it := by simpa using hb
        rcases e' with z | z
        · rw [z]; exact hel
        · rw [z]; exact hil
      rw [upd_ne (Nat.ne_of_lt hb')]
      exact (hf b hb).1
  done := by
    intro X hP hw hK hc i pins s σ H E I hf st hg
    subst hP hw hK
    obtain ⟨⟨old, he⟩, hit, hne, hea⟩ := st
    obtain ⟨xs, hq, hx⟩ := hg
    obtain ⟨its, rv, p, hz⟩ := I.tuple hq
    obtain ⟨f0, f1, f2, f3, f4, f5⟩ := hf it (by simp)
    have hl := rv.length
    have hT : s.TypeIs (.ref e) "enumerate" := ⟨_, he, rfl⟩
    unfold pyNext
    refine wpAny_bind (wpAny_attempt (wpAny_callSpecial?_slot (name := Str.ofString "__next__") hT F.slot_enumerate_next
      (wpAny_call_entry F.slot_enumerate_next hT F.entry_enumerate_next ?_ (F.args_enumerate_next_1 _))))
    show wpAny _ _ (field (.ref e) 2 >>= _) _ _ _
    refine wpAny_bind (wpAny_field he rfl (x := .ref it) rfl ?_)
    refine wpAny_bind (wpAny_nextOf_tuple_end (show X.A.in1.handled = none from I.ok.hd hc) hit p (by simp; omega) fun h' x he' hx' => ?_)
    obtain ⟨o, ho, hc'⟩ := hx'
    refine wpAny_bind (wpAny_isInstance (T := "StopIteration") (b := true) ⟨o, ho, hc'⟩ isSubtype_stop ?_)
    exact wpAny_pure ⟨rfl, I.turned (t' := s.toks) (fun b o hb q => he' b o hb q) f0 f1 f3 f4 f5⟩
  self := fun A i s Q E st h => let ⟨⟨_, he⟩, _⟩ := st; wpAny_pyIter_enum he h
def iEnumT (K : PySem.W.Frag) (ta : TA) : TI := fun σ H R => ta σ H fun vs H1 => ∃ a xs, vs = [.ref a] ∧ ((SqL K H1 a xs ∧ R (Ite K a) H1) ∨ (SqT K H1 a xs ∧ R (IteT K a) H1))
theorem pi_enumT {X : Cx} {e : Expr} {ta : TA} {p pos tpos : Pos} {elts : List Expr} {kk : Nat} (hg : Gl X "enumerate") (hm : X.mg "enumerate" = none) (ha : PA X [e] ta) (hs : starEach [e] X.env = [(false, eval e X.env)]) :
    PI X (.Tuple elts kk tpos) (.Call (.Name "enumerate" p) [e] [] pos) (iEnumT X.K ta) := by
  refine ⟨fun pins s σ H R I h => ?_⟩
  refine Call_ (ld_blt I hg hm boot_enumerate (PyProof.Rows.callWith_type1 (thn (ha.run pos pins s σ H _ I h) fun us s1 ⟨vs, H1, I1, r1, q1⟩ => ?_) hs rfl))
  obtain ⟨a, xs, ex, q1⟩ := q1
  subst ex
  cases r1 with
  | cons r rr =>
    cases rr
    cases r
    have fin : ∀ {tn : Nat → Heap → Prop} {J : It} {h' : Heap}, (∀ b o, s1.heap.get? b = some o → h'.get? b = some o) → Turn X.prog X.w X.K (.Tuple elts kk tpos) J [s1.heap.objs.size + 1, s1.heap.objs.size] (s1.heap.objs.size + 1) tn → tn 0 h' → R J H1 →
        PIE X pins σ (.Tuple elts kk tpos) R (.ref (s1.heap.objs.size + 1)) { s1 with heap := h' } := fun {tn J h'} hk T st q => by
      have I2 : Inv X pins σ H1 { s1 with heap := h' } := I1.kept (t' := s1.toks) hk
      refine ⟨s1.heap.objs.size + 1, [s1.heap.objs.size + 1, s1.heap.objs.size], _, _, H1, rfl, I2, T, st, fun b hb => ?_, q⟩
      have e' : b = s1.heap.objs.size + 1 ∨ b = s1.heap.objs.size := by simpa using hb
      have hle : s1.heap.objs.size ≤ b := by
        rcases e' with z | z
        · rw [z]; exact Nat.le_add_right _ _
        · rw [z]; exact Nat.le_refl _
      exact I1.fpOk hle (I1.hok.fresh hle)
    rcases q1 with ⟨hq, q⟩ | ⟨hq, q⟩
    · obtain ⟨its, rv, p', hz⟩ := I1.list hq
      refine call_enumerate_list p'.isList fun h' he hit hsz hk => wpAny_pyIter_enum he ?_
      exact fin hk (turn_enum a (s1.heap.objs.size + 1) s1.heap.objs.size) ⟨⟨.none, he⟩, hit, Nat.succ_ne_self _⟩ q
    · obtain ⟨its, rv, p', hz⟩ := I1.tuple hq
      have hal : a < s1.heap.objs.size := by obtain ⟨o, q, _⟩ := (show s1.heap.IsTuple a its.toArray from p'); exact Heap.lt_size q
      refine enum1_begins (begins_tuple a its.toArray) p' fun h' he hit hsz hk => wpAny_pyIter_enum he ?_
      exact fin hk (turn_enumT a (s1.heap.objs.size + 1) s1.heap.objs.size (Nat.ne_of_lt hal)) ⟨⟨.none, he⟩, ⟨_, hit, rfl, rfl⟩, Nat.succ_ne_self _, Nat.ne_of_gt (Nat.lt_succ_of_lt hal)⟩ q
end CB
end
section
set_option maxHeartbeats 1000000
/-! CB17: another heap, targets, iterables. -/
namespace CB
open PySem PySem.Spec L2
open PyProof.Rows hiding St
/-! ### the same but for locks -/
def RdO (o : Option HO) (ks : List (List Key × V)) : Prop := o = some (.dT ks) ∨ ∃ f, o = some (.frz f (.dT ks))
def SameZ (o o' : Option HO) : Prop := o' = o ∨ ∃ ks, RdO o ks ∧ RdO o' ks
structure Zvo (w : Wd) (H : Hp) (w' : Wd) (H' : Hp) : Prop where
  ρ : ∀ (i : Nat) (a : Addr), w.ρ[i]? = some a → w'.ρ[i]? = some a
  Z : ∀ a, w.Z a → w'.Z a
  H : ∀ a, w.Z a → SameZ (H a) (H' a)
theorem Evo.zvo {w w' : Wd} {H H' : Hp} (e : Evo w H w' H') : Zvo w H w' H' := ⟨e.ρ, e.Z, fun a z => .inl (e.H a (.inl z))⟩
theorem SameZ.eq {o o' : Option HO} {u : HO} (s : SameZ o o') (h : o = some u) (n : ∀ ks, ¬ RdO (some u) ks) : o' = some u := by
  rcases s with s | ⟨ks, a, _⟩
  · rw [s]; exact h
  · rw [h] at a; exact (n ks a).elim
theorem SameZ.rd {o o' : Option HO} {ks : List (List Key × V)} (s : SameZ o o') (h : RdO o ks) : RdO o' ks := by
  rcases s with s | ⟨ks', a, b⟩
  · rw [s]; exact h
  · have e : ks' = ks := by
      rcases a with a | ⟨f, a⟩ <;> rcases h with h | ⟨g, h⟩ <;> (rw [h] at a; first | (cases a; done) | (cases a; rfl))
    rw [← e]; exact b
section
variable {K : PySem.W.Frag} {S : Sx} {w w' : Wd} {H H' : Hp} {M : Mem}
theorem nrd {u : HO} (h1 : ∀ ks, u ≠ .dT ks) (h2 : ∀ f ks, u ≠ .frz f (.dT ks)) : ∀ ks, ¬ RdO (some u) ks := fun ks h => by
  rcases h with h | ⟨f, h⟩
  · exact h1 ks (Option.some.inj h)
  · exact h2 f ks (Option.some.inj h)
mutual
theorem Rep.monoZ (e : Zvo w H w' H') : ∀ {v : V} {d : D}, Rep K S w H v d → Rep K S w' H' v d
  | _, _, .non => .non
  | _, _, .bl b => .bl b
  | _, _, .int i => .int i
  | _, _, .str i => .str i
  | _, _, .tup z h n r => .tup (e.Z _ z) ((e.H _ z).eq h (nrd (fun _ q => nomatch q) (fun _ _ q => nomatch q))) n (RepL.monoZ e r)
  | _, _, .ktup h r => .ktup h (RepL.monoZ e r)
  | _, _, .lst z h r => .lst (e.Z _ z) ((e.H _ z).eq h (nrd (fun _ q => nomatch q) (fun _ _ q => nomatch q))) (RepL.monoZ e r)
  | _, _, .dct z h r => .dct (e.Z _ z) ((e.H _ z).rd h) (RepK.monoZ e r)
  | _, _, .scr z h => .scr (e.Z _ z) (by
      rcases h with h | ⟨f, h⟩
      · exact .inl ((e.H _ z).eq h (nrd (fun _ q => nomatch q) (fun _ _ q => nomatch q)))
      · exact .inr ⟨f, (e.H _ z).eq h (nrd (fun _ q => nomatch q) (fun _ _ q => nomatch q))⟩)
  | _, _, .kscr h => .kscr h
  | _, _, .loc h => .loc (e.ρ _ _ h)
  | _, _, .fn h => .fn h
  | _, _, .key z h => .key (e.Z _ z) ((e.H _ z).eq h (nrd (fun _ q => nomatch q) (fun _ _ q => nomatch q)))
theorem RepL.monoZ (e : Zvo w H w' H') : ∀ {v : List V} {d : List D}, RepL K S w H v d → RepL K S w' H' v d
  | _, _, .nil => .nil
  | _, _, .cons h r => .cons (Rep.monoZ e h) (RepL.monoZ e r)
theorem RepK.monoZ (e : Zvo w H w' H') : ∀ {v : List (List Key × V)} {d : List (List Int × D)}, RepK K S w H v d → RepK K S w' H' v d
  | _, _, .nil => .nil
  | _, _, .cons h r => .cons (Rep.monoZ e h) (RepK.monoZ e r)
end
theorem RelE.monoZ {σ : L2.St} {δ : Env} (r : RelE K S w H σ δ) (e : Zvo w H w' H') : RelE K S w' H' σ δ :=
  ⟨r.len, fun i d h => let ⟨v, h1, h2⟩ := r.get i d h; ⟨v, h1, h2.monoZ e⟩⟩
theorem MRep.monoZ {a : Addr} {u : MO} (h : MRep K S w H a u) (e : Zvo w H w' H') (q : u.live → H' a = H a) : MRep K S w' H' a u := by
  cases h with
  | lst h r => exact .lst ((q True.intro).trans h) (r.monoZ e)
  | dct h r => exact .dct ((q True.intro).trans h) (r.monoZ e)
  | dead => exact .dead
theorem RelM.zvo (m : RelM K S w H M) (e : Zvo w H w' H') (hl : w'.ρ = w.ρ) (hc : ∀ (i : Nat) (o : MO) (a : Addr), M[i]? = some o → o.live → w.ρ[i]? = some a → H' a = H a ∧ ¬ w'.Z a ∧ ¬ w'.pr a) (hz : ∀ a, w'.Z a ∨ w'.pr a → H' a ≠ none) (hzp : ∀ a, w'.Z a → ¬ w'.pr a)
    (hp : ∀ a, w'.pr a → ∀ xs, H' a ≠ some (.tup xs)) : RelM K S w' H' M := by
  refine ⟨by rw [hl]; exact m.len, fun i o a h1 h2 => ?_, fun i j o u a h1 h2 l1 l2 h3 h4 => ?_, fun i o a h1 l h2 => ?_, hz, hzp, hp⟩
  · rw [hl] at h2
    exact (m.obj i o a h1 h2).monoZ e fun l => (hc i o a h1 l h2).1
  · rw [hl] at h3 h4
    exact m.inj i j o u a h1 h2 l1 l2 h3 h4
  · rw [hl] at h2
    exact (hc i o a h1 l h2).2
end
/-! ### targets -/
mutual
def Pt.ns : Pt → List Nat
  | .nm i => [i]
  | .tup ps => ps.ns
def Pts.ns : Pts → List Nat
  | .nil => []
  | .cons p ps => p.ns ++ ps.ns
end
def Pts.len : Pts → Nat
  | .nil => 0
  | .cons _ ps => ps.len + 1
section
variable {X : Cx} {S : Sx} {W : WX}
/-- an item that only is taken to parts -/
def RepT (K : PySem.W.Frag) (S : Sx) (w : Wd) (H : Hp) (v : V) (d : D) : Prop := ∃ a xs ds, v = .ref a ∧ d = .tup ds ∧ SqT K H a xs ∧ RepL K S w H xs ds
def RepP (K : PySem.W.Frag) (S : Sx) (w : Wd) (H : Hp) (p : Pt) (v : V) (d : D) : Prop := match p with
  | .nm _ => Rep K S w H v d
  | .tup _ => Rep K S w H v d ∨ RepT K S w H v d ∨ ∃ a k, v = .ref a ∧ d = .key k ∧ H a = some (.tup (k.map V.int))
theorem RepP.of {K : PySem.W.Frag} {w : Wd} {H : Hp} {p : Pt} {v : V} {d : D} (r : Rep K S w H v d) : RepP K S w H p v d := by
  cases p with
  | nm i => exact r
  | tup ps => exact .inl r
def RG (K : PySem.W.Frag) (S : Sx) (p : Pt) : TG := fun v σ H Q => ∃ w δ d δ', RelE K S w H σ δ ∧ RepP K S w H p v d ∧ asgP p d δ = some δ' ∧ ∀ σ', RelE K S w H σ' δ' → (∀ vs, (∀ i ∈ p.ns, i ∈ vs) → wipe σ' vs = wipe σ vs) → Q σ' H
def RGs (K : PySem.W.Frag) (S : Sx) (p : Pts) : TGs := fun v σ H Q => ∃ w δ d δ', RelE K S w H σ δ ∧ RepL K S w H v d ∧ asgPs p d δ = some δ' ∧ ∀ σ', RelE K S w H σ' δ' → (∀ vs, (∀ i ∈ p.ns, i ∈ vs) → wipe σ' vs = wipe σ vs) → Q σ' H
theorem _root_.L2.PG.imp {e : Expr} {t t' : TG} (h : PG X e t) (q : ∀ v σ H Q, t' v σ H Q → t v σ H Q) : PG X e t' := ⟨fun pins s σ H v u Q I r z => h.run pins s σ H v u Q I r (q _ _ _ _ z)⟩
theorem _root_.L2.PGs.imp {e : List Expr} {t t' : TGs} (h : PGs X e t) (q : ∀ v σ H Q, t' v σ H Q → t v σ H Q) : PGs X e t' := ⟨fun pins s σ H v u Q I r z => h.run pins s σ H v u Q I r (q _ _ _ _ z)⟩
theorem wipe_set {σ : L2.St} {i : Nat} {v : Option V} : ∀ {vs : List Nat}, i ∈ vs → wipe (σ.set i v) vs = wipe σ vs
  | [], h => by cases h
  | j :: vs, h => by
    unfold wipe
    by_cases e : i ∈ vs
    · rw [wipe_set e]
    · have hj : i = j := by
        rcases List.mem_cons.mp h with h | h
        · exact h
        · exact absurd h e
      subst hj
      apply List.ext_getElem?
      intro k
      by_cases hk : i = k
      · subst hk
        simp only [List.getElem?_set_self', wipe_length, List.length_set]
        have e1 : (wipe (σ.set i v) vs)[i]? = (σ.set i v)[i]? := wipe_out e
        have e2 : (wipe σ vs)[i]? = σ[i]? := wipe_out e
        rw [e1, e2]
        by_cases hl : i < σ.length
        · rw [List.getElem?_set_self hl, List.getElem?_eq_getElem hl]; rfl
        · rw [List.getElem?_eq_none (by simpa using hl), List.getElem?_eq_none (by simpa using hl)]
      · rw [List.getElem?_set_ne hk, List.getElem?_set_ne hk]
        by_cases hm : k ∈ vs
        · have a1 : ∀ (τ : L2.St) (vs : List Nat), k ∈ vs → (wipe τ vs)[k]? = (τ[k]?).map fun _ => none := by
            intro τ vs hm
            induction vs with
            | nil => cases hm
            | cons j vs ih =>
              unfold wipe
              by_cases hj : j = k
              · subst hj
                by_cases hl : j < τ.length
                · rw [List.getElem?_set_self (by rw [wipe_length]; exact hl), List.getElem?_eq_getElem hl]; rfl
                · rw [List.getElem?_eq_none (by simp [wipe_length]; omega), List.getElem?_eq_none (by omega)]; rfl
              · rw [List.getElem?_set_ne hj]
                rcases List.mem_cons.mp hm with h | h
                · exact absurd h.symm hj
                · exact ih h
          rw [a1 _ _ hm, a1 _ _ hm]
          rw [List.getElem?_set_ne hk]
        · rw [wipe_out hm, wipe_out hm, List.getElem?_set_ne hk]
theorem dg_nm {i : Nat} {x : Str} {pos : Pos} (hN : X.N.Nodup) (hi : X.N[i]? = some x) (hx : Loc X.env.scope x) (hf : X.fn x = true ∨ X.env.scope.names.lookup x = some .local) : PG X (.Name x pos) (RG X.K S (.nm i)) :=
  PG.imp (pg_name hN hi hx hf) fun v σ H Q ⟨w, δ, d, δ', r, rv, e, q⟩ => by
    unfold asgP at e
    cases e
    exact q _ (r.set i rv) fun vs h => wipe_set (h i (by unfold Pt.ns; simp))
theorem asg_cons {e : Expr} {es : List Expr} {env : PySem.Env} (h : unStar e = true) : assignEach (e :: es) env = (false, assign e env) :: assignEach es env := by
  cases e <;> first | rfl | cases h
theorem asg_len {es : List Expr} {env : PySem.Env} (h : es.all unStar = true) : (assignEach es env).length = es.length ∧ (assignEach es env).findIdx? (·.1) = none := by
  induction es with
  | nil => exact ⟨rfl, rfl⟩
  | cons e r ih =>
    simp only [List.all_cons, Bool.and_eq_true] at h
    obtain ⟨h1, h2⟩ := ih h.2
    rw [asg_cons h.1]
    refine ⟨by simp [h1], ?_⟩
    rw [List.findIdx?_cons]
    simp [h2]
theorem dgs_nil : PGs X [] (RGs X.K S .nil) := PGs.imp pgs_nil fun v σ H Q ⟨w, δ, d, δ', r, rv, e, q⟩ => by
  cases rv with
  | nil => unfold asgPs at e; cases e; exact ⟨rfl, q σ r fun _ _ => rfl⟩
  | cons h r => unfold asgPs at e; cases e
theorem dgs_cons {e : Expr} {es : List Expr} {p : Pt} {ps : Pts} (h1 : PG X e (RG X.K S p)) (h2 : PGs X es (RGs X.K S ps)) (hs : unStar e = true) : PGs X (e :: es) (RGs X.K S (.cons p ps)) :=
  PGs.imp (pgs_cons h1 h2 (by rw [asg_cons hs]; rfl)) fun v σ H Q ⟨w, δ, d, δ', r, rv, e, q⟩ => by
    cases rv with
    | nil => unfold asgPs at e; cases e
    | @cons v1 d1 vs ds h rr =>
      unfold asgPs at e
      cases e1 : asgP p d1 δ with
      | none => rw [e1] at e; cases e
      | some δ1 =>
        rw [e1] at e
        refine ⟨_, _, rfl, w, δ, d1, δ1, r, RepP.of h, e1, fun σ' r' k => ?_⟩
        refine ⟨w, δ1, ds, δ', r', rr, e, fun σ2 r2 k2 => q σ2 r2 fun vs hv => ?_⟩
        have hv' : ∀ i, i ∈ p.ns ++ ps.ns → i ∈ vs := hv
        rw [k2 vs fun i hi => hv' i (List.mem_append_right _ hi), k vs fun i hi => hv' i (List.mem_append_left _ hi)]
theorem asgPs_len {ps : Pts} : ∀ {ds : List D} {δ δ' : Env}, asgPs ps ds δ = some δ' → ds.length = ps.len := by
  induction ps using Pts.rec (motive_1 := fun _ => True) with
  | nm => trivial
  | tup => trivial
  | nil => 
    intro ds δ δ' e
    cases ds with
    | nil => rfl
    | cons _ _ => unfold asgPs at e; cases e
  | cons p ps _ ih =>
    intro ds δ δ' e
    cases ds with
    | nil => unfold asgPs at e; cases e
    | cons d ds =>
      unfold asgPs at e
      cases e1 : asgP p d δ with
      | none => rw [e1] at e; cases e
      | some δ1 => rw [e1] at e; simp [Pts.len, ih e]
theorem dg_tup {es : List Expr} {k : Nat} {ps : Pts} {pos : Pos} (hc : X.calm = true) (h : PGs X es (RGs X.K S ps)) (hs : es.all unStar = true) (hl : es.length = ps.len) : PG X (.Tuple es k pos) (RG X.K S (.tup ps)) :=
  PG.imp (pg_tup (n := es.length) hc h (asg_len hs).1 (asg_len hs).2) fun v σ H Q ⟨w, δ, d, δ', r, rv, e, q⟩ => by
    have fin : ∀ {a : Addr} {xs : List V} {ds : List D}, v = .ref a → SqT X.K H a xs → RepL X.K S w H xs ds → asgPs ps ds δ = some δ' → gTup X.K es.length (RGs X.K S ps) v σ H Q := fun {a xs ds} ev hq rl e => by
      refine ⟨a, xs, ev, hq, ?_, w, δ, ds, δ', r, rl, e, q⟩
      rw [rl.length, asgPs_len e, hl]
    rcases rv with rv | ⟨a, xs, ds, ev, ed, hq, rl⟩ | ⟨a, kk, ev, ed, hq⟩
    · cases d with
      | tup ds =>
        obtain ⟨a, xs, ev, hq, rl⟩ := rv.tup_inv
        unfold asgP at e
        exact fin ev hq rl e
      | key kk =>
        unfold asgP at e
        cases rv with
        | key z hq => exact fin rfl (.inl (.inl hq)) (repL_ints kk) e
      | _ => unfold asgP at e; cases e
    · subst ed
      unfold asgP at e
      exact fin ev hq rl e
    · subst ed
      unfold asgP at e
      exact fin ev (.inl (.inl hq)) (repL_ints kk) e
end
end CB
end
section
set_option maxHeartbeats 1000000
/-! CB18: iterables. -/
namespace CB
open PySem PySem.Spec L2
open PyProof.Rows hiding St
/-- what never changes, stands -/
structure Zx (w : Wd) (H : Hp) (w' : Wd) (H' : Hp) : Prop where
  ρ : ∀ (i : Nat) (a : Addr), w.ρ[i]? = some a → w'.ρ[i]? = some a
  Z : ∀ a, w.Z a → w'.Z a
  H : ∀ a, w.Z a → H' a = H a
theorem Evo.zx {w w' : Wd} {H H' : Hp} (e : Evo w H w' H') : Zx w H w' H' := ⟨e.ρ, e.Z, fun a z => e.H a (.inl z)⟩
theorem Zx.zvo {w w' : Wd} {H H' : Hp} (e : Zx w H w' H') : Zvo w H w' H' := ⟨e.ρ, e.Z, fun a z => .inl (e.H a z)⟩
theorem Zx.trans {w w' w2 : Wd} {H H' H2 : Hp} (e : Zx w H w' H') (f : Zx w' H' w2 H2) : Zx w H w2 H2 := ⟨fun i a h => f.ρ i a (e.ρ i a h), fun a h => f.Z a (e.Z a h), fun a z => (f.H a (e.Z a z)).trans (e.H a z)⟩
theorem Zx.refl (w : Wd) (H : Hp) : Zx w H w H := ⟨fun _ _ h => h, fun _ h => h, fun _ _ => rfl⟩
/-- the iterator J gives ds, whatever else goes on -/
structure Wlk (K : PySem.W.Frag) (S : Sx) (p : Pt) (w : Wd) (H : Hp) (J : It) (ds : List D) : Prop where
  go : ∀ (w1 : Wd) (H1 : Hp) (M1 : Mem), Zx w H w1 H1 → RelM K S w1 H1 M1 → ∀ (i : Nat) (d : D), ds[i]? = some d → J.go i H1 ∧ ∀ x H2, J.yld i H1 x H2 → ∃ w2, Evo w1 H1 w2 H2 ∧ RelM K S w2 H2 M1 ∧ RepP K S w2 H2 p x d
  stop : ∀ (w1 : Wd) (H1 : Hp) (M1 : Mem), Zx w H w1 H1 → RelM K S w1 H1 M1 → J.stop ds.length H1
def RI (K : PySem.W.Frag) (S : Sx) (W : WX) (p : Pt) (f : SemL) : TI := fun σ H R => ∃ w δ M, RelM K S w H M ∧ RelE K S w H σ δ ∧ Post K S W σ (fun w' H' J ds => Wlk K S p w' H' J ds) w H R (f δ M)
abbrev DI (X : Cx) (S : Sx) (W : WX) (p : Pt) (tg e : Expr) (f : SemL) : Prop := PI X tg e (RI X.K S W p f)
theorem _root_.L2.PI.imp {X : Cx} {tg e : Expr} {t t' : TI} (h : PI X tg e t) (q : ∀ σ H R, t' σ H R → t σ H R) : PI X tg e t' := ⟨fun pins s σ H R I z => h.run pins s σ H R I (q _ _ _ z)⟩
theorem _root_.L2.PI.or {X : Cx} {tg e : Expr} {t t' : TI} (h : PI X tg e t) (h' : PI X tg e t') : PI X tg e fun σ H R => t σ H R ∨ t' σ H R :=
  ⟨fun pins s σ H R I z => z.elim (h.run pins s σ H R I) (h'.run pins s σ H R I)⟩
section
variable {X : Cx} {S : Sx} {W : WX} {Φ : Nat → List D → Mem → Rs D} {w : Wd} {H : Hp} {p : Pt}
theorem wlk_tup {a : Addr} {ds : List D} (r : Rep X.K S w H (.ref a) (.tup ds)) : Wlk X.K S p w H (Itt X.K a) ds where
  go := fun w1 H1 M1 e m i d hd => by
    obtain ⟨a', xs, ea, hq, rl⟩ := (r.monoZ e.zvo).tup_inv
    cases ea
    obtain ⟨v, hv, rv⟩ := rl.get hd
    refine ⟨⟨xs, v, hq, hv⟩, fun x H2 ⟨e2, hx⟩ => ?_⟩
    subst e2
    have := hx xs hq
    rw [hv] at this
    cases this
    exact ⟨w1, Evo.refl _ _, m, RepP.of rv⟩
  stop := fun w1 H1 M1 e m => by
    obtain ⟨a', xs, ea, hq, rl⟩ := (r.monoZ e.zvo).tup_inv
    cases ea
    exact ⟨xs, hq, by rw [rl.length]; exact Nat.le_refl _⟩
theorem wlk_lst {a : Addr} {ds : List D} (r : Rep X.K S w H (.ref a) (.lst ds)) : Wlk X.K S p w H (Itl X.K a) ds where
  go := fun w1 H1 M1 e m i d hd => by
    obtain ⟨a', xs, ea, hq, rl⟩ := (r.monoZ e.zvo).lst_inv
    cases ea
    obtain ⟨v, hv, rv⟩ := rl.get hd
    refine ⟨⟨xs, v, .of hq, hv⟩, fun x H2 ⟨e2, hx⟩ => ?_⟩
    subst e2
    have := hx xs (.of hq)
    rw [hv] at this
    cases this
    exact ⟨w1, Evo.refl _ _, m, RepP.of rv⟩
  stop := fun w1 H1 M1 e m => by
    obtain ⟨a', xs, ea, hq, rl⟩ := (r.monoZ e.zvo).lst_inv
    cases ea
    exact ⟨xs, .of hq, by rw [rl.length]; exact Nat.le_refl _⟩
theorem di_seq {tg e : Expr} {t : T} (h : DE X S W e (ev Φ t)) : DI X S W p tg e (evi Φ (.seq t)) :=
  PI.imp (PI.or (pi_tup h) (pi_list h)) fun σ H R ⟨w, δ, M, m, r, q⟩ => by
    unfold evi at q
    cases hq : ev Φ t δ M with
    | ok d M1 =>
      rw [hq] at q
      simp only [Rs.bind_ok] at q
      cases d with
      | tup l =>
        refine .inl ⟨w, δ, M, m, r, ?_⟩
        rw [hq]
        intro w' H' v e' m' r'
        obtain ⟨a, xs, ev, hs, rl⟩ := r'.tup_inv
        subst ev
        exact ⟨a, rfl, ⟨xs, hs⟩, q w' H' _ e' m' (wlk_tup r')⟩
      | lst l =>
        refine .inr ⟨w, δ, M, m, r, ?_⟩
        rw [hq]
        intro w' H' v e' m' r'
        obtain ⟨a, xs, ev, hs, rl⟩ := r'.lst_inv
        subst ev
        exact ⟨a, rfl, ⟨xs, .of hs⟩, q w' H' _ e' m' (wlk_lst r')⟩
      | _ => exact q.elim
    | exc x M1 =>
      rw [hq] at q
      exact .inl ⟨w, δ, M, m, r, by rw [hq]; exact q⟩
    | stuck => rw [hq] at q; exact q.elim
/-! ### ranges -/
theorem rngL_get {lo : Int} {n i : Nat} {d : D} (h : (rngL lo n)[i]? = some d) : i < n ∧ d = .int (lo + (i : Int)) := by
  unfold rngL at h
  rw [List.getElem?_map] at h
  by_cases hi : i < n
  · rw [List.getElem?_range hi] at h
    cases h
    exact ⟨hi, rfl⟩
  · rw [List.getElem?_eq_none (by simpa using hi)] at h
    cases h
theorem rngL_len {lo : Int} {n : Nat} : (rngL lo n).length = n := by unfold rngL; simp
theorem wlk_rng {lo : Int} {n : Nat} {p : Pt} : Wlk X.K S p w H (Itr lo n) (rngL lo n) where
  go := fun w1 H1 M1 e m i d hd => by
    obtain ⟨hi, ed⟩ := rngL_get hd
    refine ⟨hi, fun x H2 ⟨e2, hx⟩ => ?_⟩
    subst e2 hx ed
    exact ⟨w1, Evo.refl _ _, m, RepP.of (.int _)⟩
  stop := fun w1 H1 M1 e m => by rw [rngL_len]; exact Nat.le_refl n
theorem small62_iff {i : Int} (h : small62 i = true) : -(2 ^ 62) ≤ i ∧ i < 2 ^ 62 := by
  unfold small62 at h
  simp only [Bool.and_eq_true, decide_eq_true_eq] at h
  exact h
theorem rng2L_some {a b : D} {l : List D} (h : rng2L a b = some l) : ∃ i j, a = .int i ∧ b = .int j ∧ small62 i = true ∧ small62 j = true ∧ l = rngL i (j - i).toNat := by
  unfold rng2L at h
  split at h
  · rename_i i j
    by_cases c : (small62 i && small62 j) = true
    · rw [if_pos c] at h
      cases h
      rw [Bool.and_eq_true] at c
      exact ⟨i, j, rfl, rfl, c.1, c.2, rfl⟩
    · rw [if_neg c] at h; cases h
  · cases h
theorem post_lift {α β : Type} {K : PySem.W.Frag} {σ : L2.St} {R : Wd → Hp → β → α → Prop} {w : Wd} {H : Hp} {Q : β → Hp → Prop} {M : Mem} {o : Option α} (p : Post K S W σ R w H Q (lift M o)) : ∃ a, o = some a ∧ Post K S W σ R w H Q (.ok a M) := by
  cases o with
  | none => exact p.elim
  | some a => exact ⟨a, rfl, p⟩
theorem di_rng1 {tg a : Expr} {t : T} {x : Str} {q pos : Pos} (hx : x = "range") (hg : Gl X x) (hm : X.mg x = none) (h : DE X S W a (ev Φ t)) (hs : unStar a = true) : DI X S W p tg (.Call (.Name x q) [a] [] pos) (evi Φ (.rng t)) := by
  subst hx
  have hA : PA X [a] _ := pa_cons h pa_nil (star_cons hs)
  refine PI.imp (pi_range1 hg hm hA (star_cons hs)) fun σ H R ⟨w, δ, M, m, r, z⟩ => ?_
  unfold evi at z
  refine ⟨w, δ, M, m, r, z.step.mono fun v H1 ⟨w1, M1, d, e1, m1, r1, p1⟩ => ?_⟩
  obtain ⟨l, hl, p1⟩ := post_lift p1
  obtain ⟨i, j, e2, e3, c1, c2, e4⟩ := rng2L_some hl
  subst e3 e4
  have e2 : i = 0 := by cases e2; rfl
  subst e2
  refine ⟨j, by rw [r1.int_inv], (small62_iff c2).1, (small62_iff c2).2, ?_⟩
  have := p1.done (b := Itr 0 (j - 0).toNat) m1 wlk_rng
  rw [Int.sub_zero] at this
  exact this
theorem di_rng2 {tg a b : Expr} {t u : T} {x : Str} {q pos : Pos} (hx : x = "range") (hg : Gl X x) (hm : X.mg x = none) (h : DE X S W a (ev Φ t)) (h2 : DE X S W b (ev Φ u)) (hs : unStar a = true) (hs2 : unStar b = true) : DI X S W p tg (.Call (.Name x q) [a, b] [] pos) (evi Φ (.rng2 t u)) := by
  subst hx
  have hA : PA X [a, b] _ := pa_cons h (pa_cons h2 pa_nil (star_cons hs2)) (star_cons hs)
  refine PI.imp (pi_range2 hg hm hA ((star_cons hs).trans (by rw [star_cons hs2]; rfl)) (star_cons hs2)) fun σ H R ⟨w, δ, M, m, r, z⟩ => ?_
  unfold evi at z
  refine ⟨w, δ, M, m, r, z.step.mono fun v H1 ⟨w1, M1, d, e1, m1, r1, p1⟩ => ⟨w1, δ, M1, m1, r.mono e1, p1.step.mono fun v2 H2 ⟨w2, M2, d2, e2, m2, r2, p2⟩ => ?_⟩⟩
  obtain ⟨l, hl, p2⟩ := post_lift p2
  obtain ⟨i, j, e3, e4, c1, c2, e5⟩ := rng2L_some hl
  subst e3 e4 e5
  exact ⟨i, j, by rw [r1.int_inv, r2.int_inv], ⟨(small62_iff c1).1, (small62_iff c1).2, (small62_iff c2).1, (small62_iff c2).2⟩, p2.done m2 wlk_rng⟩
/-! ### pairs -/
theorem pair_rep {w : Wd} {H : Hp} {M : Mem} {T : Addr} {x y : V} {a b : D} {ps : Pts} (m : RelM X.K S w H M) (hT : H T = none) (rx : Rep X.K S w H x a) (ry : Rep X.K S w H y b) :
    ∃ w2, Evo w H w2 (upd H T (.tup [x, y])) ∧ RelM X.K S w2 (upd H T (.tup [x, y])) M ∧ RepP X.K S w2 (upd H T (.tup [x, y])) (.tup ps) (.ref T) (.tup [a, b]) := by
  have e := new_evo0 (o := .tup [x, y]) m hT
  exact ⟨w, e, new_rel0 m hT, .inr (.inl ⟨T, [x, y], [a, b], rfl, rfl, .inl (.inl upd_same), .cons (rx.mono e) (.cons (ry.mono e) .nil)⟩)⟩
theorem enumL_get {l : List D} {i : Nat} {d : D} (h : (enumL l)[i]? = some d) : ∃ x, l[i]? = some x ∧ d = .tup [.int (i : Int), x] := by
  unfold enumL at h
  rw [List.getElem?_zipWith] at h
  by_cases hi : i < l.length
  · rw [List.getElem?_range hi, List.getElem?_eq_getElem hi] at h
    cases h
    exact ⟨l[i], List.getElem?_eq_getElem hi, rfl⟩
  · rw [List.getElem?_eq_none (by simpa using hi)] at h
    cases h
theorem enumL_len {l : List D} : (enumL l).length = l.length := by unfold enumL; simp
theorem wlk_enumT {a : Addr} {ds : List D} {ps : Pts} (r : Rep X.K S w H (.ref a) (.tup ds)) : Wlk X.K S (.tup ps) w H (IteT X.K a) (enumL ds) where
  go := fun w1 H1 M1 e m i d hd => by
    obtain ⟨y, hy, ed⟩ := enumL_get hd
    subst ed
    obtain ⟨a', xs, ea, hq, rl⟩ := (r.monoZ e.zvo).tup_inv
    cases ea
    obtain ⟨v, hv, rv⟩ := rl.get hy
    refine ⟨⟨xs, v, hq, hv⟩, fun x H2 ⟨T, z, e1, e2, e3, e4⟩ => ?_⟩
    have := e4 xs hq
    rw [hv] at this
    cases this
    subst e1 e3
    exact pair_rep m e2 (.int _) rv
  stop := fun w1 H1 M1 e m => by
    obtain ⟨a', xs, ea, hq, rl⟩ := (r.monoZ e.zvo).tup_inv
    cases ea
    exact ⟨xs, hq, by rw [rl.length, enumL_len]; exact Nat.le_refl _⟩
theorem wlk_enumL {a : Addr} {ds : List D} {ps : Pts} (r : Rep X.K S w H (.ref a) (.lst ds)) : Wlk X.K S (.tup ps) w H (Ite X.K a) (enumL ds) where
  go := fun w1 H1 M1 e m i d hd => by
    obtain ⟨y, hy, ed⟩ := enumL_get hd
    subst ed
    obtain ⟨a', xs, ea, hq, rl⟩ := (r.monoZ e.zvo).lst_inv
    cases ea
    obtain ⟨v, hv, rv⟩ := rl.get hy
    refine ⟨⟨xs, v, .of hq, hv⟩, fun x H2 ⟨T, z, e1, e2, e3, e4⟩ => ?_⟩
    have := e4 xs (.of hq)
    rw [hv] at this
    cases this
    subst e1 e3
    exact pair_rep m e2 (.int _) rv
  stop := fun w1 H1 M1 e m => by
    obtain ⟨a', xs, ea, hq, rl⟩ := (r.monoZ e.zvo).lst_inv
    cases ea
    exact ⟨xs, .of hq, by rw [rl.length, enumL_len]; exact Nat.le_refl _⟩
theorem di_enum {a : Expr} {t : T} {x : Str} {q pos tpos : Pos} {es : List Expr} {kk : Nat} {ps : Pts} (hx : x = "enumerate") (hg : Gl X x) (hm : X.mg x = none) (h : DE X S W a (ev Φ t)) (hs : unStar a = true) :
    DI X S W (.tup ps) (.Tuple es kk tpos) (.Call (.Name x q) [a] [] pos) (evi Φ (.enum t)) := by
  subst hx
  have hA : PA X [a] _ := pa_cons h pa_nil (star_cons hs)
  refine PI.imp (pi_enumT hg hm hA (star_cons hs)) fun σ H R ⟨w, δ, M, m, r, z⟩ => ?_
  unfold evi at z
  refine ⟨w, δ, M, m, r, z.step.mono fun v H1 ⟨w1, M1, d, e1, m1, r1, p1⟩ => ?_⟩
  obtain ⟨l, hl, p1⟩ := post_lift p1
  cases d with
  | tup ds =>
    cases hl
    obtain ⟨a, xs, ev, hq, rl⟩ := r1.tup_inv
    subst ev
    exact ⟨a, xs, rfl, .inr ⟨hq, p1.done m1 (wlk_enumT r1)⟩⟩
  | lst ds =>
    cases hl
    obtain ⟨a, xs, ev, hq, rl⟩ := r1.lst_inv
    subst ev
    exact ⟨a, xs, rfl, .inl ⟨.of hq, p1.done m1 (wlk_enumL r1)⟩⟩
  | _ => cases hl
theorem zipL_get {l k : List D} {i : Nat} {d : D} (h : (zipL l k)[i]? = some d) : ∃ x y, l[i]? = some x ∧ k[i]? = some y ∧ d = .tup [x, y] := by
  unfold zipL at h
  rw [List.getElem?_zipWith] at h
  cases h1 : l[i]? with
  | none => rw [h1] at h; cases h
  | some x =>
    cases h2 : k[i]? with
    | none => rw [h1, h2] at h; cases h
    | some y => rw [h1, h2] at h; cases h; exact ⟨x, y, rfl, rfl, rfl⟩
theorem zipL_len {l k : List D} : (zipL l k).length = min l.length k.length := by unfold zipL; simp
theorem wlk_zipT {a b : Addr} {ds es : List D} {ps : Pts} (r : Rep X.K S w H (.ref a) (.tup ds)) (r2 : Rep X.K S w H (.ref b) (.tup es)) : Wlk X.K S (.tup ps) w H (RZ.ItzT X.K a b) (zipL ds es) where
  go := fun w1 H1 M1 e m i d hd => by
    obtain ⟨y, z, hy, hz, ed⟩ := zipL_get hd
    subst ed
    obtain ⟨a', xs, ea, hq, rl⟩ := (r.monoZ e.zvo).tup_inv
    cases ea
    obtain ⟨b', ys, eb, hq2, rl2⟩ := (r2.monoZ e.zvo).tup_inv
    cases eb
    obtain ⟨v, hv, rv⟩ := rl.get hy
    obtain ⟨u, hu, ru⟩ := rl2.get hz
    refine ⟨⟨xs, ys, v, u, hq, hq2, hv, hu⟩, fun x H2 ⟨T, x1, x2, e1, e2, e3, e4, e5⟩ => ?_⟩
    have q1 := e4 xs hq
    have q2 := e5 ys hq2
    rw [hv] at q1
    rw [hu] at q2
    cases q1; cases q2
    subst e1 e3
    exact pair_rep m e2 rv ru
  stop := fun w1 H1 M1 e m => by
    obtain ⟨a', xs, ea, hq, rl⟩ := (r.monoZ e.zvo).tup_inv
    cases ea
    obtain ⟨b', ys, eb, hq2, rl2⟩ := (r2.monoZ e.zvo).tup_inv
    cases eb
    refine ⟨xs, ys, hq, hq2, ?_⟩
    rw [rl.length, rl2.length, zipL_len]
    omega
theorem wlk_zipL {a b : Addr} {ds es : List D} {ps : Pts} (r : Rep X.K S w H (.ref a) (.lst ds)) (r2 : Rep X.K S w H (.ref b) (.lst es)) : Wlk X.K S (.tup ps) w H (Itz X.K a b) (zipL ds es) where
  go := fun w1 H1 M1 e m i d hd => by
    obtain ⟨y, z, hy, hz, ed⟩ := zipL_get hd
    subst ed
    obtain ⟨a', xs, ea, hq, rl⟩ := (r.monoZ e.zvo).lst_inv
    cases ea
    obtain ⟨b', ys, eb, hq2, rl2⟩ := (r2.monoZ e.zvo).lst_inv
    cases eb
    obtain ⟨v, hv, rv⟩ := rl.get hy
    obtain ⟨u, hu, ru⟩ := rl2.get hz
    refine ⟨⟨xs, ys, v, u, .of hq, .of hq2, hv, hu⟩, fun x H2 ⟨T, x1, x2, e1, e2, e3, e4, e5⟩ => ?_⟩
    have q1 := e4 xs (.of hq)
    have q2 := e5 ys (.of hq2)
    rw [hv] at q1
    rw [hu] at q2
    cases q1; cases q2
    subst e1 e3
    exact pair_rep m e2 rv ru
  stop := fun w1 H1 M1 e m => by
    obtain ⟨a', xs, ea, hq, rl⟩ := (r.monoZ e.zvo).lst_inv
    cases ea
    obtain ⟨b', ys, eb, hq2, rl2⟩ := (r2.monoZ e.zvo).lst_inv
    cases eb
    refine ⟨xs, ys, .of hq, .of hq2, ?_⟩
    rw [rl.length, rl2.length, zipL_len]
    omega
theorem di_zip {a b : Expr} {t u : T} {x : Str} {q pos tpos : Pos} {es : List Expr} {kk : Nat} {ps : Pts} (hx : x = "zip") (hg : Gl X x) (hm : X.mg x = none) (h : DE X S W a (ev Φ t)) (h2 : DE X S W b (ev Φ u)) (hs : unStar a = true) (hs2 : unStar b = true) :
    DI X S W (.tup ps) (.Tuple es kk tpos) (.Call (.Name x q) [a, b] [] pos) (evi Φ (.zip t u)) := by
  subst hx
  have hA : PA X [a, b] _ := pa_cons h (pa_cons h2 pa_nil (star_cons hs2)) (star_cons hs)
  refine PI.imp (RZ.pi_zipA hg hm hA (star_cons hs) (star_any (by simp [hs2]))) fun σ H R ⟨w, δ, M, m, r, z⟩ => ?_
  unfold evi at z
  refine ⟨w, δ, M, m, r, z.step.mono fun v H1 ⟨w1, M1, d, e1, m1, r1, p1⟩ => ⟨w1, δ, M1, m1, r.mono e1, p1.step.mono fun v2 H2 ⟨w2, M2, d2, e2, m2, r2, p2⟩ => ?_⟩⟩
  obtain ⟨l, hl, p2⟩ := post_lift p2
  unfold zip2 at hl
  split at hl
  · cases hl
    have r1 := r1.mono e2
    obtain ⟨a, xs, ea, hq, rl⟩ := r1.tup_inv
    obtain ⟨b, ys, eb, hq2, rl2⟩ := r2.tup_inv
    subst ea eb
    exact ⟨a, b, xs, ys, rfl, .inr ⟨hq, hq2, p2.done m2 (wlk_zipT r1 r2)⟩⟩
  · cases hl
    have r1 := r1.mono e2
    obtain ⟨a, xs, ea, hq, rl⟩ := r1.lst_inv
    obtain ⟨b, ys, eb, hq2, rl2⟩ := r2.lst_inv
    subst ea eb
    exact ⟨a, b, xs, ys, rfl, .inl ⟨.of hq, .of hq2, p2.done m2 (wlk_zipL r1 r2)⟩⟩
  · cases hl
end
end CB
end
section
set_option maxHeartbeats 1000000
/-! CB19: comprehensions. -/
namespace CB
open PySem PySem.Spec L2
open PyProof.Rows hiding St
abbrev WF : WX := fun _ _ _ _ => False
section
variable {K : PySem.W.Frag} {S : Sx} {w w' : Wd} {H H' : Hp} {M : Mem} {D : Addr}
/-- the guard set exchanged -/
def Wd.pw (w : Wd) (p : Addr → Prop) : Wd := { w with pr := p }
def rub (H : Hp) (D : Addr) : Hp := fun a => if a = D then none else H a
theorem rub_same : rub H D D = none := by unfold rub; rw [if_pos rfl]
theorem rub_ne {a : Addr} (h : a ≠ D) : rub H D a = H a := by unfold rub; rw [if_neg h]
theorem rub_upd {o : HO} (h : H D = some o) : upd (rub H D) D o = H := by
  funext a
  by_cases e : a = D
  · subst e; rw [upd_same, h]
  · rw [upd_ne e, rub_ne e]
theorem zx_pw {p : Addr → Prop} : Zx w H (w.pw p) H := ⟨fun _ _ h => h, fun _ h => h, fun _ _ => rfl⟩
theorem zx_wp {p : Addr → Prop} : Zx (w.pw p) H w H := ⟨fun _ _ h => h, fun _ h => h, fun _ _ => rfl⟩
theorem rel_pw {p : Addr → Prop} (m : RelM K S w H M) (h : ∀ a, p a → w.pr a) : RelM K S (w.pw p) H M :=
  m.zvo zx_pw.zvo rfl (fun i o a h1 l h2 => ⟨rfl, (m.sep i o a h1 l h2).1, fun q => (m.sep i o a h1 l h2).2 (h a q)⟩) (fun a z => m.zed a (z.elim .inl fun z => .inr (h a z))) (fun a z q => m.zp a z (h a q)) (fun a q => m.prl a (h a q))
/-- a new guarded list -/
theorem rel_grd {xs : List V} (m : RelM K S w H M) (hD : H D = none) : RelM K S (w.pw fun a => w.pr a ∨ a = D) (upd H D (.lst xs)) M := by
  have hn : ∀ a, w.Z a ∨ w.pr a → a ≠ D := fun a z e => m.zed a z (by rw [e]; exact hD)
  have e : Zx w H (w.pw fun a => w.pr a ∨ a = D) (upd H D (.lst xs)) := ⟨fun _ _ h => h, fun _ h => h, fun a z => upd_ne (hn a (.inl z))⟩
  refine m.zvo e.zvo rfl (fun i o a h1 l h2 => ?_) (fun a z => ?_) (fun a z q => ?_) fun a q ys => ?_
  · have hd : a ≠ D := fun e => (m.obj i o a h1 h2).some l (by rw [e]; exact hD)
    exact ⟨upd_ne hd, (m.sep i o a h1 l h2).1, fun q => q.elim (m.sep i o a h1 l h2).2 hd⟩
  · by_cases e : a = D
    · rw [e, upd_same]; simp
    · rw [upd_ne e]
      exact m.zed a (z.elim .inl fun z => z.elim .inr fun q => absurd q e)
  · exact q.elim (m.zp a z) (hn a (.inl z))
  · by_cases e : a = D
    · rw [e, upd_same]; simp
    · rw [upd_ne e]
      exact q.elim (fun q => m.prl a q ys) fun q => absurd q e
/-- the guarded list changes -/
theorem rel_bump {xs : List V} (m : RelM K S w H M) (hD : w.pr D) : RelM K S w (upd H D (.lst xs)) M := by
  have hz : ∀ a, w.Z a → a ≠ D := fun a z e => m.zp a z (by rw [e]; exact hD)
  have e : Zx w H w (upd H D (.lst xs)) := ⟨fun _ _ h => h, fun _ h => h, fun a z => upd_ne (hz a z)⟩
  refine m.zvo e.zvo rfl (fun i o a h1 l h2 => ?_) (fun a z => ?_) m.zp fun a q ys => ?_
  · have hd : a ≠ D := fun e => (m.sep i o a h1 l h2).2 (by rw [e]; exact hD)
    exact ⟨upd_ne hd, (m.sep i o a h1 l h2).1, (m.sep i o a h1 l h2).2⟩
  · by_cases e : a = D
    · rw [e, upd_same]; simp
    · rw [upd_ne e]; exact m.zed a z
  · by_cases e : a = D
    · rw [e, upd_same]; simp
    · rw [upd_ne e]; exact m.prl a q ys
theorem zx_bump {xs : List V} (m : RelM K S w H M) (hD : w.pr D) : Zx w H w (upd H D (.lst xs)) := ⟨fun _ _ h => h, fun _ h => h, fun a z => upd_ne fun e => m.zp a z (by rw [e]; exact hD)⟩
/-- the guarded list taken out of sight -/
theorem rel_rub {p : Addr → Prop} (m : RelM K S w H M) (hD : w.pr D) (h : ∀ a, p a → w.pr a ∧ a ≠ D) : RelM K S (w.pw p) (rub H D) M := by
  have hz : ∀ a, w.Z a → a ≠ D := fun a z e => m.zp a z (by rw [e]; exact hD)
  have e : Zx w H (w.pw p) (rub H D) := ⟨fun _ _ h => h, fun _ h => h, fun a z => rub_ne (hz a z)⟩
  refine m.zvo e.zvo rfl (fun i o a h1 l h2 => ?_) (fun a z => ?_) (fun a z q => m.zp a z (h a q).1) fun a q ys => ?_
  · have hd : a ≠ D := fun e => (m.sep i o a h1 l h2).2 (by rw [e]; exact hD)
    exact ⟨rub_ne hd, (m.sep i o a h1 l h2).1, fun q => (m.sep i o a h1 l h2).2 (h a q).1⟩
  · have hd : a ≠ D := z.elim (hz a) fun q => (h a q).2
    rw [rub_ne hd]
    exact m.zed a (z.elim .inl fun q => .inr (h a q).1)
  · rw [rub_ne (h a q).2]; exact m.prl a (h a q).1 ys
theorem zx_rub {p : Addr → Prop} (m : RelM K S w H M) (hD : w.pr D) : Zx w H (w.pw p) (rub H D) := ⟨fun _ _ h => h, fun _ h => h, fun a z => rub_ne fun e => m.zp a z (by rw [e]; exact hD)⟩
end
theorem wipe_wipe {σ : L2.St} (vs : List Nat) : wipe (wipe σ vs) vs = wipe σ vs := by
  have a1 : ∀ (τ : L2.St) (vs : List Nat) (k : Nat), k ∈ vs → (wipe τ vs)[k]? = (τ[k]?).map fun _ => none := by
    intro τ vs k hm
    induction vs with
    | nil => cases hm
    | cons j vs ih =>
      unfold wipe
      by_cases hj : j = k
      · subst hj
        by_cases hl : j < τ.length
        · rw [List.getElem?_set_self (by rw [wipe_length]; exact hl), List.getElem?_eq_getElem hl]; rfl
        · rw [List.getElem?_eq_none (by simp [wipe_length]; omega), List.getElem?_eq_none (by omega)]; rfl
      · rw [List.getElem?_set_ne hj]
        rcases List.mem_cons.mp hm with h | h
        · exact absurd h.symm hj
        · exact ih h
  apply List.ext_getElem?
  intro k
  by_cases hm : k ∈ vs
  · rw [a1 _ _ _ hm, a1 _ _ _ hm]
    cases σ[k]? <;> rfl
  · rw [wipe_out hm]
section
variable {X : Cx} {S : Sx} {W : WX} {Φ : Nat → List D → Mem → Rs D}
/-- tests behind a for in a comprehension -/
abbrev DTs (X : Cx) (S : Sx) (W : WX) (e : List Expr) (f : Sem1) : Prop := PTs X e (RT X.K S W f)
theorem _root_.L2.PTs.imp {X : Cx} {e : List Expr} {t t' : TT} (h : PTs X e t) (q : ∀ σ H Q, t' σ H Q → t σ H Q) : PTs X e t' := ⟨fun pins s σ H Q I z => h.run pins s σ H Q I (q _ _ _ z)⟩
theorem dts_nil : DTs X S W [] (ev Φ (.con (.bl true))) := PTs.imp pts_nil fun σ H Q ⟨w, δ, M, m, r, p⟩ => by
  unfold ev at p
  exact p.done (b := true) m rfl
theorem dts_one {c : Expr} {f : Sem1} (h : DT X S W c f) : DTs X S W [c] f := pts_one h
/-- one turn -/
abbrev lcF (Φ : Nat → List D → Mem → Rs D) (p : Pt) (own : List Nat) (c e : T) (δ : Env) : D → Mem → Rs (List D) := fun d M2 => match asgP p d (wipeD δ own) with
      | none => .stuck
      | some δ' => (ev Φ c δ' M2).test fun t M3 => if t = true then (ev Φ e δ' M3).bind fun y M4 => .ok [y] M4 else .ok [] M3
theorem bind_okE {α β : Type} {r : Rs α} {f : α → Mem → Rs β} {b : β} {M : Mem} (h : r.bind f = .ok b M) : ∃ a M1, r = .ok a M1 ∧ f a M1 = .ok b M := by
  cases r with
  | ok a M1 => exact ⟨a, M1, rfl, h⟩
  | exc x M1 => cases h
  | stuck => cases h
theorem test_okE {β : Type} {r : Rs D} {f : Bool → Mem → Rs β} {b : β} {M : Mem} (h : r.test f = .ok b M) : ∃ t M1, r = .ok (.bl t) M1 ∧ f t M1 = .ok b M := by
  cases r with
  | ok a M1 =>
    cases a with
    | bl t => exact ⟨t, M1, rfl, h⟩
    | _ => cases h
  | exc x M1 => cases h
  | stuck => cases h
theorem lcF_ok {p : Pt} {own : List Nat} {c e : T} {δ : Env} {d : D} {M M3 : Mem} {ys : List D} (h : lcF Φ p own c e δ d M = .ok ys M3) :
    ∃ δ' t Mc, asgP p d (wipeD δ own) = some δ' ∧ ev Φ c δ' M = .ok (.bl t) Mc ∧ ((t = true ∧ ∃ y, ev Φ e δ' Mc = .ok y M3 ∧ ys = [y]) ∨ (t = false ∧ ys = [] ∧ M3 = Mc)) := by
  unfold lcF at h
  cases q : asgP p d (wipeD δ own) with
  | none => rw [q] at h; cases h
  | some δ' =>
    rw [q] at h
    obtain ⟨t, Mc, h1, h2⟩ := test_okE h
    refine ⟨δ', t, Mc, rfl, h1, ?_⟩
    cases t with
    | true =>
      rw [if_pos rfl] at h2
      obtain ⟨y, M4, h3, h4⟩ := bind_okE h2
      cases h4
      exact .inl ⟨rfl, y, h3, rfl⟩
    | false =>
      rw [if_neg (by decide)] at h2
      cases h2
      exact .inr ⟨rfl, rfl, rfl⟩
theorem noexc_ok {α : Type} {r : Rs α} {a : α} {M : Mem} (h : r.noexc = .ok a M) : r = .ok a M := by
  cases r with
  | ok b M1 => exact h
  | exc x M1 => cases h
  | stuck => cases h
/-- what the comprehension still has to give -/
def Rest (K : PySem.W.Frag) (S : Sx) (W : WX) (σ : L2.St) (w : Wd) (H : Hp) (Q : VK) (F : D → Mem → Rs (List D)) (ds out : List D) (M : Mem) : Prop :=
  PostF K S W σ w H Q ((lcGo F ds M).bind fun l M3 => .ok (.lst (out ++ l)) M3)
theorem rest_cons {K : PySem.W.Frag} {σ : L2.St} {w : Wd} {H : Hp} {Q : VK} {F : D → Mem → Rs (List D)} {d : D} {ds out : List D} {M : Mem} (h : Rest K S W σ w H Q F (d :: ds) out M) :
    ∃ ys M1, F d M = .ok ys M1 ∧ Rest K S W σ w H Q F ds (out ++ ys) M1 := by
  unfold Rest at h
  unfold lcGo at h
  cases q : F d M with
  | ok ys M1 =>
    rw [q] at h
    refine ⟨ys, M1, rfl, ?_⟩
    unfold Rest
    rw [Rs.noexc_ok, Rs.bind_ok, Rs.bind_assoc] at h
    simp only [Rs.bind_ok, ← List.append_assoc] at h
    exact h
  | exc x M1 => rw [q] at h; exact h.elim
  | stuck => rw [q] at h; exact h.elim
theorem rest_nil {K : PySem.W.Frag} {σ : L2.St} {w : Wd} {H : Hp} {Q : VK} {F : D → Mem → Rs (List D)} {out : List D} {M : Mem} (h : Rest K S W σ w H Q F [] out M) : PostF K S W σ w H Q (.ok (.lst out) M) := by
  unfold Rest at h
  unfold lcGo at h
  rw [Rs.bind_ok, List.append_nil] at h
  exact h
/-- the list at D as it grows -/
structure Grow (K : PySem.W.Frag) (S : Sx) (w1 : Wd) (H1 : Hp) (D : Addr) (w2 : Wd) (H : Hp) (M2 : Mem) (out : List CB.D) : Prop where
  pr : w2.pr = fun a => w1.pr a ∨ a = D
  m : RelM K S w2 H M2
  zx : Zx w1 H1 w2 H
  ex : ∀ a, w1.pr a → H a = H1 a
  acc : ∃ acc, H D = some (.lst acc) ∧ RepL K S w2 H acc out
theorem Grow.gr {K : PySem.W.Frag} {w1 w2 : Wd} {H1 H : Hp} {D : Addr} {M2 : Mem} {out : List CB.D} (g : Grow K S w1 H1 D w2 H M2 out) : w2.pr D := by rw [g.pr]; exact .inr rfl
theorem Grow.evo {K : PySem.W.Frag} {w1 w2 w3 : Wd} {H1 H H3 : Hp} {D : Addr} {M2 M3 : Mem} {out : List CB.D} (g : Grow K S w1 H1 D w2 H M2 out) (e : Evo w2 H w3 H3) (m : RelM K S w3 H3 M3) : Grow K S w1 H1 D w3 H3 M3 out := by
  refine ⟨e.pr.trans g.pr, m, g.zx.trans e.zx, fun a q => (e.H a (.inr (by rw [g.pr]; exact .inl q))).trans (g.ex a q), ?_⟩
  obtain ⟨acc, h1, h2⟩ := g.acc
  exact ⟨acc, (e.H D (.inr g.gr)).trans h1, h2.mono e⟩
theorem Grow.push {K : PySem.W.Frag} {w1 w2 : Wd} {H1 H : Hp} {D : Addr} {M2 : Mem} {out : List CB.D} {acc : List V} {y : V} {dy : CB.D} (g : Grow K S w1 H1 D w2 H M2 out) (hn : ∀ a, w1.pr a → a ≠ D) (ha : H D = some (.lst acc)) (hy : Rep K S w2 H y dy) :
    Grow K S w1 H1 D w2 (upd H D (.lst (acc ++ [y]))) M2 (out ++ [dy]) := by
  have z := zx_bump (xs := acc ++ [y]) g.m g.gr
  refine ⟨g.pr, rel_bump g.m g.gr, g.zx.trans z, fun a q => (upd_ne (hn a q)).trans (g.ex a q), acc ++ [y], upd_same, ?_⟩
  obtain ⟨acc', h1, h2⟩ := g.acc
  rw [ha] at h1
  cases h1
  exact (h2.monoZ z.zvo).append (.cons (hy.monoZ z.zvo) .nil)
theorem Grow.stop {K : PySem.W.Frag} {σ : L2.St} {w1 w2 : Wd} {H1 H : Hp} {D : Addr} {M2 : Mem} {out : List CB.D} {Q : VK} (g : Grow K S w1 H1 D w2 H M2 out) (hn : ∀ a, w1.pr a → a ≠ D) (h : PostF K S W σ w1 H1 Q (.ok (.lst out) M2)) : Q (.ref D) H := by
  obtain ⟨acc, h1, h2⟩ := g.acc
  have z : Zx w2 H (w2.pw w1.pr) (rub H D) := zx_rub g.m g.gr
  have e : Evo w1 H1 (w2.pw w1.pr) (rub H D) := by
    refine ⟨g.zx.ρ, g.zx.Z, fun a q => ?_, rfl⟩
    rcases q with q | q
    · exact (z.H a (g.zx.Z a q)).trans (g.zx.H a q)
    · rw [rub_ne (hn a q)]; exact g.ex a q
  have := h (w2.pw w1.pr) (rub H D) D acc e (rel_rub g.m g.gr fun a q => ⟨by rw [g.pr]; exact .inl q, hn a q⟩) (h2.monoZ z.zvo) rub_same
  rw [rub_upd h1] at this
  exact this
theorem Grow.start {K : PySem.W.Frag} {w1 : Wd} {H1 : Hp} {D : Addr} {M1 : Mem} (m : RelM K S w1 H1 M1) (hD : H1 D = none) : Grow K S w1 H1 D (w1.pw fun a => w1.pr a ∨ a = D) (upd H1 D (.lst [])) M1 [] := by
  have hn : ∀ a, w1.Z a ∨ w1.pr a → a ≠ D := fun a z e => m.zed a z (by rw [e]; exact hD)
  exact ⟨rfl, rel_grd m hD, ⟨fun _ _ h => h, fun _ h => h, fun a z => upd_ne (hn a (.inl z))⟩, fun a q => upd_ne (hn a (.inr q)), [], upd_same, .nil⟩
theorem lc_read {p : Pt} {it : I} {c e : T} {own : List Nat} (hns : ∀ i ∈ p.ns, i ∈ own) {σ : L2.St} {H : Hp} {Q : VK} (h : RF X.K S W (ev Φ (.lc p it c e own)) σ H Q) :
    tLc (RI X.K S W p (evi Φ it)) (RG X.K S p) (RT X.K S WF (ev Φ c)) (RD X.K S WF (ev Φ e)) own σ H Q := by
  obtain ⟨w, δ, M, m, r, z⟩ := h
  unfold ev at z
  refine ⟨w, δ, M, m, r, z.step.mono fun J H1 ⟨w1, M1, ds, e1, m1, wk, z1⟩ D hD => ?_⟩
  obtain ⟨hlen, z1⟩ := postF_ite z1
  have hn : ∀ a, w1.pr a → a ≠ D := fun a q e => m1.zed a (.inr q) (by rw [e]; exact hD)
  have r1 := r.mono e1
  refine ⟨fun i n H2 => n = ds.length - i ∧ ∃ w2 M2 out, i ≤ ds.length ∧ out.length ≤ i ∧ Grow X.K S w1 H1 D w2 H2 M2 out ∧ Rest X.K S W σ w1 H1 Q (lcF Φ p own c e δ) (ds.drop i) out M2, ⟨ds.length - 0, rfl, _, M1, [], Nat.zero_le _, Nat.le_refl _, Grow.start m1 hD, ?_⟩, ?_⟩
  · unfold Rest
    simp only [List.drop_zero, List.nil_append]
    exact z1
  rintro i n H2 ⟨hm, w2, M2, out, hi, ho, g, rs⟩
  by_cases hlt : i < ds.length
  · rw [List.drop_eq_getElem_cons hlt] at rs
    obtain ⟨ys, M3, hF, rs⟩ := rest_cons rs
    obtain ⟨δ', t, Mc, ha, hc, hy⟩ := lcF_ok hF
    obtain ⟨hgo, hyld⟩ := wk.go w2 H2 M2 g.zx g.m i ds[i] (List.getElem?_eq_getElem hlt)
    refine .inr ⟨hgo, fun H3 => ∃ n', n' < n ∧ n' = ds.length - (i + 1) ∧ ∃ w2 M2 out, i + 1 ≤ ds.length ∧ out.length ≤ i + 1 ∧ Grow X.K S w1 H1 D w2 H3 M2 out ∧ Rest X.K S W σ w1 H1 Q (lcF Φ p own c e δ) (ds.drop (i + 1)) out M2,
      fun H' ⟨n', h1, h2, h3⟩ => ⟨n', h1, h2, h3⟩, fun x H3 hx => ?_⟩
    obtain ⟨w3, e3, m3, r3⟩ := hyld x H3 hx
    have g3 := g.evo e3 m3
    refine ⟨w3, wipeD δ own, ds[i], δ', (r1.monoZ g3.zx.zvo).wipe own, r3, ha, fun σ2 r2 hw => ⟨?_, ?_⟩⟩
    · rw [hw own hns, wipe_wipe]
    refine ⟨w3, δ', M2, m3, r2, ?_⟩
    rw [hc]
    intro w4 H4 b e4 m4 hb
    have hb : b = t := hb
    subst hb
    rcases hy with ⟨ht, y, he, hys⟩ | ⟨ht, hys, hM⟩
    · subst ht hys
      rw [if_pos rfl]
      refine ⟨w4, δ', Mc, m4, r2.mono e4, ?_⟩
      rw [he]
      intro w5 H5 v e5 m5 rv
      have g5 := (g3.evo e4 m4).evo e5 m5
      obtain ⟨acc, ha1, ha2⟩ := g5.acc
      refine ⟨acc, ha1, by rw [ha2.length, sizeLine_eq]; omega, ds.length - (i + 1), by omega, rfl, w5, M3, out ++ [y], hlt, by simp; omega, g5.push hn ha1 rv, rs⟩
    · subst ht hys hM
      rw [if_neg (by decide)]
      rw [List.append_nil] at rs
      exact ⟨ds.length - (i + 1), by omega, rfl, w4, M3, out, hlt, by omega, g3.evo e4 m4, rs⟩
  · have e2 : i = ds.length := by omega
    subst e2
    rw [List.drop_length] at rs
    exact .inl ⟨wk.stop w2 H2 M2 g.zx g.m, g.stop hn (rest_nil rs)⟩
theorem fresh_lc {p : Pt} {it : I} {c e : T} {own : List Nat} : ∀ δ M d M', ev Φ (.lc p it c e own) δ M = .ok d M' → isFresh d := fun δ M d M' h => by
  unfold ev at h
  obtain ⟨ds, M1, h1, h2⟩ := bind_okE h
  split at h2
  · obtain ⟨l, M2, h3, h4⟩ := bind_okE h2
    cases h4
    trivial
  · cases h2
end
end CB
end
section
set_option maxHeartbeats 1000000
/-! CB20: statements. -/
namespace CB
open PySem PySem.Spec L2
open PyProof.Rows hiding St
def PostS (K : PySem.W.Frag) (S : Sx) (W : WX) (w : Wd) (H : Hp) (E : Ends) : Rf → Prop
  | .nx δ M => ∀ w' H' σ', Evo w H w' H' → RelM K S w' H' M → RelE K S w' H' σ' δ → E.nx σ' H'
  | .ct δ M => ∀ w' H' σ', Evo w H w' H' → RelM K S w' H' M → RelE K S w' H' σ' δ → E.ct σ' H'
  | .ret d M => ∀ w' H' v, Evo w H w' H' → RelM K S w' H' M → Rep K S w' H' v d → E.rt v H'
  | .exc x δ M => ∀ w' H' σ' cls dd, Evo w H w' H' → RelM K S w' H' M → RelE K S w' H' σ' δ → S.xc x cls dd H' → W cls dd σ' H'
  | .stuck => False
abbrev SemS := Env → Mem → Rf
def RS (K : PySem.W.Frag) (S : Sx) (W : WX) (f : SemS) : TS := fun E σ H => ∃ w δ M, RelM K S w H M ∧ RelE K S w H σ δ ∧ PostS K S W w H E (f δ M)
abbrev DS (X : Cx) (S : Sx) (W : WX) (st : Stmt) (f : SemS) : Prop := PS X st (RS X.K S W f)
abbrev DSs (X : Cx) (S : Sx) (W : WX) (st : List Stmt) (f : SemS) : Prop := PSs X st (RS X.K S W f)
theorem _root_.L2.PS.imp {X : Cx} {st : Stmt} {t t' : TS} (h : PS X st t) (q : ∀ E σ H, t' E σ H → t E σ H) : PS X st t' := ⟨fun pins s σ H E I z => h.run pins s σ H E I (q _ _ _ z)⟩
theorem _root_.L2.PSs.imp {X : Cx} {st : List Stmt} {t t' : TS} (h : PSs X st t) (q : ∀ E σ H, t' E σ H → t E σ H) : PSs X st t' := ⟨fun pins s σ H E I z => h.run pins s σ H E I (q _ _ _ z)⟩
theorem _root_.L2.PS.or {X : Cx} {st : Stmt} {t t' : TS} (h : PS X st t) (h' : PS X st t') : PS X st fun E σ H => t E σ H ∨ t' E σ H := ⟨fun pins s σ H E I z => z.elim (h.run pins s σ H E I) (h'.run pins s σ H E I)⟩
section
variable {K : PySem.W.Frag} {S : Sx} {W : WX} {w w1 : Wd} {H H1 : Hp} {E E' : Ends} {σ : L2.St} {δ : Env} {M : Mem}
theorem PostS.shift {r : Rf} (h : PostS K S W w H E r) (e : Evo w H w1 H1) : PostS K S W w1 H1 E r := by
  cases r with
  | nx δ M => exact fun w' H' σ' e' m r => h w' H' σ' (e.trans e') m r
  | ct δ M => exact fun w' H' σ' e' m r => h w' H' σ' (e.trans e') m r
  | ret d M => exact fun w' H' v e' m r => h w' H' v (e.trans e') m r
  | exc x δ M => exact fun w' H' σ' c d e' m r z => h w' H' σ' c d (e.trans e') m r z
  | stuck => exact h
theorem PostS.run {r : Rs D} {g : D → Mem → Rf} (re : RelE K S w H σ δ) (h : PostS K S W w H E (r.run δ g)) :
    Post K S W σ (Rep K S) w H (fun v H1 => ∃ w1 M1 d, Evo w H w1 H1 ∧ RelM K S w1 H1 M1 ∧ Rep K S w1 H1 v d ∧ RelE K S w1 H1 σ δ ∧ PostS K S W w1 H1 E (g d M1)) r := by
  cases r with
  | ok d M => exact fun w' H' v e m r => ⟨w', M, d, e, m, r, re.mono e, h.shift e⟩
  | exc x M => exact fun w' H' c d e m z => h w' H' σ c d e m (re.mono e) z
  | stuck => exact h
theorem PostS.runT {r : Rs D} {g : Bool → Mem → Rf} (re : RelE K S w H σ δ) (h : PostS K S W w H E (r.runT δ g)) :
    Post K S W σ (fun _ _ (b : Bool) (c : Bool) => b = c) w H (fun c H1 => ∃ w1 M1, Evo w H w1 H1 ∧ RelM K S w1 H1 M1 ∧ RelE K S w1 H1 σ δ ∧ PostS K S W w1 H1 E (g c M1)) (r.test fun b M => .ok b M) := by
  cases r with
  | ok d M =>
    cases d with
    | bl b =>
      intro w' H' c e m r
      subst r
      exact ⟨w', M, e, m, re.mono e, h.shift e⟩
    | _ => exact h.elim
  | exc x M => exact fun w' H' c d e m z => h w' H' σ c d e m (re.mono e) z
  | stuck => exact h
theorem PostS.next {r : Rf} {g : Env → Mem → Rf} (h : PostS K S W w H E (r.next g)) : PostS K S W w H { E with nx := RS K S W g E } r := by
  cases r with
  | nx δ M => exact fun w' H' σ' e m r => ⟨w', δ, M, m, r, h.shift e⟩
  | ct δ M => exact h
  | ret d M => exact h
  | exc x δ M => exact h
  | stuck => exact h
theorem PostS.nxt (h : PostS K S W w H E (.nx δ M)) (m : RelM K S w H M) (r : RelE K S w H σ δ) : E.nx σ H := h w H σ (Evo.refl _ _) m r
theorem relM_set {n : Nat} {o u : MO} {a : Addr} {ho : HO} (m : RelM K S w H M) (h1 : M[n]? = some o) (l : o.live) (h2 : w.ρ[n]? = some a) (hu : MRep K S w (upd H a ho) a u) : Evo w H w (upd H a ho) ∧ RelM K S w (upd H a ho) (M.set n u) := by
  obtain ⟨s1, s2⟩ := m.sep n o a h1 l h2
  have e : Evo w H w (upd H a ho) := ⟨fun _ _ h => h, fun _ h => h, fun b z => upd_ne fun e => z.elim (fun z => s1 (e ▸ z)) fun z => s2 (e ▸ z), rfl⟩
  have hn : ∀ (i : Nat) (v : MO), (M.set n u)[i]? = some v → (i = n ∧ v = u) ∨ (i ≠ n ∧ M[i]? = some v) := fun i v h => by
    by_cases e : n = i
    · subst e
      rw [List.getElem?_set_self (List.getElem?_eq_some_iff.mp h1).1] at h
      cases h; exact .inl ⟨rfl, rfl⟩
    · rw [List.getElem?_set_ne e] at h; exact .inr ⟨fun q => e q.symm, h⟩
  refine ⟨e, ⟨by rw [List.length_set]; exact m.len, fun i v b x1 x2 => ?_, fun i j v1 v2 b x1 x2 l1 l2 x3 x4 => ?_, fun i v b x1 l' x2 => ?_, fun b z => ?_, m.zp, fun b q xs => ?_⟩⟩
  · rcases hn i v x1 with ⟨e1, e2⟩ | ⟨e1, e2⟩
    · subst e1 e2
      rw [h2] at x2; cases x2
      exact hu
    · refine (m.obj i v b e2 x2).mono e fun l' => upd_ne fun q => e1 ?_
      subst q
      exact m.inj i n v o b e2 h1 l' l x2 h2
  · rcases hn i v1 x1 with ⟨e1, e2⟩ | ⟨e1, e2⟩
    · rcases hn j v2 x2 with ⟨f1, f2⟩ | ⟨f1, f2⟩
      · rw [e1, f1]
      · subst e1
        rw [h2] at x3; cases x3
        exact m.inj i j o v2 _ h1 f2 l l2 h2 x4
    · rcases hn j v2 x2 with ⟨f1, f2⟩ | ⟨f1, f2⟩
      · subst f1
        rw [h2] at x4; cases x4
        exact m.inj i j v1 o _ e2 h1 l1 l x3 h2
      · exact m.inj i j v1 v2 b e2 f2 l1 l2 x3 x4
  · rcases hn i v x1 with ⟨e1, e2⟩ | ⟨e1, e2⟩
    · subst e1
      exact m.sep i o b h1 l x2
    · exact m.sep i v b e2 l' x2
  · by_cases q : b = a
    · rw [q, upd_same]; simp
    · rw [upd_ne q]; exact m.zed b z
  · have q2 : b ≠ a := fun z => s2 (z ▸ q)
    rw [upd_ne q2]; exact m.prl b q xs
theorem kPut_rep {k : List Int} {v : V} {d : D} (hv : Rep K S w H v d) {ks : List (List Key × V)} {l : List (List Int × D)} (r : RepK K S w H ks l) : RepK K S w H (putK ks (keyV k) v) (kPut k d l) := by
  have ha : (ks.any fun kv => decide (kv.1 = keyV k)) = (l.any fun p => decide (p.1 = k)) := by
    induction l generalizing ks with
    | nil => cases r; rfl
    | cons p ps ih =>
      cases r with
      | @cons q _ _ _ _ h r =>
        rw [List.any_cons, List.any_cons, ih r]
        have : decide (keyV q = keyV k) = decide (q = k) := by
          by_cases e : q = k
          · subst e; simp
          · have e2 : ¬ keyV q = keyV k := fun z => e (keyV_inj z)
            simp [e, e2]
        rw [this]
  have hm : RepK K S w H (ks.map fun kv => if kv.1 = keyV k then (kv.1, v) else kv) (l.map fun p => if p.1 = k then (p.1, d) else p) := by
    clear ha
    induction l generalizing ks with
    | nil => cases r; exact .nil
    | cons p ps ih =>
      cases r with
      | @cons q _ _ _ _ h r =>
        rw [List.map_cons, List.map_cons]
        by_cases e : q = k
        · subst e
          rw [if_pos rfl, if_pos rfl]
          exact .cons hv (ih r)
        · have e2 : ¬ keyV q = keyV k := fun z => e (keyV_inj z)
          rw [if_neg e2, if_neg e]
          exact .cons h (ih r)
  have happ : RepK K S w H (ks ++ [(keyV k, v)]) (l ++ [(k, d)]) := by
    clear ha hm
    induction l generalizing ks with
    | nil => cases r; exact .cons hv .nil
    | cons p ps ih =>
      cases r with
      | @cons q _ _ _ _ h r => exact .cons h (ih r)
  unfold putK kPut
  rw [ha]
  split
  · exact hm
  · exact happ
end
section
variable {X : Cx} {S : Sx} {W : WX} {Φ : Nat → List D → Mem → Rs D}
theorem dss_nil : DSs X S W [] (exs Φ .nil) := PSs.imp pss_nil fun E σ H ⟨w, δ, M, m, r, p⟩ => by
  unfold exs at p
  exact p.nxt m r
theorem dss_cons {st : Stmt} {rest : List Stmt} {s : CB.S} {ss : Ss} (h1 : DS X S W st (ex Φ s)) (h2 : DSs X S W rest (exs Φ ss)) : DSs X S W (st :: rest) (exs Φ (.cons s ss)) := PSs.imp (pss_cons h1 h2) fun E σ H ⟨w, δ, M, m, r, p⟩ => by
  unfold exs at p
  exact ⟨w, δ, M, m, r, p.next⟩
theorem ds_expr {e : Expr} {t : T} {pos : Pos} (h : DE X S W e (ev Φ t)) (hs : swapsWith e none pos.line X.env = pure false) : DS X S W (.Expr e pos) (ex Φ (.expr t)) := PS.imp (ps_expr h hs) fun E σ H ⟨w, δ, M, m, r, p⟩ => by
  unfold ex at p
  exact ⟨w, δ, M, m, r, (p.run r).mono fun v H1 ⟨w1, M1, d, e1, m1, rv, r1, p1⟩ => p1.nxt m1 r1⟩
theorem ds_ret {e : Expr} {t : T} {pos : Pos} (h : DE X S W e (ev Φ t)) : DS X S W (.Return (some e) pos) (ex Φ (.ret t)) := PS.imp (ps_ret h) fun E σ H ⟨w, δ, M, m, r, p⟩ => by
  unfold ex at p
  exact ⟨w, δ, M, m, r, (p.run r).mono fun v H1 ⟨w1, M1, d, e1, m1, rv, r1, p1⟩ => p1 w1 H1 v (Evo.refl _ _) m1 rv⟩
theorem ds_cont {pos : Pos} : DS X S W (.Continue pos) (ex Φ .cont) := PS.imp ps_continue fun E σ H ⟨w, δ, M, m, r, p⟩ => by
  unfold ex at p
  exact p w H σ (Evo.refl _ _) m r
theorem ds_ite {c : Expr} {a b : List Stmt} {t : T} {sa sb : Ss} {pos : Pos} (hc : DT X S W c (ev Φ t)) (ha : DSs X S W a (exs Φ sa)) (hb : DSs X S W b (exs Φ sb)) : DS X S W (.If c a b pos) (ex Φ (.ite t sa sb)) :=
  PS.imp (ps_if hc ha hb) fun E σ H ⟨w, δ, M, m, r, p⟩ => by
    unfold ex at p
    refine ⟨w, δ, M, m, r, (p.runT r).mono fun c H1 ⟨w1, M1, e1, m1, r1, p1⟩ => ?_⟩
    cases c with
    | true => rw [if_pos rfl] at p1 ⊢; exact ⟨w1, δ, M1, m1, r1, p1⟩
    | false => rw [if_neg (by decide)] at p1 ⊢; exact ⟨w1, δ, M1, m1, r1, p1⟩
theorem set_read {i : Nat} {t : T} {E : Ends} {σ : L2.St} {H : Hp} (h : RS X.K S W (ex Φ (.set i t)) E σ H) : tAsg (RD X.K S W (ev Φ t)) (gName i) E σ H := by
  obtain ⟨w, δ, M, m, r, p⟩ := h
  unfold ex at p
  exact ⟨w, δ, M, m, r, (p.run r).mono fun v H1 ⟨w1, M1, d, e1, m1, rv, r1, p1⟩ => p1.nxt m1 (r1.set i rv)⟩
theorem ds_set {i : Nat} {x : Str} {e : Expr} {t : T} {pos pos' : Pos} (hN : X.N.Nodup) (hi : X.N[i]? = some x) (hx : Loc X.env.scope x) (h : DE X S W e (ev Φ t)) (hs : swapsWith e (some (.Name x pos')) pos.line X.env = pure false) (hf : X.fn x = true ∨ X.env.scope.names.lookup x = some .local) :
    DS X S W (.Assign [.Name x pos'] e pos) (ex Φ (.set i t)) := PS.imp (ps_set hN hi hx h hs hf) fun E σ H h => set_read h
theorem ds_asg {tg e : Expr} {pt : Pt} {t : T} {pos : Pos} (h : DE X S W e (ev Φ t)) (hg : PG X tg (RG X.K S pt)) (hs : swapsWithSole [tg] e pos.line X.env = pure false) (hw : swappedStores [tg] e X.env = pure none) (h1 : (assignEach [tg] X.env).map (·.2) = [assign tg X.env]) :
    DS X S W (.Assign [tg] e pos) (ex Φ (.asg pt t)) := PS.imp (ps_asg h hg hs hw h1) fun E σ H ⟨w, δ, M, m, r, p⟩ => by
  unfold ex at p
  refine ⟨w, δ, M, m, r, (p.run r).mono fun v H1 ⟨w1, M1, d, e1, m1, rv, r1, p1⟩ => ?_⟩
  cases q : asgP pt d δ with
  | none => rw [q] at p1; exact p1.elim
  | some δ' =>
    rw [q] at p1
    exact ⟨w1, δ, d, δ', r1, RepP.of rv, q, fun σ' r' _ => p1.nxt m1 r'⟩
theorem ds_par2 {i j : Nat} {x y : Str} {a b : Expr} {ta tb : T} {px py pt pt2 pos : Pos} {kt k2 : Nat} (hc : X.calm = true) (hN : X.N.Nodup) (hi : X.N[i]? = some x) (hj : X.N[j]? = some y) (hij : i ≠ j)
    (hx : X.env.scope.names.lookup x = some .local) (hy : X.env.scope.names.lookup y = some .local) (ha : DE X S W a (ev Φ ta)) (hb : DE X S W b (ev Φ tb)) (ua : unStar a = true) (ub : unStar b = true)
    (hw : swappedStores [.Tuple [.Name x px, .Name y py] kt pt] (.Tuple [a, b] k2 pt2) X.env = pure (some [x, y])) :
    DS X S W (.Assign [.Tuple [.Name x px, .Name y py] kt pt] (.Tuple [a, b] k2 pt2) pos) (ex Φ (.par2 i j ta tb)) :=
  PS.imp (ps_par hc hN hi hj hij hx hy (pa_cons ha (pa_cons hb pa_nil (star_cons ub)) (star_cons ua)) hw rfl) fun E σ H ⟨w, δ, M, m, r, p⟩ => by
    unfold ex at p
    refine ⟨w, δ, M, m, r, (p.run r).mono fun v H1 ⟨w1, M1, d, e1, m1, rv, r1, p1⟩ => ⟨w1, δ, M1, m1, r1, (p1.run r1).mono fun u H2 ⟨w2, M2, d2, e2, m2, ru, r2, p2⟩ => ?_⟩⟩
    exact ⟨v, u, rfl, p2.nxt m2 ((r2.set i (rv.mono e2)).set j ru)⟩
theorem ds_par3 {i j k : Nat} {x y z : Str} {a b c : Expr} {ta tb tc : T} {px py pz pt pt2 pos : Pos} {kt k2 : Nat} (hc : X.calm = true) (hN : X.N.Nodup) (hi : X.N[i]? = some x) (hj : X.N[j]? = some y) (hk : X.N[k]? = some z) (hij : i ≠ j) (hik : i ≠ k) (hjk : j ≠ k)
    (hx : X.env.scope.names.lookup x = some .local) (hy : X.env.scope.names.lookup y = some .local) (hz : X.env.scope.names.lookup z = some .local) (ha : DE X S W a (ev Φ ta)) (hb : DE X S W b (ev Φ tb)) (hcc : DE X S W c (ev Φ tc)) (ua : unStar a = true) (ub : unStar b = true) (uc : unStar c = true)
    (hw : swappedStores [.Tuple [.Name x px, .Name y py, .Name z pz] kt pt] (.Tuple [a, b, c] k2 pt2) X.env = pure (some [x, y, z])) :
    DS X S W (.Assign [.Tuple [.Name x px, .Name y py, .Name z pz] kt pt] (.Tuple [a, b, c] k2 pt2) pos) (ex Φ (.par3 i j k ta tb tc)) :=
  PS.imp (ps_par3 hc hN hi hj hk hij hik hjk hx hy hz (pa_cons ha (pa_cons hb (pa_cons hcc pa_nil (star_cons uc)) (star_cons ub)) (star_cons ua)) hw rfl) fun E σ H ⟨w, δ, M, m, r, p⟩ => by
    unfold ex at p
    refine ⟨w, δ, M, m, r, (p.run r).mono fun v H1 ⟨w1, M1, d, e1, m1, rv, r1, p1⟩ => ⟨w1, δ, M1, m1, r1, (p1.run r1).mono fun u H2 ⟨w2, M2, d2, e2, m2, ru, r2, p2⟩ => ⟨w2, δ, M2, m2, r2, (p2.run r2).mono fun t H3 ⟨w3, M3, d3, e3, m3, rt, r3, p3⟩ => ?_⟩⟩⟩
    exact ⟨v, u, t, rfl, p3.nxt m3 (((r3.set i ((rv.mono e2).mono e3)).set j (ru.mono e3)).set k rt)⟩
/-! ### stores into cells -/
def unSlice : Expr → Bool
  | .Slice _ _ _ _ => false
  | _ => true
theorem asg_sub {o i : Expr} {pos : Pos} {env : PySem.Env} (h : unSlice i = true) : ∀ v, assign (.Subscript o i pos) env v = (do
      let ov ← holding [v] (eval o env)
      let iv ← holding [v, ov] (eval i env)
      standAt pos
      holding [v, ov, iv] (setItem ov iv v)
      release [v, ov, iv] []) := by
  intro v
  cases i <;> first | rfl | cases h
theorem ds_put (hu : X.A.units + 1 < cLine) {o i value : Expr} {to ti tv : T} {pos pos' : Pos} (ho : DE X S W o (ev Φ to)) (hi : DE X S W i (ev Φ ti)) (hv : DE X S W value (ev Φ tv)) (hs : swapsWith value (some (.Subscript o i pos')) pos.line X.env = pure false)
    (hw : swappedStores [.Subscript o i pos'] value X.env = pure none) (hsl : unSlice i = true) : DS X S W (.Assign [.Subscript o i pos'] value pos) (ex Φ (.put to ti tv)) := by
  have hl := ps_asg (pos := pos) hv (pg_sub (pos := pos') ho hi (set_list (X := X)) (asg_sub hsl)) hs hw rfl
  refine PS.imp (PS.or hl (ps_dput hu ho hi hv hs)) fun E σ H ⟨w, δ, M, m, r, p⟩ => ?_
  unfold ex at p
  -- which it is, told ahead
  have fin : ∀ {w3 : Wd} {H3 : Hp} {M3 : Mem} {x y z : V} {d di dv : D}, RelM X.K S w3 H3 M3 → RelE X.K S w3 H3 σ δ → Rep X.K S w3 H3 x d → Rep X.K S w3 H3 y di → Rep X.K S w3 H3 z dv → PostS X.K S W w3 H3 E (liftM δ (putD M3 d di dv)) →
      (∃ k, di = .int k) ∧ rSetL x y z H3 (fun H4 => E.nx σ H4) ∨ (∃ k, di = .key k) ∧ ∃ a H4, x = .ref a ∧ DPut H3 a y z H4 ∧ E.nx σ H4 := by
    intro w3 H3 M3 x y z d di dv m3 r3 rx ry rz p3
    cases hp : putD M3 d di dv with
    | none => rw [hp] at p3; exact p3.elim
    | some M4 =>
      rw [hp] at p3
      unfold putD at hp
      split at hp
      · rename_i n
        split at hp
        · rename_i l k hM
          obtain ⟨a, rfl, h1, h2⟩ := m3.loc hM rx
          cases h2 with
          | @lst xs _ hh rl =>
            cases hj : L2.ixN l.length k with
            | none => rw [hj] at hp; cases hp
            | some j =>
              rw [hj] at hp
              cases hp
              refine .inl ⟨⟨k, rfl⟩, a, xs, k, j, rfl, ry.int_inv, hh, by rw [rl.length]; exact hj, ?_⟩
              have sep := m3.sep n _ a hM True.intro h1
              have ev0 : Evo w3 H3 w3 (upd H3 a (.lst (xs.set j z))) := ⟨fun _ _ h => h, fun _ h => h, fun b q => upd_ne fun e => q.elim (fun q => sep.1 (e ▸ q)) fun q => sep.2 (e ▸ q), rfl⟩
              obtain ⟨e4, m4⟩ := relM_set (u := .lst (l.set j dv)) m3 hM True.intro h1 (ho := .lst (xs.set j z)) (.lst upd_same ((rl.set j rz).mono ev0))
              exact p3 w3 _ σ e4 m4 (r3.mono e4)
        · rename_i l k hM
          split at hp
          · rename_i hl2
            cases hp
            obtain ⟨a, rfl, h1, h2⟩ := m3.loc hM rx
            cases h2 with
            | @dct ks _ hh rl =>
              obtain ⟨b, rfl, hb⟩ := ry.key_inv
              refine .inr ⟨⟨k, rfl⟩, a, _, rfl, DPut.t hh hb (by rw [rl.length, sizeLine_eq]; omega), ?_⟩
              have sep := m3.sep n _ a hM True.intro h1
              have ev0 : Evo w3 H3 w3 (upd H3 a (.dT (putK ks (keyV k) z))) := ⟨fun _ _ h => h, fun _ h => h, fun b q => upd_ne fun e => q.elim (fun q => sep.1 (e ▸ q)) fun q => sep.2 (e ▸ q), rfl⟩
              obtain ⟨e4, m4⟩ := relM_set (u := .dct (kPut k dv l)) m3 hM True.intro h1 (ho := .dT (putK ks (keyV k) z)) (.dct upd_same ((kPut_rep rz rl).mono ev0))
              exact p3 w3 _ σ e4 m4 (r3.mono e4)
          · cases hp
        · cases hp
      · cases hp
  -- the key's kind, as the interpreter finds it
  have kind : (∃ dv M1 d M2 k M3, ev Φ tv δ M = .ok dv M1 ∧ ev Φ to δ M1 = .ok d M2 ∧ ev Φ ti δ M2 = .ok (.key k) M3) ∨ ¬ ∃ dv M1 d M2 k M3, ev Φ tv δ M = .ok dv M1 ∧ ev Φ to δ M1 = .ok d M2 ∧ ev Φ ti δ M2 = .ok (.key k) M3 := Classical.em _
  rcases kind with ⟨dv, M1, d, M2, k, M3, q1, q2, q3⟩ | hno
  · refine .inr ⟨w, δ, M, m, r, ?_⟩
    rw [q1] at p ⊢
    intro w1 H1 v e1 m1 rv
    have r1 := r.mono e1
    have p1 := PostS.shift p e1
    refine ⟨w1, δ, M1, m1, r1, ?_⟩
    rw [Rs.run_ok, q2] at p1
    rw [q2]
    intro w2 H2 x e2 m2 rx
    have r2 := r1.mono e2
    have p2 := PostS.shift p1 e2
    refine ⟨w2, δ, M2, m2, r2, ?_⟩
    rw [Rs.run_ok, q3] at p2
    rw [q3]
    intro w3 H3 y e3 m3 ry
    have p3 := PostS.shift p2 e3
    rcases fin m3 (r2.mono e3) (rx.mono e3) ry ((rv.mono e2).mono e3) p3 with ⟨⟨_, z⟩, _⟩ | ⟨_, z⟩
    · cases z
    · exact z
  · refine .inl ⟨w, δ, M, m, r, ?_⟩
    cases q1 : ev Φ tv δ M with
    | stuck => rw [q1] at p; exact p.elim
    | exc x M1 => rw [q1] at p; exact fun w' H' c dd e' m' z => p w' H' σ c dd e' m' (r.mono e') z
    | ok dv M1 =>
      rw [q1] at p
      intro w1 H1 v e1 m1 rv
      have r1 := r.mono e1
      have p1 := PostS.shift p e1
      refine ⟨w1, δ, M1, m1, r1, ?_⟩
      rw [Rs.run_ok] at p1
      cases q2 : ev Φ to δ M1 with
      | stuck => rw [q2] at p1; exact p1.elim
      | exc x M2 => rw [q2] at p1; exact fun w' H' c dd e' m' z => p1 w' H' σ c dd e' m' (r1.mono e') z
      | ok d M2 =>
        rw [q2] at p1
        intro w2 H2 x e2 m2 rx
        have r2 := r1.mono e2
        have p2 := PostS.shift p1 e2
        refine ⟨w2, δ, M2, m2, r2, ?_⟩
        rw [Rs.run_ok] at p2
        cases q3 : ev Φ ti δ M2 with
        | stuck => rw [q3] at p2; exact p2.elim
        | exc x M3 => rw [q3] at p2; exact fun w' H' c dd e' m' z => p2 w' H' σ c dd e' m' (r2.mono e') z
        | ok di M3 =>
          rw [q3] at p2
          intro w3 H3 y e3 m3 ry
          have p3 := PostS.shift p2 e3
          rcases fin m3 (r2.mono e3) (rx.mono e3) ry ((rv.mono e2).mono e3) p3 with ⟨_, z⟩ | ⟨⟨k, z⟩, _⟩
          · exact z
          · subst z
            exact (hno ⟨dv, M1, d, M2, k, M3, q1, q2, q3⟩).elim
end
end CB
end
section
set_option maxHeartbeats 1000000
/-! CB21: append, loops, raise, try. -/
namespace CB
open PySem PySem.Spec L2
open PyProof.Rows hiding St
section
variable {K : PySem.W.Frag} {S : Sx} {W : WX} {w w1 : Wd} {H H1 : Hp} {E E' : Ends} {σ : L2.St} {δ : Env} {M : Mem}
theorem postS_ite {c : Prop} [Decidable c] {r : Rf} (p : PostS K S W w H E (if c then r else .stuck)) : c ∧ PostS K S W w H E r := by
  by_cases h : c
  · rw [if_pos h] at p; exact ⟨h, p⟩
  · rw [if_neg h] at p; exact p.elim
theorem isLst_rep {v : V} {d : D} (m : RelM K S w H M) (r : Rep K S w H v d) (h : isLst M d = true) : tyV K "list" v H := by
  cases d with
  | loc n =>
    unfold isLst at h
    simp only at h
    split at h
    · rename_i hM
      obtain ⟨a, rfl, h1, h2⟩ := m.loc hM r
      cases h2 with
      | lst h r => exact .inl ⟨rfl, _, .of h⟩
    · cases h
  | _ => cases h
theorem app_set {v y : V} {d e : D} {M' : Mem} (m : RelM K S w H M) (rx : Rep K S w H v d) (ry : Rep K S w H y e) (h : appD M d e = some M') : ∃ a xs, v = .ref a ∧ H a = some (.lst xs) ∧ xs.length < sizeLine ∧ Evo w H w (upd H a (.lst (xs ++ [y]))) ∧ RelM K S w (upd H a (.lst (xs ++ [y]))) M' := by
  unfold appD at h
  split at h
  · rename_i n
    split at h
    · rename_i l hM
      split at h
      · cases h
        rename_i hl2
        obtain ⟨a, rfl, h1, h2⟩ := m.loc hM rx
        cases h2 with
        | @lst xs _ hh rl =>
          have sep := m.sep n _ a hM True.intro h1
          have ev0 : Evo w H w (upd H a (.lst (xs ++ [y]))) := ⟨fun _ _ h => h, fun _ h => h, fun b q => upd_ne fun e => q.elim (fun q => sep.1 (e ▸ q)) fun q => sep.2 (e ▸ q), rfl⟩
          obtain ⟨e4, m4⟩ := relM_set (u := .lst (l ++ [e])) m hM True.intro h1 (ho := .lst (xs ++ [y])) (.lst upd_same ((rl.append (.cons ry .nil)).mono ev0))
          exact ⟨a, xs, rfl, hh, by rw [rl.length, sizeLine_eq]; omega, e4, m4⟩
      · cases h
    · cases h
  · cases h
end
section
variable {X : Cx} {S : Sx} {W : WX} {Φ : Nat → List D → Mem → Rs D}
theorem few_of {e : Expr} {es : List Expr} {cpos : Pos} {env : PySem.Env} (hs : (e :: es).all unStar = true) (hl : (e :: es).length < 30) : ((backTo cpos (starEach (e :: es) env)).all (fun x => !x.1) && (backToKw cpos (keywordEach [] env)).all (fun x => x.1.isSome)
      && decide ((e :: es).length + ([] : List Keyword).length + (if ([] : List Keyword).isEmpty then 0 else 1) < 30)) = true := by
  rw [star_all hs]
  have hl2 : (e :: es).length + 0 + 0 < 30 := hl
  simp only [Bool.true_and, Bool.and_eq_true]
  exact ⟨rfl, decide_eq_true hl2⟩
theorem ds_app {o e : Expr} {x : Str} {to te : T} {apos cpos pos : Pos} (hx : x = "append") (ho : DE X S W o (ev Φ to)) (he : DE X S W e (ev Φ te)) (hbase : attributeBase o x X.env (eval o X.env) = eval o X.env) (hline : (apos.endLine == cpos.line) = true) (hs : unStar e = true) :
    DS X S W (.Expr (.Call (.Attribute o x apos) [e] [] cpos) pos) (ex Φ (.app to te)) := by
  subst hx
  have hs1 : ([e] : List Expr).all unStar = true := by simp [hs]
  have hA : PA X [e] _ := pa_cons he pa_nil (star_cons hs)
  refine PS.imp (ps_expr (pe_bm F.plainAttrs_list F.slot_list_append F.type_list_append mt_append ho hA hbase (few_of hs1 (by show 1 < 30; decide)) hline (star_cons hs) rfl) rfl) fun E σ H ⟨w, δ, M, m, r, p⟩ => ?_
  unfold ex at p
  refine ⟨w, δ, M, m, r, (p.run r).mono fun v H1 ⟨w1, M1, d, e1, m1, rv, r1, p1⟩ => ?_⟩
  obtain ⟨hl, p1⟩ := postS_ite p1
  refine ⟨isLst_rep m1 rv hl, w1, δ, M1, m1, r1, (p1.run r1).mono fun y H2 ⟨w2, M2, d2, e2, m2, ry, r2, p2⟩ => ?_⟩
  cases q : appD M2 d d2 with
  | none => rw [q] at p2; exact p2.elim
  | some M3 =>
    rw [q] at p2
    obtain ⟨a, xs, rfl, h1, h2, e3, m3⟩ := app_set m2 (rv.mono e2) ry q
    exact ⟨a, xs, y, rfl, rfl, h1, h2, p2 w2 _ σ e3 m3 (r2.mono e3)⟩
/-! ### for -/
abbrev forF (Φ : Nat → List D → Mem → Rs D) (p : Pt) (body : Ss) : D → Env → Mem → Rf := fun d δ M => match asgP p d δ with | some δ' => exs Φ body δ' M | none => .stuck
/-- what a loop over an iterator asks -/
abbrev forR (X : Cx) (S : Sx) (W : WX) (Φ : Nat → List D → Mem → Rs D) (p : Pt) (body : Ss) (E : Ends) (σ : L2.St) : It → Hp → Prop := fun J H1 => ∃ Wi : Nat → Nat → L2.St → Hp → Prop, (∃ m, Wi 0 m σ H1) ∧ ∀ i m σ H, Wi i m σ H →
  (J.stop i H ∧ E.nx σ H) ∨ (J.go i H ∧ ∃ N : L2.St → Hp → Prop, (∀ σ' H', N σ' H' → ∃ m', m' < m ∧ Wi (i + 1) m' σ' H') ∧ ∀ x H', J.yld i H x H' → RG X.K S p x σ H' fun σ2 H2 => RS X.K S W (exs Φ body) { E with nx := N, ct := N, bk := E.nx } σ2 H2)
theorem for_post {p : Pt} {f : SemL} {body : Ss} {E : Ends} {σ : L2.St} {H : Hp} {w : Wd} {δ : Env} {M : Mem} (m : RelM X.K S w H M) (r : RelE X.K S w H σ δ)
    (h : PostS X.K S W w H E (match f δ M with
      | .ok ds M1 => forGo (forF Φ p body) ds δ M1
      | .exc x M1 => .exc x δ M1
      | .stuck => .stuck)) : Post X.K S W σ (fun w' H' J ds => Wlk X.K S p w' H' J ds) w H (forR X S W Φ p body E σ) (f δ M) := by
  cases q : f δ M with
  | exc x M1 => rw [q] at h; exact fun w' H' c dd e' m' z => h w' H' σ c dd e' m' (r.mono e') z
  | stuck => rw [q] at h; exact h.elim
  | ok ds M1 =>
    rw [q] at h
    have h : PostS X.K S W w H E (forGo (forF Φ p body) ds δ M1) := h
    intro w1 H1 J e1 m1 wk
    refine ⟨fun i n σ H2 => n = ds.length - i ∧ i ≤ ds.length ∧ ∃ w2 δ2 M2, Evo w1 H1 w2 H2 ∧ RelM X.K S w2 H2 M2 ∧ RelE X.K S w2 H2 σ δ2 ∧ PostS X.K S W w2 H2 E (forGo (forF Φ p body) (ds.drop i) δ2 M2),
      ⟨_, rfl, Nat.zero_le _, w1, δ, M1, Evo.refl _ _, m1, r.mono e1, by rw [List.drop_zero]; exact h.shift e1⟩, ?_⟩
    rintro i n σ2 H2 ⟨hn, hi, w2, δ2, M2, e2, m2, r2, h2⟩
    by_cases hlt : i < ds.length
    · rw [List.drop_eq_getElem_cons hlt] at h2
      unfold forGo at h2
      obtain ⟨hgo, hyld⟩ := wk.go w2 H2 M2 e2.zx m2 i ds[i] (List.getElem?_eq_getElem hlt)
      refine .inr ⟨hgo, fun σ3 H3 => ∃ n', n' < n ∧ n' = ds.length - (i + 1) ∧ i + 1 ≤ ds.length ∧ ∃ w2 δ2 M2, Evo w1 H1 w2 H3 ∧ RelM X.K S w2 H3 M2 ∧ RelE X.K S w2 H3 σ3 δ2 ∧ PostS X.K S W w2 H3 E (forGo (forF Φ p body) (ds.drop (i + 1)) δ2 M2),
        fun σ' H' ⟨n', a, b, c⟩ => ⟨n', a, b, c⟩, fun x H3 hx => ?_⟩
      obtain ⟨w3, e3, m3, r3⟩ := hyld x H3 hx
      cases qa : asgP p ds[i] δ2 with
      | none =>
        have : forF Φ p body ds[i] δ2 M2 = .stuck := by unfold forF; rw [qa]
        rw [this] at h2; exact h2.elim
      | some δ' =>
        have hf : forF Φ p body ds[i] δ2 M2 = exs Φ body δ' M2 := by unfold forF; rw [qa]
        rw [hf] at h2
        refine ⟨w3, δ2, ds[i], δ', r2.mono e3, r3, qa, fun σ4 r4 _ => ⟨w3, δ', M2, m3, r4, ?_⟩⟩
        have h3 := PostS.shift h2 e3
        cases qb : exs Φ body δ' M2 with
        | nx δ5 M5 =>
          rw [qb] at h3
          exact fun w5 H5 σ5 e5 m5 r5 => ⟨_, by omega, rfl, hlt, w5, δ5, M5, (e2.trans e3).trans e5, m5, r5, PostS.shift h3 e5⟩
        | ct δ5 M5 =>
          rw [qb] at h3
          exact fun w5 H5 σ5 e5 m5 r5 => ⟨_, by omega, rfl, hlt, w5, δ5, M5, (e2.trans e3).trans e5, m5, r5, PostS.shift h3 e5⟩
        | ret d M5 => rw [qb] at h3; exact h3
        | exc x δ5 M5 => rw [qb] at h3; exact h3
        | stuck => rw [qb] at h3; exact h3
    · have ei : i = ds.length := by omega
      subst ei
      rw [List.drop_length] at h2
      exact .inl ⟨wk.stop w2 H2 M2 e2.zx m2, h2.nxt m2 r2⟩
theorem for_read {p : Pt} {f : SemL} {body : Ss} {E : Ends} {σ : L2.St} {H : Hp} {w : Wd} {δ : Env} {M : Mem} (m : RelM X.K S w H M) (r : RelE X.K S w H σ δ)
    (h : PostS X.K S W w H E (match f δ M with
      | .ok ds M1 => forGo (forF Φ p body) ds δ M1
      | .exc x M1 => .exc x δ M1
      | .stuck => .stuck)) : tFor (RI X.K S W p f) (RG X.K S p) (RS X.K S W (exs Φ body)) E σ H := ⟨w, δ, M, m, r, for_post m r h⟩
theorem ds_for {tg iter : Expr} {body : List Stmt} {p : Pt} {it : I} {bs : Ss} {pos : Pos} (hp : PassesOwn (model X.prog X.w) X.A X.env X.xe) (hc : X.calm = true) (hi : DI X S W p tg iter (evi Φ it)) (hg : PG X tg (RG X.K S p)) (hb : DSs X S W body (exs Φ bs))
    (hs : ∀ x, foldedSetIterable iter X.env x = pure x) : DS X S W (.For tg iter body [] pos) (ex Φ (.for_ p it bs)) := PS.imp (ps_for hp hc hi hg hb hs) fun E σ H ⟨w, δ, M, m, r, q⟩ => by
  unfold ex at q
  exact for_read m r q
theorem ds_whl {c : Expr} {body : List Stmt} {t : T} {bs : Ss} {pos : Pos} (hp : PassesOwn (model X.prog X.w) X.A X.env X.xe) (hc : DT X S W c (ev Φ t)) (hb : DSs X S W body (exs Φ bs)) : DS X S W (.While c body [] pos) (ex Φ (.whl t bs)) := PS.imp (ps_while hp hc hb) fun E σ H ⟨w, δ, M, m, r, q⟩ => by
  unfold ex at q
  refine ⟨fun n σ H => ∃ w2 δ2 M2, RelM X.K S w2 H M2 ∧ RelE X.K S w2 H σ δ2 ∧ PostS X.K S W w2 H E (whlGo (fun δ M => ev Φ t δ M) (fun δ M => exs Φ bs δ M) n δ2 M2), ⟨100, w, δ, M, m, r, q⟩, ?_⟩
  rintro n σ2 H2 ⟨w2, δ2, M2, m2, r2, h2⟩
  cases n with
  | zero => exact h2.elim
  | succ n =>
    unfold whlGo at h2
    refine ⟨w2, δ2, M2, m2, r2, (PostS.runT r2 h2).mono fun b H3 ⟨w3, M3, e3, m3, r3, h3⟩ => ?_⟩
    cases b with
    | false => rw [if_neg (by decide)] at h3 ⊢; exact h3.nxt m3 r3
    | true =>
      rw [if_pos rfl] at h3 ⊢
      refine ⟨fun σ4 H4 => ∃ w2 δ2 M2, RelM X.K S w2 H4 M2 ∧ RelE X.K S w2 H4 σ4 δ2 ∧ PostS X.K S W w2 H4 E (whlGo (fun δ M => ev Φ t δ M) (fun δ M => exs Φ bs δ M) n δ2 M2), fun σ' H' z => ⟨n, Nat.lt_succ_self n, z⟩, w3, δ2, M3, m3, r3, ?_⟩
      cases qb : exs Φ bs δ2 M3 with
      | nx δ5 M5 => rw [qb] at h3; exact fun w5 H5 σ5 e5 m5 r5 => ⟨w5, δ5, M5, m5, r5, PostS.shift h3 e5⟩
      | ct δ5 M5 => rw [qb] at h3; exact fun w5 H5 σ5 e5 m5 r5 => ⟨w5, δ5, M5, m5, r5, PostS.shift h3 e5⟩
      | ret d M5 => rw [qb] at h3; exact h3
      | exc x δ5 M5 => rw [qb] at h3; exact h3
      | stuck => rw [qb] at h3; exact h3
/-! ### raise, try -/
theorem ds_raise {x msg : Str} {j c : Nat} {p p2 pos pos2 : Pos} {C : Addr} {bmB : List Value} {B newId initId : String} (hc : X.calm = true) (tk : Takes X W) (Fx : ExcBaseFacts B newId initId bmB) (q : PySem.W.excIn X.K C bmB newId = true) (gC : X.mg x = some (.ref C)) (kC : PySem.W.keepIn X.K (.ref C) = true) (rs : Raises X (.ref C))
    (hg : Gl X x) (hdb : (x == ("__debug__" : Str)) = false) (hx : ∀ H, S.xc ⟨c, none⟩ (.ref C) none H) : DS X S W (.Raise (some (.Call (.Name x p) [.Constant (.str msg) j p2] [] pos)) none pos2) (ex Φ (.raise c)) :=
  PS.imp (ps_raise hc tk (pmk_own Fx q gC kC rs hg hdb)) fun E σ H ⟨w, δ, M, m, r, z⟩ => by
    unfold ex at z
    exact z w H σ (.ref C) none (Evo.refl _ _) m r (hx H)
/-- the suite of an except: plain statements, in the context of the suite -/
theorem ds_try {x : Str} {cv : Value} {cn : Nat} {body suite : List Stmt} {b₀ : Stmt} {np pos pos' : Pos} {bs ss : Ss} (hs : X.stack = X.env :: X.outer) (hf : X.env.frame = some X.env.locals) (hc : Names X x cv) (tk : Takes X W)
    (hm : ∀ e cls dd H, S.xc e cls dd H → PySem.W.exmOne X.K cls cv = some (decide (e.cls = cn)))
    (hb : ∀ (W : WX) (pn : List (Addr × Obj)) (xe : Value → Shared → Prop), Takes (X.tr pn xe) W → PassesOwn (model X.prog X.w) X.A X.env xe → DSs (X.tr pn xe) S W body (exs Φ bs))
    (hsu : ∀ (a : Addr) (oe : Obj) (cls : Value) (d : Option Addr) (pn : List (Addr × Obj)), Zc cls d oe → (∃ vs, oe.data = .fields vs) → DSs (X.suite a ((a, oe) :: pn)) S W (b₀ :: suite) (exs Φ ss)) :
    DS X S W (.Try body [.ExceptHandler (some (.Name x np)) none (b₀ :: suite) pos'] [] [] pos) (ex Φ (.try_ bs cn ss)) := by
  refine PS.imp (ps_try_only (tb := fun W => RS X.K S W (exs Φ bs)) (ts := fun a cls d => RS X.K S W (exs Φ ss)) hs hf hc tk hb hsu) fun E σ H ⟨w, δ, M, m, r, z⟩ => ?_
  unfold ex at z
  refine ⟨w, δ, M, m, r, ?_⟩
  cases q : exs Φ bs δ M with
  | nx δ5 M5 => rw [q] at z; exact z
  | ct δ5 M5 => rw [q] at z; exact z
  | ret d M5 => rw [q] at z; exact z
  | stuck => rw [q] at z; exact z
  | exc e δ5 M5 =>
    rw [q] at z
    have z : PostS X.K S W w H E (if e.cls = cn then exs Φ ss δ5 M5 else .exc e δ5 M5) := z
    intro w' H' σ' cls dd e' m' r' hx
    refine ⟨_, hm e cls dd H' hx, fun hb a _ => ?_, fun hb => ?_⟩
    · have hb := of_decide_eq_true hb
      rw [if_pos hb] at z
      exact ⟨w', δ5, M5, m', r', z.shift e'⟩
    · have hb := of_decide_eq_false hb
      rw [if_neg hb] at z
      exact z w' H' σ' cls dd e' m' r' hx
end
end CB
end
section
set_option maxHeartbeats 4000000
/-! CB21b: sorted(set(t)). -/
namespace CB
open PySem PySem.Spec L2
open PyProof.Rows hiding St
theorem insS_spec (x : Int) : ∀ {l : List Int}, l.Pairwise (· < ·) → (insS x l).Pairwise (· < ·) ∧ ∀ k, k ∈ insS x l ↔ k = x ∨ k ∈ l
  | [], _ => ⟨List.pairwise_singleton _ _, fun k => by simp [insS]⟩
  | y :: r, h => by
    obtain ⟨h1, h2⟩ := List.pairwise_cons.mp h
    unfold insS
    by_cases c : x < y
    · rw [if_pos c]
      refine ⟨List.pairwise_cons.mpr ⟨fun z hz => ?_, h⟩, fun k => by simp⟩
      rcases List.mem_cons.mp hz with e | e
      · rw [e]; exact c
      · have := h1 z e; omega
    · rw [if_neg c]
      by_cases c2 : x = y
      · rw [if_pos c2]
        subst c2
        exact ⟨h, fun k => by simp⟩
      · rw [if_neg c2]
        obtain ⟨i1, i2⟩ := insS_spec x h2
        refine ⟨List.pairwise_cons.mpr ⟨fun z hz => ?_, i1⟩, fun k => ?_⟩
        · rcases (i2 z).mp hz with e | e
          · subst e; omega
          · exact h1 z e
        · rw [List.mem_cons, i2 k, List.mem_cons]
          constructor
          · rintro (a | a | a)
            · exact .inr (.inl a)
            · exact .inl a
            · exact .inr (.inr a)
          · rintro (a | a | a)
            · exact .inr (.inl a)
            · exact .inl a
            · exact .inr (.inr a)
theorem setS_spec : ∀ l : List Int, (setS l).Pairwise (· < ·) ∧ ∀ k, k ∈ setS l ↔ k ∈ l
  | [] => ⟨List.Pairwise.nil, fun k => Iff.rfl⟩
  | x :: r => by
    obtain ⟨h1, h2⟩ := setS_spec r
    obtain ⟨i1, i2⟩ := insS_spec x h1
    exact ⟨i1, fun k => by unfold setS; rw [i2 k, h2 k, List.mem_cons]⟩
theorem asc_uniq : ∀ {a b : List Int}, a.Pairwise (· < ·) → b.Pairwise (· < ·) → (∀ k, k ∈ a ↔ k ∈ b) → a = b
  | [], [], _, _, _ => rfl
  | [], y :: r, _, _, h => by have := (h y).mpr (List.mem_cons_self); cases this
  | x :: r, [], _, _, h => by have := (h x).mp (List.mem_cons_self); cases this
  | x :: r, y :: s, ha, hb, h => by
    obtain ⟨a1, a2⟩ := List.pairwise_cons.mp ha
    obtain ⟨b1, b2⟩ := List.pairwise_cons.mp hb
    have e : x = y := by
      have p := List.mem_cons.mp ((h x).mp (List.mem_cons_self))
      have q := List.mem_cons.mp ((h y).mpr (List.mem_cons_self))
      rcases p with p | p
      · exact p
      · rcases q with q | q
        · exact q.symm
        · have := b1 x p
          have := a1 y q
          omega
    subst e
    congr 1
    refine asc_uniq a2 b2 fun k => ⟨fun hk => ?_, fun hk => ?_⟩
    · rcases List.mem_cons.mp ((h k).mp (List.mem_cons_of_mem _ hk)) with q | q
      · subst q; have := a1 k hk; omega
      · exact q
    · rcases List.mem_cons.mp ((h k).mpr (List.mem_cons_of_mem _ hk)) with q | q
      · subst q; have := b1 k hk; omega
      · exact q
def tSset (K : PySem.W.Frag) (ta : TE) : TE := fun σ H Q => ta σ H fun x H1 => ∃ (l : Addr) (ns : List Int), x = .ref l ∧ SqT K H1 l (ns.map V.int) ∧ ns.length ≤ 60 ∧ ∀ p, H1 p = none → Q (.ref p) (upd H1 p (.lst ((setS ns).map V.int)))
theorem sset_list {X : Cx} {pins : List (Addr × Obj)} {σ : L2.St} {H1 : Hp} {s : Shared} {a : Addr} {ns : List Int} {c : Nat} {Q : VK} (I : Inv X pins σ H1 s) (R : SetR X.w s.heap a (fun j => decide (j ∈ ns)) c) (hd : X.A.handled = none) (hc : c < 64)
    (q : ∀ p, H1 p = none → Q (.ref p) (upd H1 p (.lst ((setS ns).map V.int)))) : wpAny (model X.prog X.w) X.A (call (.builtin "sorted") [.ref a]) (EP X pins σ Q) X.xe s := by
  refine sorted_set R hd hc fun s' p out c' ms k g o hp hg hi hs hm hl => ?_
  have e : ms = setS ns := asc_uniq hs (setS_spec ns).1 fun j => by rw [hm j, decide_eq_true_eq, (setS_spec ns).2 j]
  subst e
  have hlen : ((setS ns).map V.int).length ≤ sizeLine := by rw [List.length_map, hl, sizeLine_eq]; omega
  have hn : H1 p = none := I.hok.fresh hp
  have J : Inv X pins σ (upd H1 p (.lst ((setS ns).map V.int))) { s with heap := s'.heap, gens := s'.gens, drawn := s'.drawn, toks := s'.toks } :=
    I.call (ch := []) (Un.laid k hp hn) (I.hok.laid k hp ⟨hlen, out.toList, c', vals_of_ints hi, hg⟩) (by rw [g]; exact I.bare) (fun _ z => nomatch z)
  have e : s' = { s with heap := s'.heap, gens := s'.gens, drawn := s'.drawn, toks := s'.toks } := by
    cases s'
    cases s
    cases o
    rfl
  rw [e]
  exact ⟨.ref p, _, J, rfl, q p hn⟩
theorem pe_sset {X : Cx} {a : Expr} {ta : TE} {p p2 q pos : Pos} (hg : Gl X "sorted") (hm : X.mg "sorted" = none) (hv : bootBuiltins "sorted" = some (.builtin "sorted")) (hg2 : Gl X "set") (hm2 : X.mg "set" = none) (ha : PE X a ta) (hc : X.calm = true)
    (na : starEach [a] X.env = (false, eval a X.env) :: starEach [] X.env) : PE X (.Call (.Name "sorted" p) [.Call (.Name "set" p2) [a] [] q] [] pos) (tSset X.K ta) := by
  refine ⟨fun pins s σ H Q I h => ?_⟩
  refine Call_ (ld_blt I hg hm hv ?_)
  refine PyProof.Rows.callWith_builtin1 (PyProof.Rows.args_cons ?_ rfl) rfl rfl
  refine Call_ (ld_blt I hg2 hm2 PyProof.Rows.boot_set ?_)
  refine PyProof.Rows.callWith_type1 (PyProof.Rows.args_cons (thn (ha.run pins s σ H _ I h) fun v s1 ⟨x, H1, I1, r1, q1⟩ => PyProof.Rows.args_nil ?_) na) na rfl
  obtain ⟨l, ns, rfl, hq, hl, q1⟩ := q1
  cases r1
  obtain ⟨its, rv, pt, hz⟩ := I1.tuple hq
  have hi : IntsAre its.toArray.toList ns := ints_of_vals rv
  have hd := I1.ok.hd hc
  refine call_set_tupI ns hd (show s1.heap.IsTuple l its.toArray from pt) hi (by unfold scanBound; omega) fun h' tk c R1 hcn k => ?_
  refine PyProof.Rows.args_nil ?_
  exact sset_list (I1.kept (t' := tk) k) R1 hd (by omega) q1
section
variable {X : Cx} {S : Sx} {W : WX} {Φ : Nat → List D → Mem → Rs D}
theorem de_sset {a : Expr} {t : T} {x y : Str} {p p2 q pos : Pos} (hx : x = "sorted") (hy : y = "set") (hg : Gl X x) (hm : X.mg x = none) (hv : bootBuiltins "sorted" = some (.builtin "sorted")) (hg2 : Gl X y) (hm2 : X.mg y = none) (ha : DE X S W a (ev Φ t)) (hc : X.calm = true) (hs : unStar a = true) :
    DE X S W (.Call (.Name x p) [.Call (.Name y p2) [a] [] q] [] pos) (ev Φ (.b .sset (.cons t .nil))) := by
  subst hx hy
  refine PE.imp (pe_sset hg hm hv hg2 hm2 ha hc (star_cons hs)) fun σ H Q ⟨w, δ, M, m, r, z⟩ => ?_
  unfold ev at z
  have z : Post X.K S W σ (Rep X.K S) w H Q ((ev Φ t δ M).bind fun d M1 => lift M1 (callB M1 .sset [d])) := by
    unfold evs at z
    rw [Rs.bind_assoc] at z
    unfold evs at z
    simp only [Rs.bind_ok] at z
    exact z
  refine ⟨w, δ, M, m, r, z.step.mono fun v H1 ⟨w1, M1, d, e1, m1, r1, p1⟩ => ?_⟩
  have p1 := ans_of p1
  cases d with
  | tup l =>
    obtain ⟨ns, h1, p1⟩ := Ans.bnd (o := dInts l) (f := fun ns => if l.length ≤ 60 then some (.lst ((setS ns).map D.int)) else none) p1
    obtain ⟨h2, p1⟩ := p1.cnd
    obtain ⟨b, xs, rfl, hq, rl⟩ := r1.tup_inv
    have e := repL_dInts h1 rl
    subst e
    have hl := rl.length
    rw [List.length_map] at hl
    exact ⟨b, ns, rfl, hq, by omega, fun q hq2 => Fol.lst p1.fol m1 (repL_ints _) hq2⟩
  | _ => exact p1.non.elim
end
end CB
end
section
set_option maxHeartbeats 1000000
/-! CB21c: a loop over the keys of a dict that stands in a variable. -/
namespace CB
open PySem PySem.Spec L2
open PyProof.Rows hiding St
section
variable {K : PySem.W.Frag} {S : Sx} {W : WX} {w w' : Wd} {H H' : Hp} {M : Mem} {a : Addr} {ks : List (List Key × V)}
theorem zvo_rz {u : HO} (hd : RdO (H a) ks) (hd' : RdO (some u) ks) : Zvo w H w (upd H a u) :=
  ⟨fun _ _ h => h, fun _ h => h, fun b z => by
    by_cases e : b = a
    · subst e; rw [upd_same]; exact .inr ⟨ks, hd, hd'⟩
    · rw [upd_ne e]; exact .inl rfl⟩
theorem rel_rz {u : HO} (m : RelM K S w H M) (z : w.Z a) (hd : RdO (H a) ks) (hd' : RdO (some u) ks) : RelM K S w (upd H a u) M := by
  refine m.zvo (zvo_rz hd hd') rfl (fun i o b h1 l h2 => ?_) (fun b q => ?_) m.zp fun b q xs => ?_
  · obtain ⟨s1, s2⟩ := m.sep i o b h1 l h2
    exact ⟨upd_ne fun e => s1 (e ▸ z), s1, s2⟩
  · by_cases e : b = a
    · subst e; rw [upd_same]; simp
    · rw [upd_ne e]; exact m.zed b q
  · have e : b ≠ a := fun e => m.zp a z (e ▸ q)
    rw [upd_ne e]; exact m.prl b q xs
theorem rd_dT {od : Obj} : RdO (some (.frz od (.dT ks))) ks := .inr ⟨od, rfl⟩
theorem rd_T : RdO (some (.dT ks)) ks := .inl rfl
theorem evo_rz {od : Obj} (z : w.Z a) (h : H a = some (.dT ks)) (e : Evo w (upd H a (.frz od (.dT ks))) w' H') : H' a = some (.frz od (.dT ks)) ∧ Evo w H w' (upd H' a (.dT ks)) := by
  have ha : H' a = some (.frz od (.dT ks)) := (e.H a (.inl z)).trans upd_same
  refine ⟨ha, e.ρ, e.Z, fun b q => ?_, e.pr⟩
  by_cases eb : b = a
  · subst eb; rw [upd_same, h]
  · rw [upd_ne eb, e.H b q, upd_ne eb]
theorem postS_rz {od : Obj} {E : Ends} {r : Rf} (z : w.Z a) (h : H a = some (.dT ks)) (q : PostS K S W w H E (noEx r)) :
    PostS K S W w (upd H a (.frz od (.dT ks))) ⟨fun σ' H' => H' a = some (.frz od (.dT ks)) ∧ E.nx σ' (upd H' a (.dT ks)), fun v H' => H' a = some (.frz od (.dT ks)) ∧ E.rt v (upd H' a (.dT ks)), fun σ' H' => H' a = some (.frz od (.dT ks)) ∧ E.bk σ' (upd H' a (.dT ks)), fun σ' H' => H' a = some (.frz od (.dT ks)) ∧ E.ct σ' (upd H' a (.dT ks))⟩ r := by
  cases r with
  | nx δ M =>
    intro w' H' σ' e m r
    obtain ⟨ha, e'⟩ := evo_rz z h e
    have hd : RdO (H' a) ks := .inr ⟨od, ha⟩
    exact ⟨ha, q w' _ σ' e' (rel_rz m (e.Z a z) hd rd_T) (r.monoZ (zvo_rz hd rd_T))⟩
  | ct δ M =>
    intro w' H' σ' e m r
    obtain ⟨ha, e'⟩ := evo_rz z h e
    have hd : RdO (H' a) ks := .inr ⟨od, ha⟩
    exact ⟨ha, q w' _ σ' e' (rel_rz m (e.Z a z) hd rd_T) (r.monoZ (zvo_rz hd rd_T))⟩
  | ret d M =>
    intro w' H' v e m r
    obtain ⟨ha, e'⟩ := evo_rz z h e
    have hd : RdO (H' a) ks := .inr ⟨od, ha⟩
    exact ⟨ha, q w' _ v e' (rel_rz m (e.Z a z) hd rd_T) (r.monoZ (zvo_rz hd rd_T))⟩
  | exc x δ M => exact q.elim
  | stuck => exact q
theorem repK_at : ∀ {vs : List (List Key × V)} {ds : List (List Int × D)} {i : Nat} {k : List Int} {d : D}, RepK K S w H vs ds → ds[i]? = some (k, d) → ∃ v, vs[i]? = some (keyV k, v)
  | _, _, _, _, _, .nil, h => by simp at h
  | _, _, 0, _, _, .cons h r, e => by simp at e; obtain ⟨rfl, rfl⟩ := e; exact ⟨_, rfl⟩
  | _, _, i + 1, _, _, .cons _ r, e => by
    obtain ⟨v, h1⟩ := repK_at (i := i) r (by simpa using e)
    exact ⟨v, by simpa using h1⟩
end
section
variable {X : Cx} {S : Sx} {W : WX} {Φ : Nat → List D → Mem → Rs D} {w : Wd} {H : Hp}
theorem wlk_keys {a : Addr} {o : Obj} {ks : List (List Key × V)} {l : List (List Int × D)} {p : Pt} (z : w.Z a) (h : H a = some (.frz o (.dT ks))) (r : RepK X.K S w H ks l) : Wlk X.K S p w H (Itkt a o ks) (l.map fun q => D.key q.1) where
  go := fun w1 H1 M1 e m i d hd => by
    have h1 : H1 a = some (.frz o (.dT ks)) := (e.H a z).trans h
    rw [List.getElem?_map] at hd
    cases hq : l[i]? with
    | none => rw [hq] at hd; cases hd
    | some kd =>
      obtain ⟨k, v⟩ := kd
      rw [hq] at hd
      cases hd
      obtain ⟨u, hu⟩ := repK_at r hq
      have hlt := (List.getElem?_eq_some_iff.mp hu).1
      refine ⟨⟨h1, hlt⟩, fun x H2 ⟨e2, k2, v2, q, hk, ex, hq2⟩ => ?_⟩
      rw [hu] at hk
      cases hk
      subst e2 ex
      rw [keyV_kV] at hq2
      have hne : ∀ b, w1.pr b → b ≠ q := fun b hb e => m.prl b hb _ (e ▸ hq2)
      refine ⟨w1.add q, ⟨fun _ _ h => h, fun _ h => .inl h, fun _ _ => rfl, rfl⟩, ?_, RepP.of (.key (.inr rfl) hq2)⟩
      refine m.evo ⟨fun _ _ h => h, fun _ h => .inl h, fun _ _ => rfl, rfl⟩ rfl (fun j o' b g1 lv g2 => ⟨rfl, fun zz => ?_⟩) (fun b zz => ?_) fun b zz hp => ?_
      · rcases zz with zz | zz
        · exact (m.sep j o' b g1 lv g2).1 zz
        · subst zz
          have ho := m.obj j o' b g1 g2
          cases ho with
          | lst hh _ => rw [hq2] at hh; cases hh
          | dct hh _ => rw [hq2] at hh; cases hh
          | dead => exact lv.elim
      · rcases zz with (zz | zz) | zz
        · exact m.zed b (.inl zz)
        · subst zz; rw [hq2]; simp
        · exact m.zed b (.inr zz)
      · rcases zz with zz | zz
        · exact m.zp b zz hp
        · exact hne b hp zz
  stop := fun w1 H1 M1 e m => ⟨(e.H a z).trans h, by rw [r.length, List.length_map]; exact Nat.le_refl _⟩
theorem ds_forK {tg : Expr} {x : Str} {i : Nat} {npos : Pos} {body : List Stmt} {p : Pt} {bs : Ss} {pos : Pos} (hp : PassesOwn (model X.prog X.w) X.A X.env X.xe) (hc : X.calm = true) (hN : X.N[i]? = some x) (hv : Vis X.env.scope x) (hd : (x == ("__debug__" : Str)) = false) (hcd : (x == ("__classdict__" : Str)) = false)
    (hg : PG X tg (RG X.K S p)) (hb : DSs X S W body (exs Φ bs)) (hs : ∀ y, foldedSetIterable (.Name x npos) X.env y = pure y) : DS X S W (.For tg (.Name x npos) body [] pos) (ex Φ (.forK p i bs)) := by
  have P := ps_for (pos := pos) hp hc (pi_keys (tg := tg) (pe_var (pos := npos) hN hv hd hcd)) hg hb hs
  refine PS.imp (PS.or (ps_lock P) P) fun E σ H ⟨w, δ, M, m, r, q⟩ => ?_
  unfold ex at q
  cases hq : getVar δ i with
  | none => rw [hq] at q; exact q.elim
  | some d =>
    rw [hq] at q
    cases d with
    | dct l =>
      have q : PostS X.K S W w H E (noEx (forGo (forF Φ p bs) (l.map fun q => D.key q.1) δ M)) := q
      obtain ⟨v, h1, h2⟩ := r.get i _ (getVar_some hq)
      cases h2 with
      | @dct a ks _ z h rk =>
        rcases h with h | ⟨o, h⟩
        · refine .inl ⟨a, .dT ks, h, True.intro, fun od => ?_⟩
          have hd : RdO (H a) ks := .inl h
          have hz : Zvo w H w (upd H a (.frz od (.dT ks))) := zvo_rz hd rd_dT
          have m1 := rel_rz m z hd (rd_dT (od := od))
          have k := for_post (f := fun _ M => .ok (l.map fun q => D.key q.1) M) m1 (r.monoZ hz) (postS_rz (od := od) z h q)
          exact ⟨.ref a, h1, a, od, rfl, .inr ⟨ks, upd_same, k.done m1 (wlk_keys z upd_same (rk.monoZ hz))⟩⟩
        · have q : PostS X.K S W w H E (forGo (forF Φ p bs) (l.map fun q => D.key q.1) δ M) := by
            revert q
            cases forGo (forF Φ p bs) (l.map fun q => D.key q.1) δ M <;> intro q <;> first | exact q | exact q.elim
          have k := for_post (f := fun _ M => .ok (l.map fun q => D.key q.1) M) m r q
          exact .inr ⟨.ref a, h1, a, o, rfl, .inr ⟨ks, h, k.done m (wlk_keys z h rk)⟩⟩
    | _ => exact q.elim
end
end CB
end
section
set_option maxHeartbeats 1000000
/-! CB21d: dict(pairs), the keys tuples of whole numbers. -/
namespace CB
open PySem PySem.Spec L2
open PyProof.Rows hiding St
/-- pairs, each a tuple of a key's tuple and a value -/
abbrev PairsT (K : PySem.W.Frag) (H : Hp) : List Addr → List (List Key × V) → Prop := Paired fun p kv => ∃ b, SqT K H p [.ref b, kv.2] ∧ H b = some (.tup (kv.1.map kV))
def mergeT (acc kvs : List (List Key × V)) : List (List Key × V) := kvs.foldl (fun acc kv => putK acc kv.1 kv.2) acc
theorem mergeT_len : ∀ (kvs acc : List (List Key × V)), (mergeT acc kvs).length ≤ acc.length + kvs.length
  | [], acc => Nat.le_refl _
  | kv :: kvs, acc => by
    have h1 := mergeT_len kvs (putK acc kv.1 kv.2)
    have h2 := length_putK acc kv.1 kv.2
    show (mergeT (putK acc kv.1 kv.2) kvs).length ≤ acc.length + (kvs.length + 1)
    omega
section
variable {X : Cx}
theorem pairsT_of {pins : List (Addr × Obj)} {σ : L2.St} {H : Hp} {s : Shared} (I : Inv X pins σ H s) : ∀ {ps : List Addr} {kvs : List (List Key × V)}, PairsT X.K H ps kvs →
    ∃ xs : List (List Key × Addr × Value), KT H kvs xs ∧ xs.length = ps.length ∧ ∀ (j : Nat) (q : List Key × Addr × Value), xs[j]? = some q → ∃ p, ps[j]? = some p ∧ IsTup s.heap p #[.ref q.2.1, q.2.2]
  | _, _, .nil => ⟨[], .nil, rfl, fun j q e => by simp at e⟩
  | _, _, .cons (a := p) (b := kv) ⟨b, h, hb⟩ t => by
    obtain ⟨xs, r, hl, hp⟩ := pairsT_of I t
    obtain ⟨its, rv, ht, _⟩ := I.tuple h
    obtain ⟨u, y, ei, ru, ry⟩ := vals2 rv
    cases ru
    subst ei
    refine ⟨(kv.1, b, y) :: xs, .cons ⟨rfl, hb, ry⟩ r, by rw [List.length_cons, List.length_cons, hl], fun j q e => ?_⟩
    cases j with
    | zero =>
      cases e
      exact ⟨p, rfl, ht⟩
    | succ j =>
      obtain ⟨p', e1, e2⟩ := hp j q (by simpa using e)
      exact ⟨p', by simpa using e1, e2⟩
theorem kt_merge {H : Hp} : ∀ {kvs : List (List Key × V)} {xs : List (List Key × Addr × Value)} {acc : List (List Key × V)} {ac : List (List Key × Addr × Value)}, KT H kvs xs → KT H acc ac → KT H (mergeT acc kvs) (storedAllH ac xs)
  | _, _, _, _, .nil, r => r
  | _, _, _, _, .cons (a := p) (b := q) h t, r => by
    obtain ⟨h1, h2, h3⟩ := h
    have e := kt_merge t (r.put p.1 h2 h3)
    unfold mergeT storedAllH at e ⊢
    rw [List.foldl_cons, List.foldl_cons, ← h1]
    exact e
theorem call_dictT (hcalm : X.calm = true) (hu : X.A.units + 2 < cLine) : CallR X (.type "dict") (fun xs H Q => ∃ (a : Addr) (ps : List Addr) (kvs : List (List Key × V)), xs = [.ref a] ∧ SqL X.K H a (ps.map V.ref) ∧ PairsT X.K H ps kvs ∧
    ∀ p, H p = none → Q (.ref p) (upd H p (.dT (mergeT [] kvs)))) := by
  intro pins s σ H xs us Q I r q
  obtain ⟨a, ps, kvs, ex, hq, hp, q⟩ := q
  subst ex
  obtain ⟨u, eu, rx⟩ := vals1 r
  subst eu
  cases rx
  obtain ⟨its, rv, pl, hz⟩ := I.list hq
  have ei := refs_at rv
  subst ei
  rw [List.length_map] at hz
  obtain ⟨xs, rel, hl, hpr⟩ := pairsT_of I hp
  obtain ⟨o, n, ho, hc, hd, hdat⟩ := pl
  have hPS : PlainSeq "list" s.heap a (ps.map Value.ref).toArray := ⟨o, n, ho, hc, hd, hdat⟩
  have hPI : PairItems s.heap (ps.map Value.ref).toArray (fun j => (ps[j]?).getD 0) (xs.map fun q => (Value.ref q.2.1, q.2.2)) := by
    refine ⟨by simp [hl], fun j k v e => ?_⟩
    rw [List.getElem?_map] at e
    cases hx : xs[j]? with
    | none => rw [hx] at e; cases e
    | some x =>
      rw [hx] at e
      obtain ⟨e1, e2⟩ := Prod.mk.inj (Option.some.inj e)
      subst e1 e2
      obtain ⟨p, h1, h2⟩ := hpr j x hx
      refine ⟨?_, ?_⟩
      · show (ps.map Value.ref).toArray[j]? = some (.ref ((ps[j]?).getD 0))
        rw [List.getElem?_toArray, List.getElem?_map, h1]; rfl
      · show PairAt s.heap ((ps[j]?).getD 0) _ _
        rw [h1]; exact .inl h2
  have P := PairArg.list (prog := X.prog) (w := X.w) a (ps.map Value.ref).toArray (fun j => (ps[j]?).getD 0) (xs.map fun q => (Value.ref q.2.1, q.2.2))
  have keys : ∀ x ∈ xs, (tupleKind (mixKind X.prog X.w)).is s.heap x.1 x.2.1 := by
    have all : ∀ {l : List (List Key × V)} {m : List (List Key × Addr × Value)}, KT H l m → ∀ x ∈ m, (tupleKind (mixKind X.prog X.w)).is s.heap x.1 x.2.1 := by
      intro l m q
      induction q with
      | nil => intro x hx; exact nomatch hx
      | @cons p q ps qs hq t ih =>
        intro x hx
        rcases List.mem_cons.mp hx with e | hx
        · subst e
          exact key_of I.hok (by rw [← hq.1]; exact hq.2.1)
        · exact ih x hx
    exact all rel
  refine call_dict_pairsH (knd := tupleKind (mixKind X.prog X.w)) (ps := xs) P (I.ok.hd hcalm) (show X.A.units + 2 < cLine from hu) ⟨hPS, hPI⟩ ⟨by simp, fun i key v e => ?_⟩ (fun h' hk x hx => ?_) (by rw [List.length_map, hl]; exact hz) fun h' tk hd' k => ?_
  · have e : (xs.map fun q => (Value.ref q.2.1, q.2.2))[i]? = some (key, v) := e
    rw [List.getElem?_map] at e
    cases hx : xs[i]? with
    | none => rw [hx] at e; cases e
    | some x =>
      rw [hx] at e
      obtain ⟨e1, e2⟩ := Prod.mk.inj (Option.some.inj e)
      subst e1 e2
      exact ⟨x.1, x.2.1, rfl, rfl⟩
  · obtain ⟨o', its', n', h1, h2, h3, h4⟩ := keys x hx
    exact ⟨o', its', n', hk _ _ (Nat.ne_of_lt (Heap.lt_size h1)) (fun h => nomatch h) h1, h2, h3, h4⟩
  · have hm : (s.heap.objs.size == sysModules) = false := beq_eq_false_iff_ne.mpr (Nat.ne_of_gt I.big)
    have hlen : (mergeT [] kvs).length ≤ sizeLine := by
      refine Nat.le_trans (mergeT_len kvs []) ?_
      rw [List.length_nil, Nat.zero_add, Paired.length rel, hl]
      exact hz
    obtain ⟨q', es, ep, hq', h2, h3, h4, _, h5⟩ := hd'
    have hfr := I.hok.fresh (Nat.le_refl s.heap.objs.size)
    have new : ObjOk X.prog X.w (upd H s.heap.objs.size (.dT (mergeT [] kvs))) h' s.heap.objs.size (.dT (mergeT [] kvs)) := by
      refine ⟨hlen, hm, storedAllH [] xs, ?_, q', es, ep, hq', h2, h3, h4, h5⟩
      refine (kt_merge rel .nil).keeps fun b ys e => ?_
      rw [upd_ne (fun z => by rw [z, hfr] at e; cases e)]
      exact e
    exact ⟨.ref s.heap.objs.size, upd H s.heap.objs.size (.dT (mergeT [] kvs)), I.laid (t' := tk) (fun b o e => k b o (fun h => nomatch h) e) (Nat.le_refl _) new, rfl, q _ hfr⟩
end
/-! ### the reading -/
section
variable {K : PySem.W.Frag} {S : Sx} {w : Wd} {H : Hp}
theorem mergeT_rep : ∀ {ks : List (List Key × V)} {kvs : List (List Int × D)} {acc : List (List Key × V)} {ac : List (List Int × D)}, RepK K S w H ks kvs → RepK K S w H acc ac → RepK K S w H (mergeT acc ks) (kvs.foldl (fun acc p => kPut p.1 p.2 acc) ac)
  | _, _, _, _, .nil, r => r
  | _, _, _, _, .cons (k := k) (v := v) (d := d) (vs := vs) (ds := ds) h t, r => by
    show RepK K S w H (mergeT (putK _ (keyV k) v) vs) (ds.foldl (fun acc p => kPut p.1 p.2 acc) (kPut k d _))
    exact mergeT_rep t (kPut_rep h r)
theorem keysOf_rep : ∀ {l : List D} {kvs : List (List Int × D)} {xs : List V}, keysOf l = some kvs → RepL K S w H xs l → ∃ (ps : List Addr) (ks : List (List Key × V)), xs = ps.map V.ref ∧ PairsT K H ps ks ∧ RepK K S w H ks kvs
  | [], kvs, xs, h, r => by
    cases r
    cases h
    exact ⟨[], [], rfl, .nil, .nil⟩
  | d :: l, kvs, xs, h, r => by
    unfold keysOf at h
    split at h
    · cases h
      rename_i he
      cases he
    · rename_i k v r' he
      obtain ⟨e1, e2⟩ := List.cons.inj he
      subst e1 e2
      cases hk : keysOf l with
      | none => rw [hk] at h; cases h
      | some kv =>
        rw [hk] at h
        cases h
        cases r with
        | cons h1 r =>
          obtain ⟨ps, ks, rfl, hp, hr⟩ := keysOf_rep hk r
          obtain ⟨p, ys, rfl, hq, rl⟩ := h1.tup_inv
          cases rl with
          | cons a rl =>
            cases rl with
            | cons b rl =>
              cases rl
              obtain ⟨q, rfl, hb⟩ := a.key_inv
              exact ⟨p :: ps, _ :: ks, rfl, .cons ⟨q, hq, hb⟩ hp, .cons b hr⟩
    · cases h
end
section
variable {X : Cx} {S : Sx} {W : WX} {Φ : Nat → List D → Mem → Rs D}
theorem fresh_dict {ts : Ts} : ∀ δ M d M', ev Φ (.b .dict ts) δ M = .ok d M' → isFresh d := fun δ M d M' h => by
  unfold ev at h
  obtain ⟨ds, M1, h1, h2⟩ := bind_okE h
  have key : ∀ o : Option D, lift M1 o = .ok d M' → o = some d := fun o q => by
    cases o with
    | none => cases q
    | some x => cases q; rfl
  have h2 := key _ h2
  match ds, h2 with
  | [], h2 => cases (show none = some d from h2)
  | [x], h2 =>
    cases x with
    | lst l =>
      have h2 : (if l.length ≤ 1000 then (keysOf l).map fun kvs => D.dct (kvs.foldl (fun acc p => kPut p.1 p.2 acc) []) else none) = some d := h2
      split at h2
      · cases hk : keysOf l with
        | none => rw [hk] at h2; cases h2
        | some kvs => rw [hk] at h2; cases h2; trivial
      · cases h2
    | _ => cases (show none = some d from h2)
  | x :: y :: r, h2 =>
    unfold callB at h2
    split at h2 <;> simp_all
theorem fe_dict {a : Expr} {t : T} {x : Str} {p pos : Pos} (hx : x = "dict") (hg : Gl X x) (hm : X.mg x = none) (hv : bootBuiltins "dict" = some (.type "dict")) (ha : DE X S W a (ev Φ t)) (hc : X.calm = true) (hu : X.A.units + 2 < cLine) (hs : unStar a = true) :
    FE X S W (.Call (.Name x p) [a] [] pos) (ev Φ (.b .dict (.cons t .nil))) := by
  subst hx
  refine PE.imp (pe_callTy (call_dictT hc hu) hg hm hv (pa_cons ha pa_nil (star_cons hs)) (by decide) (by decide) (star_cons hs) rfl) fun σ H Q ⟨w, δ, M, m, r, z⟩ => ?_
  unfold ev at z
  have z : PostF X.K S W σ w H Q ((ev Φ t δ M).bind fun d M1 => lift M1 (callB M1 .dict [d])) := by
    unfold evs at z
    rw [Rs.bind_assoc] at z
    unfold evs at z
    simp only [Rs.bind_ok] at z
    exact z
  refine ⟨w, δ, M, m, r, z.step.mono fun v H1 ⟨w1, M1, d, e1, m1, r1, p1⟩ => ?_⟩
  cases d with
  | lst l =>
    have p1 : PostF X.K S W σ w1 H1 Q (lift M1 (if l.length ≤ 1000 then (keysOf l).map fun kvs => .dct (kvs.foldl (fun acc p => kPut p.1 p.2 acc) []) else none)) := p1
    split at p1
    · cases hk : keysOf l with
      | none => rw [hk] at p1; exact p1.elim
      | some kvs =>
        rw [hk] at p1
        obtain ⟨b, xs, rfl, hq, rl⟩ := r1.lst_inv
        obtain ⟨ps, ks, rfl, hp, hr⟩ := keysOf_rep hk rl
        exact ⟨b, ps, ks, rfl, .of hq, hp, fun q hq2 => p1 w1 H1 q _ (Evo.refl _ _) m1 (mergeT_rep hr .nil) hq2⟩
    · exact p1.elim
  | _ => exact p1.elim
end
end CB
end
section
set_option maxHeartbeats 1000000
/-! CB22: does a term of the small language stand for an expression of the text. -/
namespace CB
open PySem PySem.Spec L2
open PyProof.Rows hiding St
structure Gx where
  fns : List (Str × Nat)
  cst : List (Str × D)
  exs : List (Str × Nat)
  hds : List (Str × Nat)
def bltNames : List Str := ["len", "all", "any", "sum", "min", "max", "tuple", "list", "sorted", "abs", "int", "str", "isinstance", "bool", "range", "enumerate", "zip", "dict", "set"]
def visB (sc : Scope) (x : Str) : Bool := match sc.names.lookup x with | some .local => true | some .cell => true | some .free => true | _ => false
def locB (sc : Scope) (x : Str) : Bool := match sc.names.lookup x with | some .local => true | some .cell => true | _ => false
def glB (sc : Scope) (x : Str) : Bool := match sc.names.lookup x with | some .globalImplicit => true | _ => false
def dbgB (x : Str) : Bool := (x == ("__debug__" : Str)) == false && (x == ("__classdict__" : Str)) == false && decide (x ≠ "__name__")
def unCall : Expr → Bool
  | .Call _ _ _ _ => false
  | _ => true
def unIf : Expr → Bool
  | .IfExp _ _ _ _ => false
  | _ => true
def unSet : Expr → Bool
  | .Set _ _ _ => false
  | _ => true
def unTup : Expr → Bool
  | .Tuple _ _ _ => false
  | .List _ _ => false
  | _ => true
def unComp : Expr → Bool
  | .ListComp _ _ _ _ => false
  | .SetComp _ _ _ _ => false
  | .DictComp _ _ _ _ _ => false
  | _ => true
def opOk : O2 → Operator → Bool
  | .add, .Add => true
  | .sub, .Sub => true
  | .mul, .Mult => true
  | .fdiv, .FloorDiv => true
  | .mod, .Mod => true
  | .pow, .Pow => true
  | _, _ => false
def cmpOk : OC → CmpOp → Bool
  | .eq, .Eq => true
  | .ne, .NotEq => true
  | .lt, .Lt => true
  | .le, .LtE => true
  | .gt, .Gt => true
  | .ge, .GtE => true
  | .is_, .Is => true
  | .isnot, .IsNot => true
  | .in_, .In => true
  | .notin, .NotIn => true
  | _, _ => false
/-- name, is it a type, id -/
def obT : OB → Option (Str × Bool × String)
  | .len => some ("len", false, "len")
  | .all => some ("all", false, "all")
  | .any => some ("any", false, "any")
  | .sum => some ("sum", false, "sum")
  | .min => some ("min", false, "min")
  | .min2 => some ("min", false, "min")
  | .max2 => some ("max", false, "max")
  | .abs => some ("abs", false, "abs")
  | .sorted => some ("sorted", false, "sorted")
  | .tuple => some ("tuple", true, "tuple")
  | .list => some ("list", true, "list")
  | .int => some ("int", true, "int")
  | .str => some ("str", true, "str")
  | _ => none
def conOk (d : D) (e : Expr) : Bool := match e, d with
  | .Constant (.int i) _ _, .int j => decide (i = j)
  | .Constant (.bool i) _ _, .bl j => decide (i = j)
  | .Constant (.str i) _ _, .str j => decide (i = j)
  | .Constant .none _ _, .non => true
  | _, _ => false
def conG (G : Gx) (sc : Scope) (d : D) (e : Expr) : Bool := match e with
  | .Name x _ => glB sc x && dbgB x && (match G.cst.lookup x with | some d' => sameD d d' | none => false)
  | _ => false
def varOk (N : List Str) (sc : Scope) (i : Nat) (e : Expr) : Bool := match e with
  | .Name x _ => decide (N[i]? = some x) && visB sc x && dbgB x
  | _ => false
def one? : Expr → Option Expr
  | .BoolOp _ [x] _ => if unIf x = true then some x else none
  | _ => none
def bltB (sc : Scope) (x y : Str) : Bool := decide (x = y) && glB sc x && dbgB x
def ownN (N : List Str) (own : List Nat) : List (Str × Nat) := own.map fun i => ((N[i]?).getD "", i)
mutual
def chkP (N : List Str) (sc : Scope) (fb : Str → Bool) : Pt → Expr → Bool
  | .nm i, e => match e with
    | .Name x _ => decide (N[i]? = some x) && (match sc.names.lookup x with | some .local => true | some .cell => fb x | _ => false)
    | _ => false
  | .tup ps, e => match e with
    | .Tuple es _ _ => chkPs N sc fb ps es && es.all unStar && decide (es.length = ps.len)
    | _ => false
def chkPs (N : List Str) (sc : Scope) (fb : Str → Bool) : Pts → List Expr → Bool
  | .nil, es => match es with | [] => true | _ => false
  | .cons p ps, es => match es with | e :: es => chkP N sc fb p e && chkPs N sc fb ps es && unStar e | _ => false
end
section
variable (G : Gx) (N : List Str)
mutual
def chkE (sc : Scope) : Nat → T → Expr → Bool
  | 0, _, _ => false
  | n + 1, t, e => match one? e with
    | some x => chkE sc n t x
    | none => match t with
      | .var i => varOk N sc i e
      | .frz i => varOk N sc i e
      | .con d => conOk d e || conG G sc d e
      | .mk f => chkF sc n f e
      | .tup ts => (match e with | .Tuple es _ _ => chkEs sc n ts es | _ => false)
      | .key ts => (match e with | .Tuple es _ _ => chkEs sc n ts es | _ => false)
      | .lst ts => (match e with | .List es _ => chkEs sc n ts es | _ => false)
      | .op2 o a b => (match e with
        | .BinOp l op r _ => opOk o op && chkE sc n a l && chkE sc n b r
        | .Subscript l r _ => decide (o = .ix) && unSlice r && chkE sc n a l && chkE sc n b r
        | _ => false)
      | .cmp o a b => (match e with
        | .Compare l [op] [r] _ => cmpOk o op && !(behindInMarks op r) && chkE sc n a l && chkE sc n b r
        | _ => false)
      | .chn o o' a b c => (match e with
        | .Compare l [op, op'] [r, s] _ => cmpOk o op && cmpOk o' op' && !(behindInMarks op' s) && chkE sc n a l && chkE sc n b r && chkE sc n c s
        | _ => false)
      | .not a => (match e with | .UnaryOp .Not x _ => chkE sc n a x && unIf x | _ => false)
      | .neg a => (match e with | .UnaryOp .USub x _ => chkE sc n a x | _ => false)
      | .and a b => (match e with | .BoolOp .And (x :: y :: rest) pos => chkE sc n a x && unIf x && chkE sc n b (.BoolOp .And (y :: rest) pos) && (y :: rest).all unIf | _ => false)
      | .or a b => (match e with | .BoolOp .Or (x :: y :: rest) pos => chkE sc n a x && unIf x && chkE sc n b (.BoolOp .Or (y :: rest) pos) && (y :: rest).all unIf | _ => false)
      | .ite c a b => (match e with | .IfExp x y z _ => chkE sc n c x && unIf x && chkE sc n a y && chkE sc n b z | _ => false)
      | .slc a lo hi => (match e with | .Subscript x (.Slice l h none _) _ => chkE sc n a x && chkO sc n lo l && chkO sc n hi h | _ => false)
      | .call f ts => (match e with | .Call (.Name x _) (e :: es) [] _ => decide (G.fns.lookup x = some f) && glB sc x && dbgB x && (e :: es).all unStar && chkEs sc n ts (e :: es) | _ => false)
      | .call0 f => (match e with | .Call (.Name x _) [] [] _ => decide (G.fns.lookup x = some f) && glB sc x && dbgB x | _ => false)
      | .b .sset (.cons t .nil) => (match e with | .Call (.Name x _) [.Call (.Name y _) [a] [] _] [] _ => bltB sc x "sorted" && bltB sc y "set" && unStar a && chkE sc n t a | _ => false)
      | .b o ts => (match e with | .Call (.Name x _) (e :: es) [] _ => (match obT o with | some (y, _, _) => bltB sc x y | none => false) && (e :: es).all unStar && chkEs sc n ts (e :: es) | _ => false)
      | .m o a ts => (match e with | .Call (.Attribute ob x apos) (e :: es) [] cpos => decide (x = omName o) && unCall ob && (apos.endLine == cpos.line) && decide ((e :: es).length < 30) && (e :: es).all unStar && chkE sc n a ob && chkEs sc n ts (e :: es) | _ => false)
      | .isi a ty => (match e with | .Call (.Name x _) [b, .Name y _] [] _ => bltB sc x "isinstance" && bltB sc y (tyName ty) && unStar b && chkE sc n a b | _ => false)
      | .lc p it c f own => (match e with | .ListComp elt [⟨tg, iter, ifs, 0⟩] scope _ => chkL sc n p it c f own elt tg iter ifs scope | _ => false)
      | _ => false
def chkF (sc : Scope) : Nat → T → Expr → Bool
  | 0, _, _ => false
  | n + 1, t, e => match t with
    | .con d => (match e with | .Dict [] [] _ => (match d with | .dct [] => true | _ => false) | _ => false)
    | .lst ts => (match e with | .List es _ => chkEs sc n ts es | _ => false)
    | .op2 .add a b => (match e with | .BinOp l .Add r _ => chkE sc n a l && chkE sc n b r | _ => false)
    | .lc p it c f own => (match e with | .ListComp elt [⟨tg, iter, ifs, 0⟩] scope _ => chkL sc n p it c f own elt tg iter ifs scope | _ => false)
    | .b .dict (.cons t .nil) => (match e with | .Call (.Name x _) [a] [] _ => bltB sc x "dict" && unStar a && chkE sc n t a | _ => false)
    | _ => false
def chkL (sc : Scope) : Nat → Pt → I → T → T → List Nat → Expr → Expr → Expr → List Expr → Scope → Bool
  | 0, _, _, _, _, _, _, _, _, _, _ => false
  | n + 1, p, it, c, f, own, elt, tg, iter, ifs, scope => chkI sc n p it tg iter && chkP N (relS scope sc) (fun x => scope.names.lookup x == some .cell) p tg &&
      (match ifs with
        | [] => (match c with | .con (.bl true) => true | _ => false)
        | [y] => chkE (relS scope sc) n c y && unIf y
        | _ => false) && chkE (relS scope sc) n f elt && p.ns.all (fun i => own.contains i) && blkC N sc scope (ownN N own) && unSet iter
def chkEs (sc : Scope) : Nat → Ts → List Expr → Bool
  | 0, _, _ => false
  | n + 1, ts, es => match ts with
    | .nil => es.isEmpty
    | .cons t ts => (match es with | e :: es => unStar e && chkE sc n t e && chkEs sc n ts es | _ => false)
def chkO (sc : Scope) : Nat → To → Option Expr → Bool
  | 0, _, _ => false
  | n + 1, t, e => match t with
    | .no => e.isNone
    | .yes t => (match e with | some e => chkE sc n t e | none => false)
def chkI (sc : Scope) : Nat → Pt → I → Expr → Expr → Bool
  | 0, _, _, _, _ => false
  | n + 1, p, it, tg, e => match it with
    | .seq t => chkE sc n t e
    | .keys _ => false
    | .rng t => (match e with | .Call (.Name x _) [a] [] _ => bltB sc x "range" && unStar a && chkE sc n t a | _ => false)
    | .rng2 t u => (match e with | .Call (.Name x _) [a, b] [] _ => bltB sc x "range" && unStar a && unStar b && chkE sc n t a && chkE sc n u b | _ => false)
    | .enum t => (match e with | .Call (.Name x _) [a] [] _ => bltB sc x "enumerate" && unStar a && chkE sc n t a && (match p, tg with | .tup _, .Tuple _ _ _ => true | _, _ => false) | _ => false)
    | .zip t u => (match e with | .Call (.Name x _) [a, b] [] _ => bltB sc x "zip" && unStar a && unStar b && chkE sc n t a && chkE sc n u b && (match p, tg with | .tup _, .Tuple _ _ _ => true | _, _ => false) | _ => false)
end
end
/-! ### what a context is -/
structure XOk (G : Gx) (N : List Str) (sc : Scope) (Φ : Nat → List D → Mem → Rs D) (k : Nat) (X : Cx) (S : Sx) (W : WX) : Prop where
  n : X.N = N
  nd : N.Nodup
  sc : X.env.scope = sc
  calm : X.calm = true
  room : Room k X.A
  tk : Takes X W
  fns : ∀ x f, G.fns.lookup x = some f → Callee X S k (Φ f) x
  cst : ∀ x d, G.cst.lookup x = some d → ∃ v u, X.mg x = some u ∧ RelV v u ∧ ∀ w H, Rep X.K S w H v d
  blt : ∀ x, x ∈ bltNames → X.mg x = none
section
variable {G : Gx} {N : List Str} {sc : Scope} {Φ : Nat → List D → Mem → Rs D} {k : Nat} {X : Cx} {S : Sx} {W : WX}
theorem visB_ok {x : Str} (h : visB sc x = true) (e : X.env.scope = sc) : Vis X.env.scope x := by
  unfold visB at h
  rw [e]
  unfold Vis
  split at h <;> first | (rename_i q; rw [q]; first | exact .inl rfl | exact .inr (.inl rfl) | exact .inr (.inr rfl)) | cases h
theorem glB_ok {x : Str} (h : glB sc x = true) (e : X.env.scope = sc) : Gl X x := by
  unfold glB at h
  show X.env.scope.names.lookup x = _
  rw [e]
  split at h <;> first | assumption | cases h
theorem dbgB_ok {x : Str} (h : dbgB x = true) : (x == ("__debug__" : Str)) = false ∧ (x == ("__classdict__" : Str)) = false ∧ x ≠ "__name__" := by
  unfold dbgB at h
  simp only [Bool.and_eq_true, decide_eq_true_eq, beq_iff_eq] at h
  obtain ⟨⟨h1, h2⟩, h3⟩ := h
  exact ⟨h1, h2, h3⟩
theorem bltB_ok {x y : Str} (h : bltB sc x y = true) (e : X.env.scope = sc) : x = y ∧ Gl X x ∧ (x == ("__debug__" : Str)) = false ∧ x ≠ "__name__" := by
  unfold bltB at h
  simp only [Bool.and_eq_true, decide_eq_true_eq] at h
  obtain ⟨⟨h1, h2⟩, h3⟩ := h
  obtain ⟨d1, d2, d3⟩ := dbgB_ok h3
  exact ⟨h1, glB_ok h2 e, d1, d3⟩
theorem plainIx_ok {b : Expr} (h : unSlice b = true) : PlainIx b := by
  intro o i
  cases b <;> first | rfl | cases h
theorem base_ok {o : Expr} {x : Str} {env : PySem.Env} (h : unCall o = true) : attributeBase o x env (eval o env) = eval o env := by
  cases o <;> first | rfl | cases h
theorem set_ok {e : Expr} {env : PySem.Env} (h : unSet e = true) : ∀ x, foldedSetIterable e env x = pure x := by
  intro x
  cases e <;> first | rfl | cases h
/-- a test that is none of not, and, or, comparison, if -/
def plainT : Expr → Bool
  | .UnaryOp .Not _ _ => false
  | .BoolOp _ _ _ => false
  | .IfExp _ _ _ _ => false
  | .Compare _ _ _ _ => false
  | _ => true
theorem isTrue_ok {e : Expr} {env : PySem.Env} (h : plainT e = true) : ∀ whole, isTrue e env whole = (do let v ← whole; standAt e.pos; holding [v] (truthy v)) := by
  intro whole
  cases e with
  | UnaryOp op x pos => cases op <;> first | rfl | cases h
  | BoolOp op x pos => cases h
  | IfExp a b c pos => cases h
  | Compare a b c pos => cases h
  | _ => rfl
theorem boot_all : bootBuiltins "len" = some (.builtin "len") ∧ bootBuiltins "all" = some (.builtin "all") ∧ bootBuiltins "any" = some (.builtin "any") ∧ bootBuiltins "sum" = some (.builtin "sum") ∧ bootBuiltins "min" = some (.builtin "min") ∧
    bootBuiltins "max" = some (.builtin "max") ∧ bootBuiltins "abs" = some (.builtin "abs") ∧ bootBuiltins "sorted" = some (.builtin "sorted") ∧ bootBuiltins "tuple" = some (.type "tuple") ∧ bootBuiltins "list" = some (.type "list") ∧
    bootBuiltins "int" = some (.type "int") ∧ bootBuiltins "str" = some (.type "str") ∧ bootBuiltins "bool" = some (.type "bool") ∧ bootBuiltins "isinstance" = some (.builtin "isinstance") ∧ bootBuiltins "dict" = some (.type "dict") ∧ bootBuiltins "set" = some (.type "set") := by
  decide +kernel
end
end CB
end
section
set_option maxHeartbeats 4000000
/-! CB23: it does. -/
namespace CB
open PySem PySem.Spec L2
open PyProof.Rows hiding St
section
variable {G : Gx} {N : List Str} {sc : Scope} {Φ : Nat → List D → Mem → Rs D} {k : Nat} {X : Cx} {S : Sx} {W : WX}
theorem XOk.u90 (o : XOk G N sc Φ k X S W) : X.A.units + 90 < cLine := by have := o.room.un; omega
theorem XOk.u1 (o : XOk G N sc Φ k X S W) : X.A.units + 1 < cLine := by have := o.room.un; omega
theorem op_ok (o : XOk G N sc Φ k X S W) {a : O2} {op : Operator} (h : opOk a op = true) : OpR X (binaryOp op) (RO X.K S fun M => op2 M a) := by
  unfold opOk at h
  split at h
  · exact op_addD
  · exact op_subD
  · exact op_mulD
  · exact op_fdivD
  · exact op_modD
  · exact op_powD
  · cases h
theorem cmp_ok (o : XOk G N sc Φ k X S W) {a : OC} {op : CmpOp} (h : cmpOk a op = true) : OpR X (compareOp op) (RC X.K S fun M => cmp2 M a) := by
  have u := o.u90
  unfold cmpOk at h
  split at h
  · exact op_eqC (by omega)
  · exact op_neC (by omega)
  · exact op_ltC
  · exact op_leC (by omega)
  · exact op_gtC
  · exact op_geC
  · exact op_isC
  · exact op_isnotC
  · exact op_inC (by omega)
  · exact op_notinC (by omega)
  · cases h
theorem blt_ok (o : XOk G N sc Φ k X S W) {b : OB} {y id : Str × Bool × String} (h : obT b = some y) :
    y.1 ∈ bltNames ∧ ((y.2.1 = true ∧ CallR X (.type y.2.2) (RB X.K S fun M => callB M b) ∧ bootBuiltins y.1 = some (.type y.2.2)) ∨ (y.2.1 = false ∧ CallR X (.builtin y.2.2) (RB X.K S fun M => callB M b) ∧ bootBuiltins y.1 = some (.builtin y.2.2))) := by
  have u := o.u90
  have bt := boot_all
  cases b <;> cases h
  · exact ⟨by decide, .inr ⟨rfl, call_lenB, bt.1⟩⟩
  · exact ⟨by decide, .inr ⟨rfl, call_allB o.calm, bt.2.1⟩⟩
  · exact ⟨by decide, .inr ⟨rfl, call_anyB o.calm, bt.2.2.1⟩⟩
  · exact ⟨by decide, .inl ⟨rfl, call_tupleB, bt.2.2.2.2.2.2.2.2.1⟩⟩
  · exact ⟨by decide, .inl ⟨rfl, call_listB, bt.2.2.2.2.2.2.2.2.2.1⟩⟩
  · exact ⟨by decide, .inr ⟨rfl, call_sortedB u, bt.2.2.2.2.2.2.2.1⟩⟩
  · exact ⟨by decide, .inr ⟨rfl, call_minB o.calm, bt.2.2.2.2.1⟩⟩
  · exact ⟨by decide, .inr ⟨rfl, call_sumB o.calm, bt.2.2.2.1⟩⟩
  · exact ⟨by decide, .inr ⟨rfl, call_min2B o.calm, bt.2.2.2.2.1⟩⟩
  · exact ⟨by decide, .inr ⟨rfl, call_max2B o.calm, bt.2.2.2.2.2.1⟩⟩
  · exact ⟨by decide, .inr ⟨rfl, call_absB, bt.2.2.2.2.2.2.1⟩⟩
  · exact ⟨by decide, .inl ⟨rfl, call_intB, bt.2.2.2.2.2.2.2.2.2.2.1⟩⟩
  · exact ⟨by decide, .inl ⟨rfl, call_strB, bt.2.2.2.2.2.2.2.2.2.2.2.1⟩⟩
theorem conOk_ok {d : D} {e : Expr} (h : conOk d e = true) : DE X S W e (ev Φ (.con d)) := by
  unfold conOk at h
  split at h
  · have := of_decide_eq_true h; subst this; exact de_int
  · have := of_decide_eq_true h; subst this; exact de_bl
  · have := of_decide_eq_true h; subst this; exact de_str
  · exact de_non
  · cases h
theorem conG_ok (o : XOk G N sc Φ k X S W) {d : D} {e : Expr} (h : conG G sc d e = true) : DE X S W e (ev Φ (.con d)) := by
  unfold conG at h
  split at h
  · rename_i x pos
    simp only [Bool.and_eq_true] at h
    obtain ⟨⟨h1, h2⟩, h3⟩ := h
    split at h3
    · rename_i d' q
      have := sameD_eq h3
      subst this
      obtain ⟨v, u, hm, rv, hr⟩ := o.cst x d q
      exact de_glob (glB_ok h1 o.sc) hm rv (dbgB_ok h2).1 hr
    · cases h3
  · cases h
theorem varOk_ok (o : XOk G N sc Φ k X S W) {i : Nat} {e : Expr} (h : varOk N sc i e = true) : ∃ x pos, e = .Name x pos ∧ X.N[i]? = some x ∧ Vis X.env.scope x ∧ (x == ("__debug__" : Str)) = false ∧ (x == ("__classdict__" : Str)) = false := by
  unfold varOk at h
  split at h
  · rename_i x pos
    simp only [Bool.and_eq_true, decide_eq_true_eq] at h
    obtain ⟨⟨h1, h2⟩, h3⟩ := h
    obtain ⟨d1, d2, _⟩ := dbgB_ok h3
    exact ⟨x, pos, rfl, by rw [o.n]; exact h1, visB_ok h2 o.sc, d1, d2⟩
  · cases h
mutual
theorem chkP_ok {fb : Str → Bool} (hn : X.N = N) (nd : N.Nodup) (hc : X.calm = true) (hsc : X.env.scope = sc) (hf : ∀ x, fb x = true → X.fn x = true) : ∀ {p : Pt} {e : Expr}, chkP N sc fb p e = true → PG X e (RG X.K S p)
  | .nm i, e, h => by
    unfold chkP at h
    cases e with
    | Name x pos =>
      simp only [Bool.and_eq_true, decide_eq_true_eq] at h
      obtain ⟨h1, h2⟩ := h
      refine dg_nm (by rw [hn]; exact nd) (by rw [hn]; exact h1) ?_ ?_
      · unfold L2.Loc
        rw [hsc]
        split at h2
        · rename_i q; exact .inl q
        · rename_i q; exact .inr q
        · cases h2
      · rw [hsc]
        split at h2
        · rename_i q; exact .inr q
        · exact .inl (hf x h2)
        · cases h2
    | _ => cases h
  | .tup ps, e, h => by
    unfold chkP at h
    cases e with
    | Tuple es kk pos =>
      simp only [Bool.and_eq_true, decide_eq_true_eq] at h
      obtain ⟨⟨h1, h2⟩, h3⟩ := h
      exact dg_tup hc (chkPs_ok hn nd hc hsc hf h1) h2 h3
    | _ => cases h
theorem chkPs_ok {fb : Str → Bool} (hn : X.N = N) (nd : N.Nodup) (hc : X.calm = true) (hsc : X.env.scope = sc) (hf : ∀ x, fb x = true → X.fn x = true) : ∀ {p : Pts} {e : List Expr}, chkPs N sc fb p e = true → PGs X e (RGs X.K S p)
  | .nil, e, h => by
    unfold chkPs at h
    cases e with
    | nil => exact dgs_nil
    | cons _ _ => cases h
  | .cons p ps, e, h => by
    unfold chkPs at h
    cases e with
    | nil => cases h
    | cons e es =>
      simp only [Bool.and_eq_true] at h
      obtain ⟨⟨h1, h2⟩, h3⟩ := h
      exact dgs_cons (chkP_ok hn nd hc hsc hf h1) (chkPs_ok hn nd hc hsc hf h2) h3
end
/-- all that a comprehension asks -/
structure LcOk (X : Cx) (S : Sx) (W : WX) (Φ : Nat → List D → Mem → Rs D) (p : Pt) (it : I) (c f : T) (own : List Nat) (elt tg iter : Expr) (ifs : List Expr) (scope : Scope) : Prop where
  hi : DI X S W p tg iter (evi Φ it)
  ok : BlkOk X.N X.env.scope scope (ownN X.N own)
  hg : ∀ (s : Shared) (H : Hp) (C : Addr) (cl : List (Str × Addr)) (fp : List Addr), PG (X.blk s H scope (compEnvC scope cl C X.env) fp) tg (RG X.K S p)
  ht : ∀ (s : Shared) (H : Hp) (C : Addr) (cl : List (Str × Addr)) (fp : List Addr), DTs (X.blk s H scope (compEnvC scope cl C X.env) fp) S WF ifs (ev Φ c)
  he : ∀ (s : Shared) (H : Hp) (C : Addr) (cl : List (Str × Addr)) (fp : List Addr), DE (X.blk s H scope (compEnvC scope cl C X.env) fp) S WF elt (ev Φ f)
  hs : ∀ x, foldedSetIterable iter X.env x = pure x
  sub : ∀ i ∈ p.ns, i ∈ own
  calm : X.calm = true
  nd : X.N.Nodup
theorem ownN_snd {N : List Str} {own : List Nat} : (ownN N own).map (·.2) = own := by
  unfold ownN
  rw [List.map_map]
  exact List.map_id _
theorem LcOk.read {p : Pt} {it : I} {c f : T} {own : List Nat} {elt tg iter : Expr} {ifs : List Expr} {scope : Scope} (L : LcOk X S W Φ p it c f own elt tg iter ifs scope) {σ : L2.St} {H : Hp} {Q : VK} (h : RF X.K S W (ev Φ (.lc p it c f own)) σ H Q) :
    tLc (RI X.K S W p (evi Φ it)) (RG X.K S p) (RT X.K S WF (ev Φ c)) (RD X.K S WF (ev Φ f)) ((ownN X.N own).map (·.2)) σ H Q := by
  rw [ownN_snd]
  exact lc_read L.sub h
theorem LcOk.fe {p : Pt} {it : I} {c f : T} {own : List Nat} {elt tg iter : Expr} {ifs : List Expr} {scope : Scope} {pos : Pos} (L : LcOk X S W Φ p it c f own elt tg iter ifs scope) : FE X S W (.ListComp elt [⟨tg, iter, ifs, 0⟩] scope pos) (ev Φ (.lc p it c f own)) :=
  PE.imp (pe_lc L.calm L.nd L.hi L.ok L.hg L.ht L.he L.hs) fun σ H Q h => L.read h
theorem fe_add {a b : Expr} {ta tb : T} {pos : Pos} (ha : DE X S W a (ev Φ ta)) (hb : DE X S W b (ev Φ tb)) : FE X S W (.BinOp a .Add b pos) (ev Φ (.op2 .add ta tb)) :=
  PE.imp (pe_op op_cat ha hb) fun σ H Q ⟨w, δ, M, m, r, p⟩ => by
    unfold ev at p
    refine ⟨w, δ, M, m, r, p.step.mono fun x H1 ⟨w1, M1, d1, e1, m1, r1, p1⟩ => ⟨w1, δ, M1, m1, r.mono e1, p1.step.mono fun y H2 ⟨w2, M2, d2, e2, m2, r2, p2⟩ => ?_⟩⟩
    have r1 := r1.mono e2
    have p2 : PostF X.K S W σ w2 H2 Q (lift M2 (add2 M2 d1 d2)) := p2
    have key : ∃ xs ys, asL M2 d1 = some xs ∧ asL M2 d2 = some ys ∧ xs.length + ys.length ≤ lineN ∧ PostF X.K S W σ w2 H2 Q (.ok (.lst (xs ++ ys)) M2) := by
      unfold add2 at p2
      split at p2
      · exact p2.elim
      · split at p2 <;> exact p2.elim
      · split at p2 <;> exact p2.elim
      · split at p2
        · rename_i xs ys h1 h2
          split at p2
          · rename_i hl
            exact ⟨xs, ys, h1, h2, hl, p2⟩
          · exact p2.elim
        · exact p2.elim
    obtain ⟨xs, ys, h1, h2, hl, p3⟩ := key
    obtain ⟨a, us, rfl, g1, g2⟩ := r1.asL m2 h1
    obtain ⟨b, vs, rfl, g3, g4⟩ := r2.asL m2 h2
    refine ⟨a, b, us, vs, rfl, rfl, g1, g3, by rw [g2.length, g4.length, ← RelM.line]; exact hl, fun q hq => p3 w2 H2 q _ (Evo.refl _ _) m2 (g2.append g4) hq⟩
end
end CB
end
section
set_option maxHeartbeats 4000000
/-! CB24: it does, for every term. -/
namespace CB
open PySem PySem.Spec L2
open PyProof.Rows hiding St
theorem relS_kind {scope sc : Scope} : (relS scope sc).kind = scope.kind := rfl
theorem callee_blk {X : Cx} {S : Sx} {k : Nat} {φ : List D → Mem → Rs D} {x : Str} {s : Shared} {H : Hp} {scope : Scope} {ce : PySem.Env} {fp : List Addr} (h : Callee X S k φ x) : Callee (X.blk s H scope ce fp) S k φ x := h
theorem XOk.blk {G : Gx} {N : List Str} {sc : Scope} {Φ : Nat → List D → Mem → Rs D} {k : Nat} {X : Cx} {S : Sx} {W : WX} (o : XOk G N sc Φ k X S W) (s : Shared) (H : Hp) (scope : Scope) (C : Addr) (cl : List (Str × Addr)) (fp : List Addr) :
    XOk G N (relS scope sc) Φ k (X.blk s H scope (compEnvC scope cl C X.env) fp) S WF :=
  ⟨o.n, o.nd, by rw [← o.sc]; rfl, o.calm, o.room, takes0, fun x f h => callee_blk (o.fns x f h), o.cst, o.blt⟩
structure SndE (G : Gx) (N : List Str) (Φ : Nat → List D → Mem → Rs D) (k : Nat) (S : Sx) (n : Nat) : Prop where
  e : ∀ (sc : Scope) (t : T) (e : Expr), chkE G N sc n t e = true → ∀ (X : Cx) (W : WX), XOk G N sc Φ k X S W → DE X S W e (ev Φ t) ∧ (unIf e = true → DT X S W e (ev Φ t)) ∧ (∀ op vs pos, e = .BoolOp op vs pos → vs.all unIf = true → DW X S W e (ev Φ t))
  f : ∀ (sc : Scope) (t : T) (e : Expr), chkF G N sc n t e = true → ∀ (X : Cx) (W : WX), XOk G N sc Φ k X S W → FE X S W e (ev Φ t)
  l : ∀ (sc : Scope) (p : Pt) (it : I) (c f : T) (own : List Nat) (elt tg iter : Expr) (ifs : List Expr) (scope : Scope), chkL G N sc n p it c f own elt tg iter ifs scope = true → ∀ (X : Cx) (W : WX), XOk G N sc Φ k X S W → LcOk X S W Φ p it c f own elt tg iter ifs scope
  es : ∀ (sc : Scope) (t : Ts) (e : List Expr), chkEs G N sc n t e = true → ∀ (X : Cx) (W : WX), XOk G N sc Φ k X S W → DA X S W e (evs Φ t)
  o : ∀ (sc : Scope) (t : To) (e : Option Expr), chkO G N sc n t e = true → ∀ (X : Cx) (W : WX), XOk G N sc Φ k X S W → DP X S W e (evo Φ t)
  i : ∀ (sc : Scope) (p : Pt) (t : I) (tg e : Expr), chkI G N sc n p t tg e = true → ∀ (X : Cx) (W : WX), XOk G N sc Φ k X S W → DI X S W p tg e (evi Φ t)
section
variable {G : Gx} {N : List Str} {Φ : Nat → List D → Mem → Rs D} {k : Nat} {S : Sx}
theorem one_ok {e x : Expr} (h : one? e = some x) : unIf x = true ∧ ∃ op pos, e = .BoolOp op [x] pos := by
  unfold one? at h
  split at h
  · split at h
    · rename_i hu; cases h; exact ⟨hu, _, _, rfl⟩
    · cases h
  · cases h
theorem sndF {n : Nat} (ih : SndE G N Φ k S n) : ∀ (sc : Scope) (t : T) (e : Expr), chkF G N sc (n + 1) t e = true → ∀ (X : Cx) (W : WX), XOk G N sc Φ k X S W → FE X S W e (ev Φ t) := by
  intro sc t e h X W o
  unfold chkF at h
  split at h
  · split at h
    · split at h
      · exact fe_dict0
      · cases h
    · cases h
  · split at h
    · exact fe_lst (ih.es sc _ _ h X W o)
    · cases h
  · split at h
    · simp only [Bool.and_eq_true] at h
      exact fe_add (ih.e sc _ _ h.1 X W o).1 (ih.e sc _ _ h.2 X W o).1
    · cases h
  · split at h
    · exact (ih.l sc _ _ _ _ _ _ _ _ _ _ h X W o).fe
    · cases h
  · split at h
    · simp only [Bool.and_eq_true] at h
      obtain ⟨⟨h1, h2⟩, h3⟩ := h
      obtain ⟨hx, hg, hd, hn⟩ := bltB_ok h1 o.sc
      exact fe_dict hx hg (o.blt _ (by rw [hx]; decide)) boot_all.2.2.2.2.2.2.2.2.2.2.2.2.2.2.1 (ih.e sc _ _ h3 X W o).1 o.calm (by have := o.u90; omega) h2
    · cases h
  · cases h
theorem sndL {n : Nat} (ih : SndE G N Φ k S n) : ∀ (sc : Scope) (p : Pt) (it : I) (c f : T) (own : List Nat) (elt tg iter : Expr) (ifs : List Expr) (scope : Scope), chkL G N sc (n + 1) p it c f own elt tg iter ifs scope = true → ∀ (X : Cx) (W : WX), XOk G N sc Φ k X S W → LcOk X S W Φ p it c f own elt tg iter ifs scope := by
  intro sc p it c f own elt tg iter ifs scope h X W o
  unfold chkL at h
  simp only [Bool.and_eq_true] at h
  obtain ⟨⟨⟨⟨⟨⟨h1, h2⟩, h3⟩, h4⟩, h5⟩, h6⟩, h7⟩ := h
  refine ⟨ih.i sc _ _ _ _ h1 X W o, ?_, fun s H C cl fp => ?_, fun s H C cl fp => ?_, fun s H C cl fp => ?_, set_ok h7, ?_, o.calm, by rw [o.n]; exact o.nd⟩
  · rw [o.n, o.sc]
    exact blkOk_by h6
  · have b := o.blk s H scope C cl fp
    exact chkP_ok (sc := relS scope sc) b.n o.nd b.calm b.sc (fun x hx => hx) h2
  · have b := o.blk s H scope C cl fp
    split at h3
    · split at h3
      · exact dts_nil
      · cases h3
    · simp only [Bool.and_eq_true] at h3
      exact dts_one ((ih.e _ _ _ h3.1 _ _ b).2.1 h3.2)
    · cases h3
  · exact (ih.e _ _ _ h4 _ _ (o.blk s H scope C cl fp)).1
  · rw [List.all_eq_true] at h5
    exact fun i hi => by simpa using h5 i hi
theorem sndEs {n : Nat} (ih : SndE G N Φ k S n) : ∀ (sc : Scope) (t : Ts) (e : List Expr), chkEs G N sc (n + 1) t e = true → ∀ (X : Cx) (W : WX), XOk G N sc Φ k X S W → DA X S W e (evs Φ t) := by
  intro sc t e h X W o
  unfold chkEs at h
  split at h
  · cases e with
    | nil => exact da_nil
    | cons _ _ => cases h
  · split at h
    · simp only [Bool.and_eq_true] at h
      exact da_cons (ih.e sc _ _ h.1.2 X W o).1 (ih.es sc _ _ h.2 X W o) (star_cons h.1.1)
    · cases h
theorem sndO {n : Nat} (ih : SndE G N Φ k S n) : ∀ (sc : Scope) (t : To) (e : Option Expr), chkO G N sc (n + 1) t e = true → ∀ (X : Cx) (W : WX), XOk G N sc Φ k X S W → DP X S W e (evo Φ t) := by
  intro sc t e h X W o
  unfold chkO at h
  split at h
  · cases e with
    | none => exact dp_no
    | some _ => cases h
  · split at h
    · exact dp_yes (ih.e sc _ _ h X W o).1
    · cases h
theorem sndI {n : Nat} (ih : SndE G N Φ k S n) : ∀ (sc : Scope) (p : Pt) (t : I) (tg e : Expr), chkI G N sc (n + 1) p t tg e = true → ∀ (X : Cx) (W : WX), XOk G N sc Φ k X S W → DI X S W p tg e (evi Φ t) := by
  intro sc p t tg e h X W o
  unfold chkI at h
  split at h
  · exact di_seq (ih.e sc _ _ h X W o).1
  · cases h
  · split at h
    · simp only [Bool.and_eq_true] at h
      obtain ⟨⟨h1, h2⟩, h3⟩ := h
      obtain ⟨hx, hg, hd, hn⟩ := bltB_ok h1 o.sc
      exact di_rng1 hx hg (o.blt _ (by rw [hx]; decide)) (ih.e sc _ _ h3 X W o).1 h2
    · cases h
  · split at h
    · simp only [Bool.and_eq_true] at h
      obtain ⟨⟨⟨⟨h1, h2⟩, h3⟩, h4⟩, h5⟩ := h
      obtain ⟨hx, hg, hd, hn⟩ := bltB_ok h1 o.sc
      exact di_rng2 hx hg (o.blt _ (by rw [hx]; decide)) (ih.e sc _ _ h4 X W o).1 (ih.e sc _ _ h5 X W o).1 h2 h3
    · cases h
  · split at h
    · simp only [Bool.and_eq_true] at h
      obtain ⟨⟨⟨h1, h2⟩, h3⟩, h4⟩ := h
      obtain ⟨hx, hg, hd, hn⟩ := bltB_ok h1 o.sc
      split at h4
      · exact di_enum hx hg (o.blt _ (by rw [hx]; decide)) (ih.e sc _ _ h3 X W o).1 h2
      · cases h4
    · cases h
  · split at h
    · simp only [Bool.and_eq_true] at h
      obtain ⟨⟨⟨⟨⟨h1, h2⟩, h3⟩, h4⟩, h5⟩, h6⟩ := h
      obtain ⟨hx, hg, hd, hn⟩ := bltB_ok h1 o.sc
      split at h6
      · exact di_zip hx hg (o.blt _ (by rw [hx]; decide)) (ih.e sc _ _ h4 X W o).1 (ih.e sc _ _ h5 X W o).1 h2 h3
      · cases h6
    · cases h
theorem dt_of {X : Cx} {W : WX} {e : Expr} {f : Sem1} (h : DE X S W e f) (hp : plainT e = true) : DE X S W e f ∧ (unIf e = true → DT X S W e f) ∧ (∀ op vs pos, e = .BoolOp op vs pos → vs.all unIf = true → DW X S W e f) :=
  ⟨h, fun _ => dt_val h (isTrue_ok hp), fun op vs pos he => by subst he; cases hp⟩
theorem ty_blt (ty : Ty) : (Str.ofString (tyName ty)) ∈ bltNames ∧ bootBuiltins (tyName ty) = some (.type (tyName ty)) := by
  have bt := boot_all
  cases ty
  · exact ⟨by decide, bt.2.2.2.2.2.2.2.2.2.2.1⟩
  · exact ⟨by decide, bt.2.2.2.2.2.2.2.2.2.2.2.2.1⟩
  · exact ⟨by decide, bt.2.2.2.2.2.2.2.2.1⟩
  · exact ⟨by decide, bt.2.2.2.2.2.2.2.2.2.2.2.1⟩
  · exact ⟨by decide, bt.2.2.2.2.2.2.2.2.2.1⟩
theorem sndE {n : Nat} (ih : SndE G N Φ k S n) : ∀ (sc : Scope) (t : T) (e : Expr), chkE G N sc (n + 1) t e = true → ∀ (X : Cx) (W : WX), XOk G N sc Φ k X S W → DE X S W e (ev Φ t) ∧ (unIf e = true → DT X S W e (ev Φ t)) ∧ (∀ op vs pos, e = .BoolOp op vs pos → vs.all unIf = true → DW X S W e (ev Φ t)) := by
  intro sc t e h X W o
  unfold chkE at h
  split at h
  · rename_i x hx
    obtain ⟨hu, op, pos, rfl⟩ := one_ok hx
    obtain ⟨a, b, _⟩ := ih.e sc _ _ h X W o
    have w : DW X S W (.BoolOp op [x] pos) (ev Φ t) := by
      cases op
      · exact pw_and1 (b hu)
      · exact pw_or1 (b hu)
    exact ⟨pe_one a, fun _ => w.pt, fun op' vs pos' he _ => by cases he; exact w⟩
  · split at h
    · -- var
      obtain ⟨x, pos, rfl, h1, h2, h3, h4⟩ := varOk_ok o h
      exact dt_of (de_var h1 h2 h3 h4) rfl
    · -- frz
      obtain ⟨x, pos, rfl, h1, h2, h3, h4⟩ := varOk_ok o h
      exact dt_of (de_frz h1 h2 h3 h4) rfl
    · -- con
      rw [Bool.or_eq_true] at h
      rcases h with h | h
      · refine dt_of (conOk_ok h) ?_
        unfold conOk at h
        split at h <;> first | rfl | cases h
      · refine dt_of (conG_ok o h) ?_
        unfold conG at h
        split at h <;> first | rfl | cases h
    · -- mk
      have d := de_mk (ih.f sc _ _ h X W o)
      refine ⟨d, ?_⟩
      have hp : plainT e = true := by
        cases n with
        | zero => cases h
        | succ n =>
          unfold chkF at h
          split at h
          · split at h <;> first | rfl | cases h
          · split at h <;> first | rfl | cases h
          · split at h <;> first | rfl | cases h
          · split at h <;> first | rfl | cases h
          · split at h <;> first | rfl | cases h
          · cases h
      exact (dt_of d hp).2
    · -- tup
      split at h
      · exact dt_of (de_tup (ih.es sc _ _ h X W o)) rfl
      · cases h
    · -- key
      split at h
      · exact dt_of (de_key (ih.es sc _ _ h X W o)) rfl
      · cases h
    · -- lst
      split at h
      · exact dt_of ((fe_lst (ih.es sc _ _ h X W o)).de fresh_lst) rfl
      · cases h
    · -- op2
      split at h
      · simp only [Bool.and_eq_true] at h
        exact dt_of (de_op (op_ok o h.1.1) (ih.e sc _ _ h.1.2 X W o).1 (ih.e sc _ _ h.2 X W o).1) rfl
      · simp only [Bool.and_eq_true, decide_eq_true_eq] at h
        obtain ⟨⟨⟨rfl, h2⟩, h3⟩, h4⟩ := h
        exact dt_of (de_ix o.u1 (ih.e sc _ _ h3 X W o).1 (ih.e sc _ _ h4 X W o).1 (plainIx_ok h2)) rfl
      · cases h
    · -- cmp
      split at h
      · simp only [Bool.and_eq_true, Bool.not_eq_true'] at h
        obtain ⟨⟨⟨h1, h2⟩, h3⟩, h4⟩ := h
        have a := (ih.e sc _ _ h3 X W o).1
        have b := (ih.e sc _ _ h4 X W o).1
        exact ⟨de_cmp (cmp_ok o h1) a b h2, fun _ => dt_cmp (cmp_ok o h1) a b h2, fun op vs pos he => nomatch he⟩
      · cases h
    · -- chn
      split at h
      · simp only [Bool.and_eq_true, Bool.not_eq_true'] at h
        obtain ⟨⟨⟨⟨⟨h1, h2⟩, h3⟩, h4⟩, h5⟩, h6⟩ := h
        have a := (ih.e sc _ _ h4 X W o).1
        have b := (ih.e sc _ _ h5 X W o).1
        have c := (ih.e sc _ _ h6 X W o).1
        exact ⟨de_chn (cmp_ok o h1) (cmp_ok o h2) a b c h3, fun _ => dt_chn (cmp_ok o h1) (cmp_ok o h2) a b c h3, fun op vs pos he => nomatch he⟩
      · cases h
    · -- not
      split at h
      · simp only [Bool.and_eq_true] at h
        obtain ⟨a, b, _⟩ := ih.e sc _ _ h.1 X W o
        exact ⟨de_not a, fun _ => dt_not (b h.2), fun op vs pos he => nomatch he⟩
      · cases h
    · -- neg
      split at h
      · exact dt_of (de_neg (ih.e sc _ _ h X W o).1) rfl
      · cases h
    · -- and
      split at h
      · simp only [Bool.and_eq_true] at h
        obtain ⟨⟨⟨h1, h2⟩, h3⟩, h4⟩ := h
        obtain ⟨a, b, _⟩ := ih.e sc _ _ h1 X W o
        obtain ⟨c, d, e⟩ := ih.e sc _ _ h3 X W o
        have w := dw_and (b h2) (e _ _ _ rfl h4)
        exact ⟨de_and a c, fun _ => PW.pt w, fun op vs pos he _ => by cases he; exact w⟩
      · cases h
    · -- or
      split at h
      · simp only [Bool.and_eq_true] at h
        obtain ⟨⟨⟨h1, h2⟩, h3⟩, h4⟩ := h
        obtain ⟨a, b, _⟩ := ih.e sc _ _ h1 X W o
        obtain ⟨c, d, e⟩ := ih.e sc _ _ h3 X W o
        have w := dw_or (b h2) (e _ _ _ rfl h4)
        exact ⟨de_or a c, fun _ => PW.pt w, fun op vs pos he _ => by cases he; exact w⟩
      · cases h
    · -- ite
      split at h
      · simp only [Bool.and_eq_true] at h
        obtain ⟨⟨⟨h1, h2⟩, h3⟩, h4⟩ := h
        obtain ⟨a, b, _⟩ := ih.e sc _ _ h1 X W o
        exact ⟨de_ite (b h2) (ih.e sc _ _ h3 X W o).1 (ih.e sc _ _ h4 X W o).1, fun hu => (by cases hu), fun op vs pos he => nomatch he⟩
      · cases h
    · -- slc
      split at h
      · simp only [Bool.and_eq_true] at h
        obtain ⟨⟨h1, h2⟩, h3⟩ := h
        exact dt_of (de_slc (ih.e sc _ _ h1 X W o).1 (ih.o sc _ _ h2 X W o) (ih.o sc _ _ h3 X W o)) rfl
      · cases h
    · -- call
      split at h
      · simp only [Bool.and_eq_true, decide_eq_true_eq] at h
        obtain ⟨⟨⟨⟨h1, h2⟩, h3⟩, h4⟩, h5⟩ := h
        exact dt_of (de_call (o.fns _ _ h1) o.room o.tk (glB_ok h2 o.sc) (ih.es sc _ _ h5 X W o) (dbgB_ok h3).1 h4) rfl
      · cases h
    · -- call0
      split at h
      · simp only [Bool.and_eq_true, decide_eq_true_eq] at h
        obtain ⟨⟨h1, h2⟩, h3⟩ := h
        exact dt_of (de_call0 (o.fns _ _ h1) o.room (glB_ok h2 o.sc) (dbgB_ok h3).1) rfl
      · cases h
    · -- sset
      split at h
      · simp only [Bool.and_eq_true] at h
        obtain ⟨⟨⟨h1, h2⟩, h3⟩, h4⟩ := h
        obtain ⟨hx, hg, hd, hn⟩ := bltB_ok h1 o.sc
        obtain ⟨hy, hg2, hd2, hn2⟩ := bltB_ok h2 o.sc
        exact dt_of (de_sset hx hy hg (o.blt _ (by rw [hx]; decide)) boot_all.2.2.2.2.2.2.2.1 hg2 (o.blt _ (by rw [hy]; decide)) (ih.e sc _ _ h4 X W o).1 o.calm h3) rfl
      · cases h
    · -- b
      split at h
      · simp only [Bool.and_eq_true] at h
        obtain ⟨⟨h1, h2⟩, h3⟩ := h
        split at h1
        · rename_i y b' id hT
          obtain ⟨hx, hg, hd, hn⟩ := bltB_ok h1 o.sc
          obtain ⟨c1, c2⟩ := blt_ok o hT (id := (y, b', id))
          subst hx
          rcases c2 with ⟨_, c3, c4⟩ | ⟨_, c3, c4⟩
          · exact dt_of (de_bltT c3 hg (o.blt _ c1) c4 (ih.es sc _ _ h3 X W o) hn hd h2) rfl
          · exact dt_of (de_blt c3 hg (o.blt _ c1) c4 (ih.es sc _ _ h3 X W o) hn hd h2) rfl
        · cases h1
      · cases h
    · -- m
      split at h
      · simp only [Bool.and_eq_true, decide_eq_true_eq] at h
        obtain ⟨⟨⟨⟨⟨⟨h1, h2⟩, h3⟩, h4⟩, h5⟩, h6⟩, h7⟩ := h
        subst h1
        exact dt_of (de_me o.u90 (ih.e sc _ _ h6 X W o).1 (ih.es sc _ _ h7 X W o) (base_ok h2) h3 h4 h5) rfl
      · cases h
    · -- isi
      split at h
      · rename_i ty _ _ _ _ _ _ _
        simp only [Bool.and_eq_true] at h
        obtain ⟨⟨⟨h1, h2⟩, h3⟩, h4⟩ := h
        obtain ⟨hx, hg, hd, hn⟩ := bltB_ok h1 o.sc
        obtain ⟨hy, hg2, hd2, hn2⟩ := bltB_ok h2 o.sc
        subst hx hy
        exact dt_of (de_isi (ih.e sc _ _ h4 X W o).1 rfl rfl hg (o.blt _ (by decide)) boot_all.2.2.2.2.2.2.2.2.2.2.2.2.2.1 hg2 (o.blt _ (ty_blt _).1) (ty_blt _).2 hn2 hd2 hn hd h3) rfl
      · cases h
    · -- lc
      split at h
      · exact dt_of ((ih.l sc _ _ _ _ _ _ _ _ _ _ h X W o).fe.de fresh_lc) rfl
      · cases h
    · cases h
theorem snd : ∀ n : Nat, SndE G N Φ k S n
  | 0 => ⟨fun _ _ _ h => (by unfold chkE at h; cases h), fun _ _ _ h => (by unfold chkF at h; cases h), fun _ _ _ _ _ _ _ _ _ _ _ h => (by unfold chkL at h; cases h), fun _ _ _ h => (by unfold chkEs at h; cases h), fun _ _ _ h => (by unfold chkO at h; cases h), fun _ _ _ _ _ h => (by unfold chkI at h; cases h)⟩
  | n + 1 => ⟨sndE (snd n), sndF (snd n), sndL (snd n), sndEs (snd n), sndO (snd n), sndI (snd n)⟩
end
end CB
end
section
set_option maxHeartbeats 4000000
/-! CB25: statements of the text. -/
namespace CB
open PySem PySem.Spec L2
open PyProof.Rows hiding St
/-- how a pair or triple is stored -/
def swB (sc : Scope) (ts vs : List Expr) : Option (Option (List Str)) :=
  if !(ts.length == 2 || ts.length == 3) || vs.length != ts.length then some none
  else if (vs.any fun | .Starred .. => true | _ => false) = true then some none
  else
    let line := (ts.head?.map (·.pos.line)).getD 0
    let names := ts.filterMap fun
      | .Name id pos => if sc.names.lookup id == some .local && pos.line == line then some id else none
      | _ => none
    if names.length != ts.length || names.eraseDups.length != names.length then some none
    else if vs.all (foldedForSure 8) = true then some none
    else if vs.all (constantsAlone 8) = true then none
    else some (some names)
theorem swB_ok {sc : Scope} {ts vs : List Expr} {env : PySem.Env} {r : Option (List Str)} {k k2 : Nat} {p p2 : Pos} (h : swB sc ts vs = some r) (e : env.scope = sc) (hk : sc.kind = .function) : swappedStores [.Tuple ts k p] (.Tuple vs k2 p2) env = pure r := by
  subst e
  have hb : env.blockKind = .function := by unfold Env.blockKind; rw [hk]; rfl
  unfold swappedStores
  unfold swB at h
  simp only [hb]
  have hb2 : (ScopeKind.function != ScopeKind.function) = false := rfl
  simp only [hb2, Bool.or_false]
  by_cases c1 : (!(ts.length == 2 || ts.length == 3) || vs.length != ts.length) = true
  · rw [if_pos c1] at h
    refine (if_pos c1).trans ?_
    cases h; rfl
  · rw [if_neg c1] at h
    refine (if_neg c1).trans ?_
    split at h
    · rename_i c2
      refine (if_pos c2).trans ?_
      cases h; rfl
    · rename_i c2
      refine (if_neg c2).trans ?_
      dsimp only at h
      split at h
      · rename_i c3
        refine (if_pos c3).trans ?_
        cases h; rfl
      · rename_i c3
        refine (if_neg c3).trans ?_
        split at h
        · rename_i c4
          refine (if_pos c4).trans ?_
          cases h; rfl
        · rename_i c4
          refine (if_neg c4).trans ?_
          split at h
          · cases h
          · rename_i c5
            refine (if_neg c5).trans ?_
            cases h; rfl
theorem sw_plain {e : Expr} {t : Option Expr} {l : Nat} {env : PySem.Env} (h : unComp e = true) : swapsWith e t l env = pure false := by
  cases e <;> first | rfl | cases h
theorem sw_list {elt : Expr} {gs : List Comprehension} {scope : Scope} {pos py : Pos} {y : Str} {l : Nat} {env : PySem.Env} : ∃ b, swapsWith (.ListComp elt gs scope pos) (some (.Name y py)) l env = pure b := ⟨_, rfl⟩
def noSwap (sc : Scope) (tg e : Expr) : Bool := match tg, e with
  | .Tuple ts _ _, .Tuple vs _ _ => (match swB sc ts vs with | some none => true | _ => false)
  | .List _ _, .Tuple _ _ _ => false
  | _, _ => true
theorem noSwap_ok {sc : Scope} {tg e : Expr} {env : PySem.Env} (h : noSwap sc tg e = true) (hs : env.scope = sc) (hk : sc.kind = .function) : swappedStores [tg] e env = pure none := by
  unfold noSwap at h
  split at h
  · split at h
    · rename_i q; exact swB_ok q hs hk
    · cases h
  · cases h
  · cases tg <;> first | rfl | (cases e <;> first | rfl | (rename_i q1 q2; first | exact absurd rfl (q1 _ _ _ _ _ _ rfl) | exact absurd rfl (q2 _ _ _ _ _ rfl)))
/-! ### what is read of a comprehension, stored at once -/
section
variable {X : Cx} {S : Sx} {W : WX} {Φ : Nat → List D → Mem → Rs D}
theorem mk_read {t : T} {σ : L2.St} {H : Hp} {Q : VK} (h : RD X.K S W (ev Φ (.mk t)) σ H Q) : RF X.K S W (ev Φ t) σ H Q := by
  obtain ⟨w, δ, M, m, r, p⟩ := h
  unfold ev at p
  refine ⟨w, δ, M, m, r, ?_⟩
  cases q : ev Φ t δ M with
  | ok d M1 =>
    rw [q] at p
    cases d with
    | lst ds => exact fun w' H' a xs e' m' r' hn => Post.donee p (e'.trans (cell_evo m' hn)) (cell_rel m' hn (.lst upd_same (r'.mono (cell_evo m' hn)))) (cell_loc m')
    | dct ds => exact fun w' H' a xs e' m' r' hn => Post.donee p (e'.trans (cell_evo m' hn)) (cell_rel m' hn (.dct upd_same (r'.mono (cell_evo m' hn)))) (cell_loc m')
    | _ => exact p.elim
  | exc x M1 => rw [q] at p; exact p
  | stuck => rw [q] at p; exact p
theorem fresh_read {t : T} (hf : ∀ δ M d M', ev Φ t δ M = .ok d M' → isFresh d) {σ : L2.St} {H : Hp} {Q : VK} (h : RD X.K S W (ev Φ t) σ H Q) : RF X.K S W (ev Φ t) σ H Q := by
  obtain ⟨w, δ, M, m, r, p⟩ := h
  exact ⟨w, δ, M, m, r, PostF.of p (hf δ M)⟩
theorem ds_setLc {i : Nat} {x : Str} {pos pos' spos : Pos} {t : T} {p : Pt} {it : I} {c f : T} {own : List Nat} {elt tg iter : Expr} {ifs : List Expr} {scope : Scope} (L : LcOk X S W Φ p it c f own elt tg iter ifs scope) (hi : X.N[i]? = some x) (hx : X.env.scope.names.lookup x = some .local)
    (hf : X.fn x = true ∨ X.env.scope.names.lookup x = some .local) (hr : ∀ {σ : L2.St} {H : Hp} {Q : VK}, RD X.K S W (ev Φ t) σ H Q → RF X.K S W (ev Φ (.lc p it c f own)) σ H Q) (hd : DE X S W (.ListComp elt [⟨tg, iter, ifs, 0⟩] scope pos) (ev Φ t)) :
    DS X S W (.Assign [.Name x pos'] (.ListComp elt [⟨tg, iter, ifs, 0⟩] scope pos) spos) (ex Φ (.set i t)) := by
  obtain ⟨b, hb⟩ := sw_list (elt := elt) (gs := [⟨tg, iter, ifs, 0⟩]) (scope := scope) (pos := pos) (py := pos') (y := x) (l := spos.line) (env := X.env)
  cases b with
  | false => exact ds_set L.nd hi (.inl hx) hd hb hf
  | true =>
    refine PS.imp (ps_setLc (tt := RT X.K S WF (ev Φ c)) (te := RD X.K S WF (ev Φ f)) L.calm L.nd hi hx hb L.hi L.ok L.hg L.ht L.he L.hs) fun E σ H h => ?_
    exact L.read (hr (set_read h))
end
/-! ### the checker -/
def isC : T → Option (Pt × I × T × T × List Nat)
  | .lc p it c f own => some (p, it, c, f, own)
  | .mk (.lc p it c f own) => some (p, it, c, f, own)
  | _ => none
def suB (N : List Str) (sc : Scope) (s : S) (st : Stmt) : Bool := match s, st with
  | .set i (.con d), .Assign [.Name x _] e _ => decide (N[i]? = some x) && locB sc x && conOk d e && unComp e
  | .ret (.con d), .Return (some e) _ => conOk d e
  | .app (.var i) (.con d), .Expr (.Call (.Attribute o x apos) [e] [] cpos) _ => decide (x = "append") && varOk N sc i o && conOk d e && (apos.endLine == cpos.line) && unStar e && unCall o
  | _, _ => false
def susB (N : List Str) (sc : Scope) : Ss → List Stmt → Bool
  | .nil, es => es.isEmpty
  | .cons s ss, es => match es with | st :: sts => suB N sc s st && susB N sc ss sts | _ => false
section
variable (G : Gx) (N : List Str) (sc : Scope)
mutual
def chkS : S → Stmt → Bool
  | .set i t, st => (match st with
    | .Assign [.Name x _] e _ => decide (N[i]? = some x) && locB sc x && chkE G N sc 60 t e && (unComp e || (match e with
      | .ListComp elt [⟨tg, iter, ifs, 0⟩] scope _ => (match isC t with | some (p, it, c, f, own) => chkL G N sc 59 p it c f own elt tg iter ifs scope && decide (sc.names.lookup x = some .local) | none => false)
      | _ => false))
    | _ => false)
  | .asg p t, st => (match st with
    | .Assign [tg] e _ => chkP N sc (fun _ => true) p tg && chkE G N sc 60 t e && unComp e && noSwap sc tg e && unStar tg
    | _ => false)
  | .par2 i j a b, st => (match st with
    | .Assign [.Tuple [.Name x _, .Name y _] _ _] (.Tuple [ea, eb] _ _) _ => decide (N[i]? = some x) && decide (N[j]? = some y) && decide (i ≠ j) && decide (sc.names.lookup x = some .local) && decide (sc.names.lookup y = some .local) &&
        chkE G N sc 60 a ea && chkE G N sc 60 b eb && unStar ea && unStar eb
    | _ => false) && (match st with
    | .Assign [.Tuple ts _ _] (.Tuple vs _ _) _ => (match swB sc ts vs with | some (some l) => decide (l = ts.map fun | .Name x _ => x | _ => "") | _ => false)
    | _ => false)
  | .par3 i j k a b c, st => (match st with
    | .Assign [.Tuple [.Name x _, .Name y _, .Name z _] _ _] (.Tuple [ea, eb, ec] _ _) _ => decide (N[i]? = some x) && decide (N[j]? = some y) && decide (N[k]? = some z) && decide (i ≠ j) && decide (i ≠ k) && decide (j ≠ k) && decide (sc.names.lookup x = some .local) && decide (sc.names.lookup y = some .local) && decide (sc.names.lookup z = some .local) &&
        chkE G N sc 60 a ea && chkE G N sc 60 b eb && chkE G N sc 60 c ec && unStar ea && unStar eb && unStar ec
    | _ => false) && (match st with
    | .Assign [.Tuple ts _ _] (.Tuple vs _ _) _ => (match swB sc ts vs with | some (some l) => decide (l = ts.map fun | .Name x _ => x | _ => "") | _ => false)
    | _ => false)
  | .put o i v, st => (match st with
    | .Assign [.Subscript eo ei _] e _ => chkE G N sc 60 o eo && chkE G N sc 60 i ei && chkE G N sc 60 v e && unComp e && unSlice ei
    | _ => false)
  | .app o t, st => (match st with
    | .Expr (.Call (.Attribute eo x apos) [e] [] cpos) _ => decide (x = "append") && chkE G N sc 60 o eo && chkE G N sc 60 t e && (apos.endLine == cpos.line) && unStar e && unCall eo
    | _ => false)
  | .expr t, st => (match st with | .Expr e _ => chkE G N sc 60 t e && unComp e | _ => false)
  | .ret t, st => (match st with | .Return (some e) _ => chkE G N sc 60 t e | _ => false)
  | .ite c a b, st => (match st with | .If e x y _ => chkE G N sc 60 c e && unIf e && chkSs a x && chkSs b y | _ => false)
  | .for_ p it body, st => (match st with | .For tg iter b [] _ => chkI G N sc 60 p it tg iter && chkP N sc (fun _ => true) p tg && unSet iter && chkSs body b | _ => false)
  | .forK p i body, st => (match st with | .For tg iter b [] _ => varOk N sc i iter && chkP N sc (fun _ => true) p tg && unSet iter && chkSs body b | _ => false)
  | .whl c body, st => (match st with | .While e b [] _ => chkE G N sc 60 c e && unIf e && chkSs body b | _ => false)
  | .raise c, st => (match st with | .Raise (some (.Call (.Name x _) [.Constant (.str _) _ _] [] _)) none _ => decide (G.exs.lookup x = some c) && glB sc x && dbgB x | _ => false)
  | .try_ body c suite, st => (match st with | .Try b [.ExceptHandler (some (.Name x _)) none (b₀ :: su) _] [] [] _ => decide (G.hds.lookup x = some c) && glB sc x && dbgB x && chkSs body b && susB N sc suite (b₀ :: su) | _ => false)
  | .cont, st => (match st with | .Continue _ => true | _ => false)
def chkSs : Ss → List Stmt → Bool
  | .nil, es => es.isEmpty
  | .cons s ss, es => (match es with | st :: sts => chkS s st && chkSs ss sts | _ => false)
end
end
end CB
end
section
set_option maxHeartbeats 4000000
/-! CB26: .. and they do. -/
namespace CB
open PySem PySem.Spec L2
open PyProof.Rows hiding St
def ExOk (X : Cx) (S : Sx) (x : Str) (c : Nat) : Prop := ∃ (C : Addr) (bmB : List Value) (B newId initId : String), ExcBaseFacts B newId initId bmB ∧ PySem.W.excIn X.K C bmB newId = true ∧ X.mg x = some (.ref C) ∧ PySem.W.keepIn X.K (.ref C) = true ∧ Raises X (.ref C) ∧
  (∀ H, S.xc ⟨c, none⟩ (.ref C) none H)
def HdOk (X : Cx) (S : Sx) (x : Str) (c : Nat) : Prop := ∃ C : Addr, X.mg x = some (.ref C) ∧ ∀ e cls dd H, S.xc e cls dd H → PySem.W.exmOne X.K cls (.ref C) = some (decide (e.cls = c))
structure SOk (G : Gx) (N : List Str) (sc : Scope) (Φ : Nat → List D → Mem → Rs D) (k : Nat) (X : Cx) (S : Sx) (W : WX) : Prop extends XOk G N sc Φ k X S W where
  own : PassesOwn (model X.prog X.w) X.A X.env X.xe
  fn : ∀ x, X.fn x = true
  stk : X.stack = X.env :: X.outer
  frm : X.env.frame = some X.env.locals
  knd : X.env.scope.kind = .function
  exh : ∀ x c, G.exs.lookup x = some c → ExOk X S x c
  hdl : ∀ x c, G.hds.lookup x = some c → HdOk X S x c
section
variable {G : Gx} {N : List Str} {sc : Scope} {Φ : Nat → List D → Mem → Rs D} {k : Nat} {X : Cx} {S : Sx} {W : WX}
theorem SOk.kd (o : SOk G N sc Φ k X S W) : sc.kind = .function := by rw [← o.sc]; exact o.knd
theorem locB_ok {x : Str} (h : locB sc x = true) (e : X.env.scope = sc) : L2.Loc X.env.scope x := by
  unfold locB at h
  rw [e]
  unfold L2.Loc
  split at h <;> first | (rename_i q; rw [q]; first | exact .inl rfl | exact .inr rfl) | cases h
theorem SOk.tr (o : SOk G N sc Φ k X S W) {W' : WX} {pn : List (Addr × Obj)} {xe : Value → Shared → Prop} (tk : Takes (X.tr pn xe) W') (hp : PassesOwn (model X.prog X.w) X.A X.env xe) : SOk G N sc Φ k (X.tr pn xe) S W' :=
  { n := o.n, nd := o.nd, sc := o.sc, calm := o.calm, room := o.room, tk := tk, fns := fun x f h => o.fns x f h, cst := o.cst, blt := o.blt, own := hp, fn := o.fn, stk := o.stk, frm := o.frm, knd := o.knd, exh := fun x c h => o.exh x c h, hdl := fun x c h => o.hdl x c h }
theorem suB_ok {s : CB.S} {st : Stmt} (hn : X.N = N) (nd : N.Nodup) (hsc : X.env.scope = sc) (hf : ∀ x, X.fn x = true) (h : suB N sc s st = true) : DS X S W st (ex Φ s) := by
  unfold suB at h
  split at h
  · simp only [Bool.and_eq_true, decide_eq_true_eq] at h
    obtain ⟨⟨⟨h1, h2⟩, h3⟩, h4⟩ := h
    exact ds_set (by rw [hn]; exact nd) (by rw [hn]; exact h1) (locB_ok h2 hsc) (conOk_ok h3) (sw_plain h4) (.inl (hf _))
  · exact ds_ret (conOk_ok h)
  · simp only [Bool.and_eq_true, decide_eq_true_eq] at h
    obtain ⟨⟨⟨⟨⟨h1, h2⟩, h3⟩, h4⟩, h5⟩, h6⟩ := h
    unfold varOk at h2
    split at h2
    · rename_i y py
      simp only [Bool.and_eq_true, decide_eq_true_eq] at h2
      obtain ⟨⟨g1, g2⟩, g3⟩ := h2
      obtain ⟨d1, d2, _⟩ := dbgB_ok g3
      exact ds_app h1 (de_var (by rw [hn]; exact g1) (visB_ok g2 hsc) d1 d2) (conOk_ok h3) (base_ok h6) h4 h5
    · cases h2
  · cases h
theorem susB_ok (hn : X.N = N) (nd : N.Nodup) (hsc : X.env.scope = sc) (hf : ∀ x, X.fn x = true) : ∀ {s : Ss} {st : List Stmt}, susB N sc s st = true → DSs X S W st (exs Φ s)
  | .nil, [], h => dss_nil
  | .nil, _ :: _, h => by unfold susB at h; cases h
  | .cons s ss, [], h => by unfold susB at h; cases h
  | .cons s ss, st :: sts, h => by
    unfold susB at h
    simp only [Bool.and_eq_true] at h
    exact dss_cons (suB_ok hn nd hsc hf h.1) (susB_ok hn nd hsc hf h.2)
theorem isC_read {t : T} {p : Pt} {it : I} {c f : T} {own : List Nat} (h : isC t = some (p, it, c, f, own)) : ∀ {σ : L2.St} {H : Hp} {Q : VK}, RD X.K S W (ev Φ t) σ H Q → RF X.K S W (ev Φ (.lc p it c f own)) σ H Q := by
  unfold isC at h
  split at h
  · cases h; exact fun z => fresh_read fresh_lc z
  · cases h; exact fun z => mk_read z
  · cases h
mutual
theorem chkS_ok : ∀ (s : CB.S) (st : Stmt), chkS G N sc s st = true → ∀ (X : Cx) (W : WX), SOk G N sc Φ k X S W → DS X S W st (ex Φ s)
  | .set i t, st, h, X, W, o => by
    unfold chkS at h
    split at h
    · rename_i x px e pos
      simp only [Bool.and_eq_true, Bool.or_eq_true, decide_eq_true_eq] at h
      obtain ⟨⟨⟨h1, h2⟩, h3⟩, h4⟩ := h
      have d := ((snd 60).e sc t e h3 X W o.toXOk).1
      rcases h4 with h4 | h4
      · exact ds_set (by rw [o.n]; exact o.nd) (by rw [o.n]; exact h1) (locB_ok h2 o.sc) d (sw_plain h4) (.inl (o.fn x))
      · split at h4
        · split at h4
          · rename_i p it c f own q
            simp only [Bool.and_eq_true, decide_eq_true_eq] at h4
            have L := (snd 59).l sc p it c f own _ _ _ _ _ h4.1 X W o.toXOk
            exact ds_setLc L (by rw [o.n]; exact h1) (by rw [o.sc]; exact h4.2) (.inl (o.fn x)) (isC_read q) d
          · cases h4
        · cases h4
    · cases h
  | .asg p t, st, h, X, W, o => by
    unfold chkS at h
    split at h
    · simp only [Bool.and_eq_true] at h
      obtain ⟨⟨⟨⟨h1, h2⟩, h3⟩, h4⟩, h5⟩ := h
      exact ds_asg ((snd 60).e sc t _ h2 X W o.toXOk).1 (chkP_ok o.n o.nd o.calm o.sc (fun x _ => o.fn x) h1) (sw_plain h3) (noSwap_ok h4 o.sc o.kd) (by rw [asg_cons h5]; rfl)
    · cases h
  | .par2 i j a b, st, h, X, W, o => by
    unfold chkS at h
    rw [Bool.and_eq_true] at h
    obtain ⟨h, g⟩ := h
    split at h
    · simp only [Bool.and_eq_true, decide_eq_true_eq] at h
      obtain ⟨⟨⟨⟨⟨⟨⟨⟨h1, h2⟩, h3⟩, h4⟩, h5⟩, h6⟩, h7⟩, h8⟩, h9⟩ := h
      dsimp only at g
      split at g
      · rename_i l q
        have hl := of_decide_eq_true g
        subst hl
        exact ds_par2 o.calm (by rw [o.n]; exact o.nd) (by rw [o.n]; exact h1) (by rw [o.n]; exact h2) h3 (by rw [o.sc]; exact h4) (by rw [o.sc]; exact h5) ((snd 60).e sc _ _ h6 X W o.toXOk).1 ((snd 60).e sc _ _ h7 X W o.toXOk).1 h8 h9 (swB_ok q o.sc o.kd)
      · cases g
    · cases h
  | .par3 i j l a b c, st, h, X, W, o => by
    unfold chkS at h
    rw [Bool.and_eq_true] at h
    obtain ⟨h, g⟩ := h
    split at h
    · simp only [Bool.and_eq_true, decide_eq_true_eq] at h
      obtain ⟨⟨⟨⟨⟨⟨⟨⟨⟨⟨⟨⟨⟨⟨h1, h2⟩, h3⟩, h4⟩, h5⟩, h6⟩, h7⟩, h8⟩, h9⟩, h10⟩, h11⟩, h12⟩, h13⟩, h14⟩, h15⟩ := h
      dsimp only at g
      split at g
      · rename_i l q
        have hl := of_decide_eq_true g
        subst hl
        exact ds_par3 o.calm (by rw [o.n]; exact o.nd) (by rw [o.n]; exact h1) (by rw [o.n]; exact h2) (by rw [o.n]; exact h3) h4 h5 h6 (by rw [o.sc]; exact h7) (by rw [o.sc]; exact h8) (by rw [o.sc]; exact h9) ((snd 60).e sc _ _ h10 X W o.toXOk).1 ((snd 60).e sc _ _ h11 X W o.toXOk).1 ((snd 60).e sc _ _ h12 X W o.toXOk).1 h13 h14 h15 (swB_ok q o.sc o.kd)
      · cases g
    · cases h
  | .put a i v, st, h, X, W, o => by
    unfold chkS at h
    split at h
    · simp only [Bool.and_eq_true] at h
      obtain ⟨⟨⟨⟨h1, h2⟩, h3⟩, h4⟩, h5⟩ := h
      exact ds_put o.u1 ((snd 60).e sc _ _ h1 X W o.toXOk).1 ((snd 60).e sc _ _ h2 X W o.toXOk).1 ((snd 60).e sc _ _ h3 X W o.toXOk).1 (sw_plain h4) rfl h5
    · cases h
  | .app a t, st, h, X, W, o => by
    unfold chkS at h
    split at h
    · simp only [Bool.and_eq_true, decide_eq_true_eq] at h
      obtain ⟨⟨⟨⟨⟨h1, h2⟩, h3⟩, h4⟩, h5⟩, h6⟩ := h
      exact ds_app h1 ((snd 60).e sc _ _ h2 X W o.toXOk).1 ((snd 60).e sc _ _ h3 X W o.toXOk).1 (base_ok h6) h4 h5
    · cases h
  | .expr t, st, h, X, W, o => by
    unfold chkS at h
    split at h
    · simp only [Bool.and_eq_true] at h
      exact ds_expr ((snd 60).e sc _ _ h.1 X W o.toXOk).1 (sw_plain h.2)
    · cases h
  | .ret t, st, h, X, W, o => by
    unfold chkS at h
    split at h
    · exact ds_ret ((snd 60).e sc _ _ h X W o.toXOk).1
    · cases h
  | .ite c a b, st, h, X, W, o => by
    unfold chkS at h
    split at h
    · simp only [Bool.and_eq_true] at h
      obtain ⟨⟨⟨h1, h2⟩, h3⟩, h4⟩ := h
      exact ds_ite (((snd 60).e sc _ _ h1 X W o.toXOk).2.1 h2) (chkSs_ok a _ h3 X W o) (chkSs_ok b _ h4 X W o)
    · cases h
  | .for_ p it body, st, h, X, W, o => by
    unfold chkS at h
    split at h
    · simp only [Bool.and_eq_true] at h
      obtain ⟨⟨⟨h1, h2⟩, h3⟩, h4⟩ := h
      exact ds_for o.own o.calm ((snd 60).i sc _ _ _ _ h1 X W o.toXOk) (chkP_ok o.n o.nd o.calm o.sc (fun x _ => o.fn x) h2) (chkSs_ok body _ h4 X W o) (set_ok h3)
    · cases h
  | .forK p i body, st, h, X, W, o => by
    unfold chkS at h
    split at h
    · simp only [Bool.and_eq_true] at h
      obtain ⟨⟨⟨h1, h2⟩, h3⟩, h4⟩ := h
      obtain ⟨x, pos, rfl, h5, h6, h7, h8⟩ := varOk_ok o.toXOk h1
      exact ds_forK o.own o.calm h5 h6 h7 h8 (chkP_ok o.n o.nd o.calm o.sc (fun x _ => o.fn x) h2) (chkSs_ok body _ h4 X W o) (set_ok h3)
    · cases h
  | .whl c body, st, h, X, W, o => by
    unfold chkS at h
    split at h
    · simp only [Bool.and_eq_true] at h
      obtain ⟨⟨h1, h2⟩, h3⟩ := h
      exact ds_whl o.own (((snd 60).e sc _ _ h1 X W o.toXOk).2.1 h2) (chkSs_ok body _ h3 X W o)
    · cases h
  | .raise c, st, h, X, W, o => by
    unfold chkS at h
    split at h
    · simp only [Bool.and_eq_true, decide_eq_true_eq] at h
      obtain ⟨⟨h1, h2⟩, h3⟩ := h
      obtain ⟨C, bmB, B, newId, initId, e1, e2, e3, e4, e5, e6⟩ := o.exh _ _ h1
      exact ds_raise o.calm o.tk e1 e2 e3 e4 e5 (glB_ok h2 o.sc) (dbgB_ok h3).1 e6
    · cases h
  | .try_ body c suite, st, h, X, W, o => by
    unfold chkS at h
    split at h
    · simp only [Bool.and_eq_true, decide_eq_true_eq] at h
      obtain ⟨⟨⟨⟨h1, h2⟩, h3⟩, h4⟩, h5⟩ := h
      obtain ⟨C, e3, e7⟩ := o.hdl _ _ h1
      exact ds_try o.stk o.frm ⟨glB_ok h2 o.sc, (dbgB_ok h3).1, .inl e3⟩ o.tk e7 (fun W' pn xe tk hp => chkSs_ok body _ h4 _ W' (o.tr tk hp)) fun a oe cls d pn _ _ => susB_ok (X := X.suite a ((a, oe) :: pn)) o.n o.nd o.sc o.fn h5
    · cases h
  | .cont, st, h, X, W, o => by
    unfold chkS at h
    split at h
    · exact ds_cont
    · cases h
theorem chkSs_ok : ∀ (s : Ss) (st : List Stmt), chkSs G N sc s st = true → ∀ (X : Cx) (W : WX), SOk G N sc Φ k X S W → DSs X S W st (exs Φ s)
  | .nil, st, h, X, W, o => by
    unfold chkSs at h
    cases st with
    | nil => exact dss_nil
    | cons _ _ => cases h
  | .cons s ss, st, h, X, W, o => by
    unfold chkSs at h
    split at h
    · simp only [Bool.and_eq_true] at h
      exact dss_cons (chkS_ok s _ h.1 X W o) (chkSs_ok ss _ h.2 X W o)
    · cases h
end
end
end CB
end
section
set_option maxHeartbeats 4000000
/-! CB27: defs. -/
namespace CB
open PySem PySem.Spec L2
open PyProof.Rows hiding St
/-! ### a frame's own cells are forgotten -/
def Wd.rw (w : Wd) (l : List Addr) : Wd := { w with ρ := l }
section
variable {K : PySem.W.Frag} {S : Sx} {w w' : Wd} {H H' : Hp} {M M' : Mem} {n : Nat} {l : List Addr}
mutual
theorem Rep.cut (hl : ∀ (i : Nat) (a : Addr), i < n → w.ρ[i]? = some a → l[i]? = some a) : ∀ {v : V} {d : D}, okB n d = true → Rep K S w H v d → Rep K S (w.rw l) H v d
  | _, _, _, .non => .non
  | _, _, _, .bl b => .bl b
  | _, _, _, .int i => .int i
  | _, _, _, .str i => .str i
  | _, _, e, .tup z h n r => .tup z h n (RepL.cut hl (by unfold okB at e; exact e) r)
  | _, _, e, .ktup h r => .ktup h (RepL.cut hl (by unfold okB at e; exact e) r)
  | _, _, e, .lst z h r => .lst z h (RepL.cut hl (by unfold okB at e; exact e) r)
  | _, _, e, .dct z h r => .dct z h (RepK.cut hl (by unfold okB at e; exact e) r)
  | _, _, _, .scr z h => .scr z h
  | _, _, _, .kscr h => .kscr h
  | _, _, e, .loc h => .loc (hl _ _ (by unfold okB at e; exact of_decide_eq_true e) h)
  | _, _, _, .fn h => .fn h
  | _, _, _, .key z h => .key z h
theorem RepL.cut (hl : ∀ (i : Nat) (a : Addr), i < n → w.ρ[i]? = some a → l[i]? = some a) : ∀ {v : List V} {d : List D}, okBs n d = true → RepL K S w H v d → RepL K S (w.rw l) H v d
  | _, _, _, .nil => .nil
  | _, _, e, .cons h r => by
    unfold okBs at e
    rw [Bool.and_eq_true] at e
    exact .cons (Rep.cut hl e.1 h) (RepL.cut hl e.2 r)
theorem RepK.cut (hl : ∀ (i : Nat) (a : Addr), i < n → w.ρ[i]? = some a → l[i]? = some a) : ∀ {v : List (List Key × V)} {d : List (List Int × D)}, okKs n d = true → RepK K S w H v d → RepK K S (w.rw l) H v d
  | _, _, _, .nil => .nil
  | _, _, e, .cons h r => by
    unfold okKs at e
    rw [Bool.and_eq_true] at e
    exact .cons (Rep.cut hl e.1 h) (RepK.cut hl e.2 r)
end
theorem MRep.cut (hl : ∀ (i : Nat) (a : Addr), i < n → w.ρ[i]? = Option.some a → l[i]? = Option.some a) {a : Addr} {o : MO} (e : okMO n o = true) (r : MRep K S w H a o) : MRep K S (w.rw l) H a o := by
  cases r with
  | lst h r => exact .lst h (r.cut hl (by unfold okMO at e; exact e))
  | dct h r => exact .dct h (r.cut hl (by unfold okMO at e; exact e))
  | dead => exact .dead
/-- cells picked: the i-th new one was the (f i)-th -/
theorem RelM.pick (m : RelM K S w H M) (hl : ∀ (i : Nat) (a : Addr), i < n → w.ρ[i]? = some a → l[i]? = some a) (f : Nat → Nat) (hlen : l.length = M'.length) (hf : ∀ i, i < M'.length → l[i]? = w.ρ[f i]? ∧ M'[i]? = M[f i]?) (hinj : ∀ i j, i < M'.length → j < M'.length → f i = f j → i = j)
    (hok : ∀ o, o ∈ M' → okMO n o = true) : RelM K S (w.rw l) H M' := by
  have hb : ∀ {i : Nat} {o : MO}, M'[i]? = some o → i < M'.length := fun h => (List.getElem?_eq_some_iff.mp h).1
  refine ⟨hlen, fun i o a h1 h2 => ?_, fun i j o u a h1 h2 l1 l2 h3 h4 => ?_, fun i o a h1 l' h2 => ?_, m.zed, m.zp, m.prl⟩
  · have q := hf i (hb h1)
    have h2 : l[i]? = some a := h2
    exact (m.obj (f i) o a (q.2 ▸ h1) (q.1 ▸ h2)).cut hl (hok o (List.mem_of_getElem? h1))
  · have q1 := hf i (hb h1)
    have q2 := hf j (hb h2)
    have h3 : l[i]? = some a := h3
    have h4 : l[j]? = some a := h4
    exact hinj i j (hb h1) (hb h2) (m.inj (f i) (f j) o u a (q1.2 ▸ h1) (q2.2 ▸ h2) l1 l2 (q1.1 ▸ h3) (q2.1 ▸ h4))
  · have q := hf i (hb h1)
    have h2 : l[i]? = some a := h2
    exact m.sep (f i) o a (q.2 ▸ h1) l' (q.1 ▸ h2)
theorem RelM.take (m : RelM K S w H M) (hn : n ≤ M.length) (hok : (M.take n).all (okMO n) = true) : RelM K S (w.rw (w.ρ.take n)) H (M.take n) := by
  have hlen : (M.take n).length = n := by rw [List.length_take]; omega
  refine m.pick (n := n) (fun i a hi h => by rw [List.getElem?_take_of_lt hi]; exact h) id (by rw [List.length_take, List.length_take, m.len]) (fun i hi => ?_) (fun i j _ _ h => h) fun o ho => List.all_eq_true.mp hok o ho
  rw [hlen] at hi
  exact ⟨List.getElem?_take_of_lt hi, List.getElem?_take_of_lt hi⟩
theorem Evo.cut (e : Evo w H w' H') (hn : w.ρ.length = n) : Evo w H (w'.rw (w'.ρ.take n)) H' := by
  refine ⟨fun i a h => ?_, e.Z, e.H, e.pr⟩
  have hi : i < n := by rw [← hn]; exact (List.getElem?_eq_some_iff.mp h).1
  show (w'.ρ.take n)[i]? = _
  rw [List.getElem?_take_of_lt hi]
  exact e.ρ i a h
theorem fin_ret {W : WX} {σ : L2.St} {Q : VK} {v : V} {d : D} (p : Post K S W σ (Rep K S) w H Q (finD n d M)) (hn : w.ρ.length = n) (e : Evo w H w' H') (m : RelM K S w' H' M) (r : Rep K S w' H' v d) : Q v H' := by
  unfold finD at p
  split at p
  · exact p w' H' v e m r
  · obtain ⟨⟨hle, hok⟩, p⟩ := post_ite p
    have hl : ∀ (i : Nat) (a : Addr), i < n → w'.ρ[i]? = some a → (w'.ρ.take n)[i]? = some a := fun i a hi h => by rw [List.getElem?_take_of_lt hi]; exact h
    have other : okB n d = true → Post K S W σ (Rep K S) w H Q (.ok d (M.take n)) → Q v H' := fun hb p => p _ H' v (e.cut hn) (m.take hle hok) (r.cut (n := n) hl hb)
    cases d with
    | loc j =>
      dsimp only at p
      by_cases hj : j < n
      · rw [if_pos hj] at p
        exact p _ H' v (e.cut hn) (m.take hle hok) (r.cut (n := n) hl (by unfold okB; exact decide_eq_true hj))
      · rw [if_neg hj] at p
        cases hM : M[j]? with
        | none => rw [hM] at p; exact p.elim
        | some o =>
          rw [hM] at p
          cases o with
          | dct _ => exact p.elim
          | dead => exact p.elim
          | lst l =>
            obtain ⟨hb, p⟩ := post_ite p
            obtain ⟨a, rfl, h1, h2⟩ := m.loc hM r
            have hlen : (M.take n).length = n := by rw [List.length_take]; omega
            have hlr : (w'.ρ.take n).length = n := by rw [List.length_take, m.len]; omega
            have hl2 : ∀ (i : Nat) (a' : Addr), i < n → w'.ρ[i]? = some a' → (w'.ρ.take n ++ [a])[i]? = some a' := fun i a' hi h => by
              rw [List.getElem?_append_left (by omega)]; exact hl i a' hi h
            have m2 : RelM K S (w'.rw (w'.ρ.take n ++ [a])) H' (M.take n ++ [.lst l]) := by
              refine m.pick (n := n) hl2 (fun i => if i < n then i else j) (by simp [hlen, hlr]) (fun i hi => ?_) (fun i i' hi hi' h => ?_) fun o ho => ?_
              · have hi : i < n + 1 := by simpa [hlen] using hi
                by_cases c : i < n
                · simp only [if_pos c]
                  rw [List.getElem?_append_left (by omega), List.getElem?_append_left (by omega), List.getElem?_take_of_lt c, List.getElem?_take_of_lt c]
                  exact ⟨rfl, rfl⟩
                · have ei : i = n := by omega
                  subst ei
                  simp only [if_neg c]
                  rw [List.getElem?_append_right (by omega), List.getElem?_append_right (by omega), hlen, hlr]
                  simp [h1, hM]
              · have hi : i < n + 1 := by simpa [hlen] using hi
                have hi' : i' < n + 1 := by simpa [hlen] using hi'
                by_cases c : i < n <;> by_cases c' : i' < n <;> simp [c, c'] at h <;> omega
              · rcases List.mem_append.mp ho with ho | ho
                · exact List.all_eq_true.mp hok o ho
                · have : o = .lst l := by simpa using ho
                  subst this
                  unfold okMO; exact hb
            have e2 : Evo w H (w'.rw (w'.ρ.take n ++ [a])) H' := by
              refine ⟨fun i b h => ?_, e.Z, e.H, e.pr⟩
              have hi : i < n := by rw [← hn]; exact (List.getElem?_eq_some_iff.mp h).1
              exact hl2 i b hi (e.ρ i b h)
            refine p _ H' (.ref a) e2 m2 (.loc ?_)
            show (w'.ρ.take n ++ [a])[n]? = some a
            rw [List.getElem?_append_right (by omega), hlr]; simp
    | _ =>
      obtain ⟨hb, p⟩ := post_ite p
      exact other hb p
theorem fin_exc {W : WX} {σ : L2.St} {Q : VK} {x : Ex} {δ : Env} {cls : Value} {dd : Option Addr} (p : Post K S W σ (Rep K S) w H Q (fin n (.exc x δ M))) (hn : w.ρ.length = n) (e : Evo w H w' H') (m : RelM K S w' H' M) (hx : S.xc x cls dd H') : W cls dd σ H' := by
  unfold fin at p
  dsimp only at p
  unfold cutM at p
  split at p
  · rename_i M' q
    split at q
    · cases q; exact p w' H' cls dd e m hx
    · split at q
      · rename_i c
        cases q
        exact p _ H' cls dd (e.cut hn) (m.take c.1 c.2) hx
      · cases q
  · exact p.elim
end
/-! ### levels -/
structure DefI where
  name : Str
  N : List Str
  np : Nat
  body : Ss
  st : Stmt
def DefI.fd (d : DefI) : Fd := ⟨d.np, d.N.length, d.body⟩
abbrev DefI.ps (d : DefI) : List Str := d.N.take d.np
/-- a def as it stands in the written part -/
structure DefAt (K : PySem.W.Frag) (mg : Str → Option Value) (d : DefI) (f : Addr) (fd : FuncData) : Prop where
  fn : Fun K d.name d.name d.st f fd
  binds : L2.Binds K fd d.ps []
  mg : mg d.name = some (.ref f)
structure DefC (G : Gx) (d : DefI) : Prop where
  sc : FnScope d.N d.ps (defScope d.st)
  chk : chkSs G d.N (defScope d.st) d.body (defBody d.st) = true
  np : d.np ≤ d.N.length
section
variable {G : Gx} {P : Program} {wd : World} {K : PySem.W.Frag} {mg : Str → Option Value} {base : Heap} {S : Sx}
theorem start_rel {w : Wd} {H : Hp} {N : List Str} {vs : List V} {ds : List D} (r : RepL K S w H vs ds) (hl : vs.length ≤ N.length) : RelE K S w H (L2.start N vs) (ds.map some ++ List.replicate (N.length - vs.length) none) := by
  have hlen := r.length
  refine ⟨by unfold L2.start; simp [hlen], fun i d h => ?_⟩
  unfold L2.start
  by_cases hi : i < ds.length
  · rw [List.getElem?_append_left (by simpa using hi), List.getElem?_map] at h
    rw [List.getElem?_append_left (by simpa [hlen] using hi), List.getElem?_map]
    cases q : ds[i]? with
    | none => rw [q] at h; cases h
    | some d' =>
      rw [q] at h
      cases h
      obtain ⟨v, h1, h2⟩ := r.get q
      exact ⟨v, by rw [h1]; rfl, h2⟩
  · rw [List.getElem?_append_right (by simpa using hi)] at h
    rw [List.getElem?_replicate] at h
    split at h <;> cases h
theorem levels (tb : List Fd) (DT : Nat → Option DefI) (hT : ∀ (j : Nat) (d : DefI), DT j = some d → tb[j]? = some d.fd) (hC : ∀ (j : Nat) (d : DefI), DT j = some d → DefC G d) (hA : ∀ (j : Nat) (d : DefI), DT j = some d → ∃ f fd, DefAt K mg d f fd) (hG : ∀ (x : Str) (j : Nat), G.fns.lookup x = some j → ∃ d : DefI, DT j = some d ∧ d.name = x)
    (hcst : ∀ x d, G.cst.lookup x = some d → ∃ v u, mg x = some u ∧ RelV v u ∧ ∀ w H, Rep K S w H v d) (hblt : ∀ x, x ∈ bltNames → mg x = none)
    (hexc : ∀ x c, G.exs.lookup x = some c → ∀ X : Cx, X.K = K → X.mg = mg → ExOk X S x c) (hhd : ∀ x c, G.hds.lookup x = some c → ∀ X : Cx, X.K = K → X.mg = mg → HdOk X S x c) : ∀ (k j : Nat) (d : DefI), DT j = some d → ∀ f fd, DefAt K mg d f fd → FnOk P wd K mg base (L2.CX P wd) k f fd d.ps (spF K S (callF tb k j)) := by
  intro k
  induction k with
  | zero =>
    intro j d hd f fd A
    refine ⟨fun vs H Q E h => ?_, fun A' outer s H args us vs Q E hr he hb hv h => ?_⟩
    · obtain ⟨w, M, ds, m, r, p⟩ := h
      unfold callF at p
      exact p.elim
    · obtain ⟨w, M, ds, m, r, p⟩ := h
      unfold callF at p
      exact p.elim
  | succ k ih =>
    intro j d hd f fd A
    have hC' := hC j d hd
    have hnp : d.ps.length = d.np := by show (d.N.take d.np).length = _; rw [List.length_take]; have := hC'.np; omega
    have htb : tb[j]? = some d.fd := hT j d hd
    have len : ∀ vs H Q E, spF K S (callF tb (k + 1) j) vs H Q E → vs.length = d.ps.length := fun vs H Q E h => by
      obtain ⟨w, M, ds, m, r, p⟩ := h
      unfold callF at p
      rw [htb] at p
      obtain ⟨hl, _⟩ := post_ite p
      rw [r.length, hl, hnp]; rfl
    refine A.fn.okX hC'.sc len fun cdv A' outer s H vs Q E hr h => ?_
    obtain ⟨w, M, ds, m, r, p⟩ := id h
    refine ⟨RS K S (fun cls d _ H => E cls d H) (exs (callF tb k) d.body), ?_, ?_⟩
    · refine chkSs_ok (G := G) (N := d.N) (sc := defScope d.st) (k := k) d.body _ hC'.chk _ _ { n := rfl, nd := hC'.sc.nd, sc := rfl, calm := rfl, room := hr, tk := takes_of rfl rfl rfl rfl, fns := fun x f hx => ?_, cst := hcst, blt := hblt, own := passes_of rfl, fn := fun _ => rfl, stk := rfl, frm := rfl, knd := hC'.sc.kind, exh := fun x c hx => hexc x c hx _ rfl rfl, hdl := fun x c hx => hhd x c hx _ rfl rfl }
      obtain ⟨d', h1, h2⟩ := hG x f hx
      obtain ⟨f', fd', A2⟩ := hA f d' h1
      subst h2
      exact ⟨f', fd', d'.ps, ih f d' h1 f' fd' A2, A2.mg, A2.fn.kp, A2.binds⟩
    · unfold callF at p
      rw [htb] at p
      obtain ⟨hl, p⟩ := post_ite p
      have hvl : vs.length = d.np := by rw [r.length, hl]; rfl
      have hwn : w.ρ.length = M.length := m.len
      refine ⟨w, ds.map some ++ List.replicate (d.N.length - vs.length) none, M, m, start_rel r (by rw [hvl]; exact hC'.np), ?_⟩
      have p : Post K S (fun c d _ H => E c d H) [] (Rep K S) w H Q (fin M.length (exs (callF tb k) d.body (ds.map some ++ List.replicate (d.N.length - d.np) none) M)) := p
      rw [hvl]
      cases q : exs (callF tb k) d.body (ds.map some ++ List.replicate (d.N.length - d.np) none) M with
      | nx δ M1 => rw [q] at p; exact fun w' H' σ' e' m' r' => fin_ret p hwn e' m' .non
      | ret v M1 => rw [q] at p; exact fun w' H' u e' m' r' => fin_ret p hwn e' m' r'
      | ct δ M1 => rw [q] at p; exact p.elim
      | stuck => rw [q] at p; exact p.elim
      | exc x δ M1 => rw [q] at p; exact fun w' H' σ' cls dd e' m' r' hx => fin_exc p hwn e' m' hx
end
end CB
end
section
set_option maxHeartbeats 4000000
/-! CB28: the end. -/
namespace CB
open PySem PySem.Spec L2
open PyProof.Rows hiding St
theorem byFirst {P Q : Prop} (p : P) (k : P → Q) : Q := k p
section
variable {K : PySem.W.Frag} {mg : Str → Option Value} {h : Heap}
theorem at_of {d : DefI} {f : Addr} {oc : Value} {od an : Option Addr} {sl : Array (Option Value)} {kV dc pm cd ct : Value} (X : K.In h) (G : h.Ns mainGlobals mg) (a : PySem.W.nsIn K mainGlobals d.name = some (some (.ref f)))
    (l : K.lookup f = some ⟨oc, od, .func (PySem.W.fnOf d.name d.name (defArgs d.st) (defBody d.st) (defScope d.st) .none kV dc pm an cd ct), sl⟩) (c : PySem.W.codeIn K cd d.name = true) (k : PySem.W.keepIn K (.ref f) = true)
    (hb : ∀ (kV doc pm : Value) (an : Option Addr) (cdv ct : Value) (us : List Value), us.length = d.ps.length → bindArgs (PySem.W.fnOf d.name d.name (defArgs d.st) (defBody d.st) (defScope d.st) .none kV doc pm an cdv ct) ⟨us, []⟩ = pure (d.ps.zip us)) : ∃ f fd, DefAt K mg d f fd := by
  have F := fun_mk (st := d.st) l c k
  exact ⟨f, _, F, F.binds hb, PySem.W.mg_of X G a⟩
theorem cst_int {x : Str} {i : Int} {t : Tok} (X : K.In h) (G : h.Ns mainGlobals mg) (a : PySem.W.nsIn K mainGlobals x = some (some (.int i t))) : ∀ S : Sx, ∃ v u, mg x = some u ∧ RelV v u ∧ ∀ w H, Rep K S w H v (.int i) :=
  fun S => ⟨.int i, _, PySem.W.mg_of X G a, ⟨t, rfl⟩, fun _ _ => .int i⟩
theorem cst_str2 {x y z : Str} {t1 t2 : Tok} {p : Addr} {n : Nat} {sl : Array (Option Value)} (X : K.In h) (G : h.Ns mainGlobals mg) (a : PySem.W.nsIn K mainGlobals x = some (some (.ref p))) (l : K.lookup p = some ⟨.type "tuple", none, .seq #[.str y t1, .str z t2] n, sl⟩) :
    ∀ S : Sx, ∃ v u, mg x = some u ∧ RelV v u ∧ ∀ w H, Rep K S w H v (.tup [.str y, .str z]) :=
  fun S => ⟨.ref p, _, PySem.W.mg_of X G a, rfl, fun _ _ => .ktup ⟨_, _, n, l, rfl, rfl, rfl, by show 2 ≤ sizeLine; rw [sizeLine_eq]; omega, .cons (show RelV (.str y) (.str y t1) from ⟨t1, rfl⟩) (.cons (show RelV (.str z) (.str z t2) from ⟨t2, rfl⟩) .nil)⟩ (.cons (.str _) (.cons (.str _) .nil))⟩
/-- the classes of the errors, by number -/
def SxOf (K : PySem.W.Frag) (cs : List Str) : Sx := ⟨fun _ _ => False, fun x cls dd _ => ∃ C n, cs[x.cls]? = some n ∧ PySem.W.nsIn K mainGlobals n = some (some (.ref C)) ∧ cls = .ref C ∧ dd = none ∧ x.arg = none⟩
theorem exc_of {x : Str} {C : Addr} {bmB : List Value} {B newId initId : String} (X : K.In h) (G : h.Ns mainGlobals mg) (Fx : ExcBaseFacts B newId initId bmB) (a : PySem.W.nsIn K mainGlobals x = some (some (.ref C))) (q : PySem.W.excIn K C bmB newId = true)
    (k : PySem.W.keepIn K (.ref C) = true) (h1 : PySem.W.subIn K (.ref C) (.type "BaseException") = some true) (h2 : PySem.W.typeIn K (.ref C) = some (.type "type")) : ∀ (cs : List Str) (c : Nat), cs[c]? = some x → ∀ Y : Cx, Y.K = K → Y.mg = mg → ExOk Y (SxOf K cs) x c := by
  intro cs c hc Y e1 e2
  subst e1 e2
  exact ⟨C, bmB, B, newId, initId, Fx, q, PySem.W.mg_of X G a, k, raises_own h1 h2, fun H => ⟨C, x, hc, a, rfl, rfl, rfl⟩⟩
/-- a law of one script, from what its text computes -/
theorem law_sp {k j : Nat} {tb : List Fd} {ns : List Int} {M : Mem} {S : Sx} {H : Hp} {a : Addr} (hS : SqL K H a (ns.map V.int)) (hl : callF tb k j [.scr ns] [] = .ok (.bl true) M) : spF K S (callF tb k j) [.ref a] H (fun v _ => v = .bl true) fun _ _ _ => False := by
  have go : ∀ w : Wd, w.ρ = [] → (∀ a, ¬ w.pr a) → (∀ a, w.Z a → H a ≠ none) → Rep K S w H (.ref a) (.scr ns) → spF K S (callF tb k j) [.ref a] H (fun v _ => v = .bl true) fun _ _ _ => False := fun w h1 h2 h3 r => by
    refine ⟨w, [], [.scr ns], ⟨by rw [h1]; rfl, fun i o b q => by simp at q, fun i j o u b q => by simp at q, fun i o b q => by simp at q, fun b q => q.elim (h3 b) fun q => absurd q (h2 b), fun b _ => h2 b, fun b q => absurd q (h2 b)⟩, .cons r .nil, ?_⟩
    rw [hl]
    exact fun w' H' v e m r => r.bl_inv
  rcases hS with hS | hS
  · refine go ⟨[], fun b => b = a, fun _ => False⟩ rfl (fun _ h => h) (fun b e => ?_) (.scr rfl hS)
    have e : b = a := e
    subst e
    rcases hS with hS | ⟨o, hS⟩ <;> (rw [hS]; simp)
  · exact go ⟨[], fun _ => False, fun _ => False⟩ rfl (fun _ h => h) (fun b e => e.elim) (.kscr fun H' => .inr hS)
end
end CB
end
section
/-! CBG: the text of all defs that the laws reach, by gen.py. -/
namespace CB
open PySem
abbrev j_law_k01 : Nat := 0
abbrev j__law_bent : Nat := 1
abbrev j__law_deeds : Nat := 2
abbrev j__law_fair : Nat := 3
abbrev j__law_is_fair : Nat := 4
abbrev j__law_is_lot : Nat := 5
abbrev j__law_lot : Nat := 6
abbrev j__law_source : Nat := 7
abbrev j__law_stranded : Nat := 8
abbrev j_deeds : Nat := 9
abbrev j_is_fair : Nat := 10
abbrev j_is_lot : Nat := 11
abbrev j_stranded : Nat := 12
abbrev j__law_choice : Nat := 13
abbrev j__law_draw : Nat := 14
abbrev j__law_stand : Nat := 15
abbrev j__law_from : Nat := 16
abbrev j__law_is_stand : Nat := 17
abbrev j__law_is_thing : Nat := 18
abbrev j__law_tuple : Nat := 19
abbrev j__law_done : Nat := 20
abbrev j_every_deed : Nat := 21
abbrev j_need_fair : Nat := 22
abbrev j_is_shop : Nat := 23
abbrev j_is_stand : Nat := 24
abbrev j_is_tuple : Nat := 25
abbrev j_has_lot : Nat := 26
abbrev j_is_from : Nat := 27
abbrev j_is_sort : Nat := 28
abbrev j_is_thing : Nat := 29
abbrev j_law_k03 : Nat := 30
abbrev j__law_arcs : Nat := 31
abbrev j__law_costs : Nat := 32
abbrev j__law_fewest : Nat := 33
abbrev j__law_led : Nat := 34
abbrev j_is_sound : Nat := 35
abbrev j_pump : Nat := 36
abbrev j__law_free : Nat := 37
abbrev j__law_step : Nat := 38
abbrev j_edges_of : Nat := 39
abbrev j_ways_of : Nat := 40
abbrev j_fewest_pump : Nat := 41
abbrev j_in_turn : Nat := 42
abbrev j_chip_node : Nat := 43
abbrev j_cup_node : Nat := 44
abbrev j_longer : Nat := 45
abbrev j_thrown : Nat := 46
abbrev j_law_k04 : Nat := 47
abbrev j__law_back : Nat := 48
abbrev j__law_pumped : Nat := 49
abbrev j__law_row : Nat := 50
abbrev j_is_row : Nat := 51
abbrev j_money : Nat := 52
abbrev j_has_row : Nat := 53
abbrev j_need_lot : Nat := 54
abbrev j_led : Nat := 55
abbrev j_need_row : Nat := 56
abbrev j_done : Nat := 57
abbrev j_is_deed : Nat := 58
abbrev j_parts_of : Nat := 59
abbrev j_without : Nat := 60
abbrev j_law_k05 : Nat := 61
abbrev j__law_right : Nat := 62
abbrev j_price_tags : Nat := 63
abbrev j__law_price : Nat := 64
abbrev j_law_k06 : Nat := 65
abbrev j__law_due : Nat := 66
abbrev j__law_unsound : Nat := 67
abbrev j_cost : Nat := 68
abbrev j__law_cost : Nat := 69
abbrev j_cost_by : Nat := 70
abbrev j_need_three : Nat := 71
abbrev j_sound_ways : Nat := 72
abbrev j_best_way : Nat := 73
abbrev j_ends_of : Nat := 74
abbrev j_matched : Nat := 75
abbrev j_both : Nat := 76
abbrev j_cheaper : Nat := 77
abbrev j_law_k07 : Nat := 78
abbrev j__law_comes : Nat := 79
abbrev j_cheap_row : Nat := 80
abbrev j_law_k08 : Nat := 81
abbrev j__law_joined : Nat := 82
abbrev j__law_some : Nat := 83
abbrev j_things_behind : Nat := 84
abbrev j_law_k09 : Nat := 85
abbrev j__law_right_v2 : Nat := 86
abbrev j__law_told : Nat := 87
abbrev j__law_sound_with : Nat := 88
abbrev j_least_deposit : Nat := 89
abbrev j_edges_without : Nat := 90
abbrev j_need_stand : Nat := 91
abbrev j_law_k10 : Nat := 92
abbrev j__law_right_v3 : Nat := 93
abbrev j__law_told_v2 : Nat := 94
abbrev j__law_sound_with_v2 : Nat := 95
abbrev j_greatest_refund : Nat := 96
abbrev j_least_of : Nat := 97
abbrev j_law_k11 : Nat := 98
abbrev j__law_drain : Nat := 99
abbrev j__law_row_so : Nat := 100
abbrev j__law_told_v3 : Nat := 101
abbrev j_drain : Nat := 102
abbrev j_law_k12 : Nat := 103
abbrev j__law_least : Nat := 104
abbrev j_least_stands : Nat := 105
abbrev j__law_lots : Nat := 106
abbrev j__law_mended : Nat := 107
abbrev j_is_mended : Nat := 108
abbrev j_is_give : Nat := 109
abbrev j_law_k13 : Nat := 110
abbrev j__law_other : Nat := 111
abbrev j__law_parting : Nat := 112
abbrev j_alike : Nat := 113
abbrev j_parting : Nat := 114
abbrev j__law_pairs : Nat := 115
abbrev j_first_parting : Nat := 116
abbrev j_every_pair : Nat := 117
abbrev j_law_k14 : Nat := 118
abbrev j_idle_stands : Nat := 119
abbrev x_InvalidFair : Nat := 0
abbrev x_InvalidThings : Nat := 1
abbrev x_InvalidRow : Nat := 2
abbrev x_InvalidDeed : Nat := 3
abbrev x_InvalidNumber : Nat := 4
abbrev x_InvalidText : Nat := 5
abbrev x_Unsound : Nat := 6
def B_law_k01 : Ss := (.cons (.for_ (.nm 1) (.rng (.op2 .add (.con (.int 1)) (.b .min2 (.cons (.b .len (.cons (.var 0) .nil)) (.cons (.con (.int 10)) .nil))))) (.cons (.set 2 (.call j__law_source (.cons (.var 0) (.cons (.var 1) .nil)))) (.cons (.par2 3 4 (.call j__law_fair (.cons (.var 2) (.cons (.con (.int 4)) .nil))) (.call j__law_lot (.cons (.var 2) (.cons (.con (.int 2)) .nil)))) (.cons (.ite (.or (.cmp .ne (.call j_deeds (.cons (.var 3) .nil)) (.call j__law_deeds (.cons (.var 3) .nil))) (.cmp .ne (.call j_stranded (.cons (.var 3) .nil)) (.call j__law_stranded (.cons (.var 3) .nil)))) (.cons (.ret (.con (.bl false))) .nil) .nil) (.cons (.par2 5 6 (.var 3) (.var 4)) (.cons (.for_ (.nm 7) (.rng (.con (.int 13))) (.cons (.set 8 (.lst (.cons (.call j_is_fair (.cons (.var 5) .nil)) (.cons (.call j_is_lot (.cons (.var 6) .nil)) .nil)))) (.cons (.ite (.cmp .ne (.lc (.nm 15) (.seq (.var 8)) (.not (.isi (.var 15) .bool)) (.var 15) [15]) (.lst .nil)) (.cons (.ret (.con (.bl false))) .nil) .nil) (.cons (.ite (.cmp .ne (.var 8) (.lst (.cons (.call j__law_is_fair (.cons (.var 5) .nil)) (.cons (.call j__law_is_lot (.cons (.var 6) .nil)) .nil)))) (.cons (.ret (.con (.bl false))) .nil) .nil) (.cons (.set 5 (.call j__law_bent (.cons (.var 2) (.cons (.ite (.cmp .eq (.op2 .mod (.var 7) (.con (.int 3))) (.con (.int 0))) (.var 3) (.var 5)) .nil)))) (.cons (.set 6 (.call j__law_bent (.cons (.var 2) (.cons (.ite (.cmp .eq (.op2 .mod (.var 7) (.con (.int 2))) (.con (.int 0))) (.tup (.cons (.tup (.cons (.con (.str "chip")) (.cons (.con (.int 1)) .nil))) (.cons (.tup (.cons (.con (.str "cup")) (.cons (.con (.int 1)) .nil))) .nil))) (.var 6)) .nil)))) .nil)))))) (.cons (.ite (.or (.cmp .isnot (.call j_is_fair (.cons (.b .list (.cons (.var 3) .nil)) .nil)) (.con (.bl false))) (.cmp .isnot (.call j_is_lot (.cons (.b .list (.cons (.var 4) .nil)) .nil)) (.con (.bl false)))) (.cons (.ret (.con (.bl false))) .nil) .nil) .nil))))))) (.cons (.set 9 (.tup (.cons (.con (.int 2)) (.cons (.con (.int 0)) (.cons (.con .non) (.cons (.tup (.cons (.con (.int 0)) (.cons (.con (.int 2)) .nil))) (.cons (.con (.int 1)) (.cons (.con (.int 9)) .nil)))))))) (.cons (.set 10 (.lst (.cons (.tup (.cons (.tup (.cons (.var 9) .nil)) (.cons (.tup .nil) .nil))) (.cons (.tup (.cons (.op2 .mul (.tup (.cons (.var 9) .nil)) (.con (.int 4))) (.cons (.op2 .mul (.tup (.cons (.tup (.cons (.con (.str "cup")) (.cons (.con (.int 2)) (.cons (.con (.int 0)) .nil)))) .nil)) (.con (.int 3))) .nil))) (.cons (.tup (.cons (.op2 .mul (.tup (.cons (.var 9) .nil)) (.con (.int 5))) (.cons (.tup .nil) .nil))) (.cons (.tup (.cons (.tup .nil) (.cons (.tup .nil) .nil))) (.cons (.tup (.cons (.tup (.cons (.var 9) .nil)) (.cons (.tup (.cons (.tup (.cons (.con (.str "cup")) (.cons (.con (.int 0)) .nil))) .nil)) .nil))) .nil))))))) (.cons (.set 10 (.op2 .add (.var 10) (.lst (.cons (.tup (.cons (.tup (.cons (.op2 .add (.slc (.var 9) .no (.yes (.con (.int 4)))) (.tup (.cons (.con (.int 3)) (.cons (.con (.int 9)) .nil)))) .nil)) (.cons (.tup .nil) .nil))) (.cons (.tup (.cons (.tup (.cons (.op2 .add (.slc (.var 9) .no (.yes (.con (.int 3)))) (.tup (.cons (.tup (.cons (.con (.int 2)) (.cons (.con (.int 0)) .nil))) (.cons (.con (.int 1)) (.cons (.con (.int 9)) .nil))))) .nil)) (.cons (.tup .nil) .nil))) (.cons (.tup (.cons (.tup (.cons (.op2 .add (.tup (.cons (.con (.int 10)) .nil)) (.slc (.var 9) (.yes (.con (.int 1))) .no)) .nil)) (.cons (.tup .nil) .nil))) .nil)))))) (.cons (.ite (.cmp .ne (.lc (.nm 14) (.seq (.var 10)) (.con (.bl true)) (.call j_is_fair (.cons (.var 14) .nil)) [14]) (.op2 .add (.lst (.cons (.con (.bl true)) (.cons (.con (.bl true)) .nil))) (.op2 .mul (.lst (.cons (.con (.bl false)) .nil)) (.con (.int 6))))) (.cons (.ret (.con (.bl false))) .nil) .nil) (.cons (.set 11 (.lst (.cons (.tup .nil) (.cons (.tup (.cons (.tup (.cons (.con (.str "cup")) (.cons (.con (.int 1)) .nil))) (.cons (.tup (.cons (.con (.str "cup")) (.cons (.con (.int 1)) .nil))) .nil))) (.cons (.tup (.cons (.tup (.cons (.con (.str "chip")) (.cons (.con (.int 2)) .nil))) (.cons (.tup (.cons (.con (.str "cup")) (.cons (.con (.int 0)) .nil))) .nil))) (.cons (.tup (.cons (.tup (.cons (.con (.str "cup")) (.cons (.con (.int 0)) .nil))) (.cons (.tup (.cons (.con (.str "chip")) (.cons (.con (.int 2)) .nil))) .nil))) (.cons (.op2 .mul (.tup (.cons (.tup (.cons (.con (.str "cup")) (.cons (.con (.int 0)) .nil))) .nil)) (.con (.int 3))) .nil))))))) (.cons (.ite (.cmp .ne (.lc (.nm 14) (.seq (.var 11)) (.con (.bl true)) (.call j_is_lot (.cons (.var 14) .nil)) [14]) (.lst (.cons (.con (.bl true)) (.cons (.con (.bl true)) (.cons (.con (.bl true)) (.cons (.con (.bl false)) (.cons (.con (.bl false)) .nil))))))) (.cons (.ret (.con (.bl false))) .nil) .nil) (.cons (.set 12 (.tup (.cons (.tup (.cons (.con (.int 3)) (.cons (.con (.int 0)) (.cons (.con (.int 0)) (.cons (.tup .nil) (.cons (.con .non) (.cons (.con (.int 3)) .nil))))))) (.cons (.tup (.cons (.con (.int 1)) (.cons (.con (.int 1)) (.cons (.con .non) (.cons (.tup (.cons (.con (.int 0)) .nil)) (.cons (.con .non) (.cons (.con (.int 1)) .nil))))))) .nil)))) (.cons (.set 13 (.lst (.cons (.tup (.cons (.con (.str "buy")) (.cons (.con (.int 0)) .nil))) (.cons (.tup (.cons (.con (.str "give")) (.cons (.con (.int 1)) (.cons (.con (.int 0)) .nil)))) (.cons (.tup (.cons (.con (.str "take")) (.cons (.con (.int 0)) .nil))) (.cons (.tup (.cons (.con (.str "take")) (.cons (.con (.int 1)) .nil))) .nil)))))) (.cons (.ret (.and (.cmp .eq (.call j_stranded (.cons (.tup (.cons (.var 12) (.cons (.tup .nil) .nil))) .nil)) (.lst (.cons (.con (.int 1)) .nil))) (.cmp .eq (.call j_deeds (.cons (.tup (.cons (.var 12) (.cons (.tup (.cons (.tup (.cons (.con (.str "cup")) (.cons (.con (.int 0)) (.cons (.con (.int 1)) .nil)))) .nil)) .nil))) .nil)) (.var 13)))) .nil))))))))))
abbrev N_law_k01 : List Str := ["script", "k", "source", "fair", "lot", "one", "two", "turn", "told", "good", "rows", "lots", "chips", "due", "row", "word"]
def F_law_k01 : Fd := ⟨1, 16, B_law_k01⟩
def B__law_bent : Ss := (.cons (.set 2 (.call j__law_draw (.cons (.var 0) (.cons (.con (.int 7)) .nil)))) (.cons (.ite (.and (.isi (.var 1) .tuple) (.and (.cmp .ne (.var 1) (.tup .nil)) (.cmp .gt (.var 2) (.con (.int 0))))) (.cons (.set 3 (.call j__law_draw (.cons (.var 0) (.cons (.b .len (.cons (.var 1) .nil)) .nil)))) (.cons (.ite (.cmp .eq (.var 2) (.con (.int 1))) (.cons (.ret (.op2 .add (.slc (.var 1) .no (.yes (.var 3))) (.slc (.var 1) (.yes (.op2 .add (.var 3) (.con (.int 1)))) .no))) .nil) .nil) (.cons (.ite (.cmp .eq (.var 2) (.con (.int 2))) (.cons (.ret (.op2 .add (.slc (.var 1) .no (.yes (.op2 .add (.var 3) (.con (.int 1))))) (.slc (.var 1) (.yes (.var 3)) .no))) .nil) .nil) (.cons (.ret (.op2 .add (.op2 .add (.slc (.var 1) .no (.yes (.var 3))) (.tup (.cons (.call j__law_bent (.cons (.var 0) (.cons (.op2 .ix (.var 1) (.var 3)) .nil))) .nil))) (.slc (.var 1) (.yes (.op2 .add (.var 3) (.con (.int 1)))) .no))) .nil)))) .nil) (.cons (.set 4 (.lst (.cons (.con .non) (.cons (.con (.bl true)) (.cons (.con (.bl false)) (.cons (.con (.int 0)) (.cons (.con (.int 1)) (.cons (.con (.int 2)) (.cons (.con (.int 3)) (.cons (.con (.int 9)) (.cons (.con (.int 10)) (.cons (.neg (.con (.int 1))) (.cons (.con (.str "")) (.cons (.con (.str "cup")) (.cons (.con (.str "chip")) (.cons (.tup .nil) (.cons (.lst .nil) (.cons (.tup (.cons (.con (.int 0)) .nil)) (.cons (.tup (.cons (.con (.int 1)) (.cons (.con (.int 0)) .nil))) (.cons (.tup (.cons (.con (.int 2)) (.cons (.con (.int 2)) .nil))) .nil)))))))))))))))))))) (.cons (.ret (.call j__law_choice (.cons (.var 0) (.cons (.op2 .add (.var 4) (.lst (.cons (.tup (.cons (.con (.str "cup")) (.cons (.con (.int 0)) .nil))) (.cons (.tup (.cons (.con (.str "chip")) (.cons (.con (.int 3)) .nil))) (.cons (.tup (.cons (.con (.str "Cup")) (.cons (.con (.int 1)) .nil))) (.cons (.op2 .pow (.con (.int 10)) (.con (.int 30))) (.cons (.con (.bl true)) (.cons (.con .non) .nil)))))))) .nil)))) .nil))))
abbrev N__law_bent : List Str := ["source", "value", "way", "at", "some"]
def F__law_bent : Fd := ⟨2, 5, B__law_bent⟩
def B__law_deeds : Ss := (.cons (.set 1 (.lc (.nm 3) (.rng (.b .len (.cons (.op2 .ix (.var 0) (.con (.int 1))) .nil))) (.con (.bl true)) (.tup (.cons (.con (.str "buy")) (.cons (.var 3) .nil))) [3])) (.cons (.for_ (.nm 2) (.rng (.b .len (.cons (.op2 .ix (.var 0) (.con (.int 0))) .nil))) (.cons (.set 1 (.op2 .add (.op2 .add (.var 1) (.lst (.cons (.tup (.cons (.con (.str "take")) (.cons (.var 2) .nil))) .nil))) (.lc (.nm 4) (.seq (.op2 .ix (.op2 .ix (.op2 .ix (.var 0) (.con (.int 0))) (.var 2)) (.con (.int 3)))) (.con (.bl true)) (.tup (.cons (.con (.str "give")) (.cons (.var 2) (.cons (.var 4) .nil)))) [4]))) .nil)) (.cons (.ret (.b .sorted (.cons (.var 1) .nil))) .nil)))
abbrev N__law_deeds : List Str := ["fair", "found", "number", "shop", "sort"]
def F__law_deeds : Fd := ⟨1, 5, B__law_deeds⟩
def B__law_fair : Ss := (.cons (.set 2 (.b .tuple (.cons (.lc (.nm 4) (.rng (.op2 .add (.con (.int 1)) (.call j__law_draw (.cons (.var 0) (.cons (.var 1) .nil))))) (.con (.bl true)) (.call j__law_stand (.cons (.var 0) .nil)) [4]) .nil))) (.cons (.set 3 (.mk (.lst .nil))) (.cons (.for_ (.nm 4) (.rng (.call j__law_choice (.cons (.var 0) (.cons (.lst (.cons (.con (.int 0)) (.cons (.con (.int 0)) (.cons (.con (.int 1)) (.cons (.con (.int 2)) (.cons (.con (.int 3)) .nil)))))) .nil)))) (.cons (.app (.var 3) (.tup (.cons (.call j__law_choice (.cons (.var 0) (.cons (.lst (.cons (.con (.str "chip")) (.cons (.con (.str "cup")) .nil))) .nil))) (.cons (.call j__law_draw (.cons (.var 0) (.cons (.con (.int 3)) .nil))) (.cons (.call j__law_choice (.cons (.var 0) (.cons (.lst (.cons (.con (.int 1)) (.cons (.con (.int 2)) (.cons (.con (.int 4)) (.cons (.con (.int 6)) (.cons (.con (.int 9)) .nil)))))) .nil))) .nil))))) .nil)) (.cons (.ret (.tup (.cons (.var 2) (.cons (.b .tuple (.cons (.var 3) .nil)) .nil)))) .nil))))
abbrev N__law_fair : List Str := ["source", "most", "stands", "shops", "turn"]
def F__law_fair : Fd := ⟨2, 5, B__law_fair⟩
def B__law_is_fair : Ss := (.cons (.ite (.or (.not (.call j__law_tuple (.cons (.var 0) (.cons (.con (.int 2)) (.cons (.con (.int 2)) .nil))))) (.or (.not (.call j__law_tuple (.cons (.op2 .ix (.var 0) (.con (.int 0))) (.cons (.con (.int 1)) (.cons (.con (.int 4)) .nil))))) (.not (.call j__law_tuple (.cons (.op2 .ix (.var 0) (.con (.int 1))) (.cons (.con (.int 0)) (.cons (.con (.int 3)) .nil))))))) (.cons (.ret (.con (.bl false))) .nil) .nil) (.cons (.ite (.cmp .ne (.lc (.nm 1) (.seq (.op2 .ix (.var 0) (.con (.int 0)))) (.not (.call j__law_is_stand (.cons (.var 1) .nil))) (.var 1) [1]) (.lst .nil)) (.cons (.ret (.con (.bl false))) .nil) .nil) (.cons (.ret (.cmp .eq (.lc (.nm 2) (.seq (.op2 .ix (.var 0) (.con (.int 1)))) (.or (.not (.call j__law_is_thing (.cons (.var 2) (.cons (.con (.int 3)) .nil)))) (.not (.call j__law_from (.cons (.op2 .ix (.var 2) (.con (.int 2))) (.cons (.con (.int 0)) (.cons (.con (.int 9)) .nil)))))) (.var 2) [2]) (.lst .nil))) .nil)))
abbrev N__law_is_fair : List Str := ["value", "stand", "shop"]
def F__law_is_fair : Fd := ⟨1, 3, B__law_is_fair⟩
def B__law_is_lot : Ss := (.cons (.ite (.or (.not (.call j__law_tuple (.cons (.var 0) (.cons (.con (.int 0)) (.cons (.con (.int 2)) .nil))))) (.cmp .ne (.lc (.nm 1) (.seq (.var 0)) (.not (.call j__law_is_thing (.cons (.var 1) (.cons (.con (.int 2)) .nil)))) (.var 1) [1]) (.lst .nil))) (.cons (.ret (.con (.bl false))) .nil) .nil) (.cons (.ret (.cmp .eq (.b .list (.cons (.var 0) .nil)) (.b .sorted (.cons (.var 0) .nil)))) .nil))
abbrev N__law_is_lot : List Str := ["value", "thing"]
def F__law_is_lot : Fd := ⟨1, 2, B__law_is_lot⟩
def B__law_lot : Ss := (.cons (.set 2 (.lc (.nm 3) (.rng (.var 1)) (.con (.bl true)) (.tup (.cons (.call j__law_choice (.cons (.var 0) (.cons (.lst (.cons (.con (.str "chip")) (.cons (.con (.str "cup")) (.cons (.con (.str "cup")) .nil)))) .nil))) (.cons (.call j__law_draw (.cons (.var 0) (.cons (.con (.int 3)) .nil))) .nil))) [3])) (.cons (.ret (.b .tuple (.cons (.b .sorted (.cons (.slc (.var 2) .no (.yes (.call j__law_draw (.cons (.var 0) (.cons (.op2 .add (.var 1) (.con (.int 1))) .nil))))) .nil)) .nil))) .nil))
abbrev N__law_lot : List Str := ["source", "most", "some", "turn"]
def F__law_lot : Fd := ⟨2, 4, B__law_lot⟩
def B__law_source : Ss := (.cons (.set 2 (.ite (.cmp .lt (.var 1) (.b .len (.cons (.var 0) .nil))) (.b .abs (.cons (.b .int (.cons (.op2 .ix (.var 0) (.var 1)) .nil)) .nil)) (.op2 .add (.op2 .mul (.con (.int 53)) (.var 1)) (.con (.int 7))))) (.cons (.ret (.mk (.lst (.cons (.ite (.cmp .gt (.var 2) (.op2 .pow (.con (.int 10)) (.con (.int 17)))) (.var 2) (.con (.int 0))) (.cons (.op2 .mod (.b .int (.cons (.op2 .add (.op2 .add (.op2 .mul (.var 2) (.con (.int 16807))) (.op2 .mul (.con (.int 6007)) (.var 1))) (.con (.int 17))) .nil)) (.con (.int 2147483489))) .nil))))) .nil))
abbrev N__law_source : List Str := ["script", "k", "cell"]
def F__law_source : Fd := ⟨2, 3, B__law_source⟩
def B__law_stranded : Ss := (.cons (.set 1 (.mk (.lst .nil))) (.cons (.for_ (.tup (.cons (.nm 2) (.cons (.nm 3) .nil))) (.enum (.op2 .ix (.var 0) (.con (.int 0)))) (.cons (.set 4 (.op2 .add (.lst (.cons (.tup (.cons (.con (.str "cup")) (.cons (.op2 .ix (.var 3) (.con (.int 1))) .nil))) .nil)) (.lc (.nm 7) (.seq (.lst (.cons (.op2 .ix (.var 3) (.con (.int 2))) .nil))) (.cmp .isnot (.var 7) (.con .non)) (.tup (.cons (.con (.str "chip")) (.cons (.var 7) .nil))) [7]))) (.cons (.set 5 (.lc (.nm 6) (.seq (.call j__law_deeds (.cons (.var 0) .nil))) (.and (.cmp .eq (.op2 .ix (.var 6) (.con (.int 0))) (.con (.str "give"))) (.cmp .eq (.op2 .ix (.var 6) (.con (.int 2))) (.op2 .ix (.var 3) (.con (.int 1))))) (.var 6) [6])) (.cons (.ite (.cmp .eq (.lc (.nm 6) (.seq (.var 5)) (.cmp .isnot (.call j__law_done (.cons (.var 0) (.cons (.var 4) (.cons (.var 6) .nil)))) (.con .non)) (.var 6) [6]) (.lst .nil)) (.cons (.app (.var 1) (.var 2)) .nil) .nil) .nil)))) (.cons (.ret (.frz 1)) .nil)))
abbrev N__law_stranded : List Str := ["fair", "found", "number", "stand", "have", "gives", "deed", "sort"]
def F__law_stranded : Fd := ⟨1, 8, B__law_stranded⟩
def B_deeds : Ss := (.cons (.expr (.call j_need_fair (.cons (.var 0) .nil))) (.cons (.ret (.call j_every_deed (.cons (.var 0) .nil))) .nil))
abbrev N_deeds : List Str := ["fair"]
def F_deeds : Fd := ⟨1, 1, B_deeds⟩
def B_is_fair : Ss := (.cons (.ite (.or (.not (.call j_is_tuple (.cons (.var 0) (.cons (.con (.int 2)) (.cons (.con (.int 2)) .nil))))) (.or (.not (.call j_is_tuple (.cons (.op2 .ix (.var 0) (.con (.int 0))) (.cons (.con (.int 1)) (.cons (.con (.int 4)) .nil))))) (.not (.call j_is_tuple (.cons (.op2 .ix (.var 0) (.con (.int 1))) (.cons (.con (.int 0)) (.cons (.con (.int 3)) .nil))))))) (.cons (.ret (.con (.bl false))) .nil) .nil) (.cons (.ret (.and (.b .all (.cons (.lc (.nm 1) (.seq (.op2 .ix (.var 0) (.con (.int 0)))) (.con (.bl true)) (.call j_is_stand (.cons (.var 1) .nil)) [1]) .nil)) (.b .all (.cons (.lc (.nm 2) (.seq (.op2 .ix (.var 0) (.con (.int 1)))) (.con (.bl true)) (.call j_is_shop (.cons (.var 2) .nil)) [2]) .nil)))) .nil))
abbrev N_is_fair : List Str := ["value", "stand", "shop"]
def F_is_fair : Fd := ⟨1, 3, B_is_fair⟩
def B_is_lot : Ss := (.cons (.ret (.call j_has_lot (.cons (.var 0) .nil))) .nil)
abbrev N_is_lot : List Str := ["value"]
def F_is_lot : Fd := ⟨1, 1, B_is_lot⟩
def B_stranded : Ss := (.cons (.expr (.call j_need_fair (.cons (.var 0) .nil))) (.cons (.set 1 (.mk (.lst .nil))) (.cons (.for_ (.tup (.cons (.nm 2) (.cons (.tup (.cons (.nm 3) (.cons (.nm 4) (.cons (.nm 5) (.cons (.nm 6) (.cons (.nm 7) (.cons (.nm 8) .nil))))))) .nil))) (.enum (.op2 .ix (.var 0) (.con (.int 0)))) (.cons (.ite (.not (.b .any (.cons (.lc (.nm 9) (.seq (.op2 .ix (.var 0) (.con (.int 0)))) (.con (.bl true)) (.and (.cmp .in_ (.var 4) (.op2 .ix (.var 9) (.con (.int 3)))) (.cmp .in_ (.op2 .ix (.var 9) (.con (.int 4))) (.tup (.cons (.con .non) (.cons (.var 5) .nil))))) [9]) .nil))) (.cons (.app (.var 1) (.var 2)) .nil) .nil) .nil)) (.cons (.ret (.frz 1)) .nil))))
abbrev N_stranded : List Str := ["fair", "found", "number", "deposit", "cup", "chip", "takes", "needs", "refund", "other"]
def F_stranded : Fd := ⟨1, 10, B_stranded⟩
def B__law_choice : Ss := (.cons (.ret (.op2 .ix (.var 1) (.call j__law_draw (.cons (.var 0) (.cons (.b .len (.cons (.var 1) .nil)) .nil))))) .nil)
abbrev N__law_choice : List Str := ["source", "some"]
def F__law_choice : Fd := ⟨2, 2, B__law_choice⟩
def B__law_draw : Ss := (.cons (.ite (.cmp .gt (.op2 .ix (.var 0) (.con (.int 0))) (.con (.int 0))) (.cons (.set 2 (.op2 .mod (.b .int (.cons (.op2 .ix (.var 0) (.con (.int 0))) .nil)) (.var 1))) (.cons (.put (.var 0) (.con (.int 0)) (.op2 .fdiv (.op2 .ix (.var 0) (.con (.int 0))) (.var 1))) (.cons (.ret (.var 2)) .nil))) .nil) (.cons (.put (.var 0) (.con (.int 1)) (.op2 .mod (.b .int (.cons (.op2 .add (.op2 .mul (.op2 .ix (.var 0) (.con (.int 1))) (.con (.int 48271))) (.con (.int 53))) .nil)) (.con (.int 2147483489)))) (.cons (.set 3 (.op2 .mod (.b .int (.cons (.op2 .mul (.op2 .ix (.var 0) (.con (.int 1))) (.op2 .add (.op2 .fdiv (.op2 .ix (.var 0) (.con (.int 1))) (.con (.int 13))) (.con (.int 8)))) .nil)) (.con (.int 2147483399)))) (.cons (.ret (.op2 .mod (.b .int (.cons (.op2 .fdiv (.var 3) (.con (.int 32))) .nil)) (.var 1))) .nil))))
abbrev N__law_draw : List Str := ["source", "many", "rest", "wide"]
def F__law_draw : Fd := ⟨2, 4, B__law_draw⟩
def B__law_stand : Ss := (.cons (.set 1 (.call j__law_choice (.cons (.var 0) (.cons (.lst (.cons (.con (.int 0)) (.cons (.con (.int 1)) (.cons (.con (.int 2)) (.cons (.con (.int 3)) (.cons (.con (.int 4)) (.cons (.con (.int 5)) (.cons (.con (.int 9)) .nil)))))))) .nil)))) (.cons (.asg (.tup (.cons (.nm 2) (.cons (.nm 3) .nil))) (.tup (.cons (.call j__law_draw (.cons (.var 0) (.cons (.con (.int 3)) .nil))) (.cons (.call j__law_choice (.cons (.var 0) (.cons (.lst (.cons (.con .non) (.cons (.con .non) (.cons (.con (.int 0)) (.cons (.con (.int 1)) (.cons (.con (.int 2)) .nil)))))) .nil))) .nil)))) (.cons (.set 4 (.lc (.nm 7) (.rng (.con (.int 3))) (.or (.cmp .eq (.call j__law_draw (.cons (.var 0) (.cons (.con (.int 3)) .nil))) (.con (.int 0))) (.and (.cmp .eq (.var 7) (.var 2)) (.cmp .gt (.call j__law_draw (.cons (.var 0) (.cons (.con (.int 5)) .nil))) (.con (.int 0))))) (.var 7) [7])) (.cons (.set 5 (.call j__law_choice (.cons (.var 0) (.cons (.lst (.cons (.var 3) (.cons (.var 3) (.cons (.con .non) (.cons (.con (.int 0)) (.cons (.con (.int 1)) .nil)))))) .nil)))) (.cons (.set 6 (.call j__law_choice (.cons (.var 0) (.cons (.lst (.cons (.var 1) (.cons (.var 1) (.cons (.op2 .fdiv (.var 1) (.con (.int 2))) (.cons (.b .max2 (.cons (.con (.int 0)) (.cons (.op2 .sub (.var 1) (.con (.int 1))) .nil))) (.cons (.b .min2 (.cons (.con (.int 9)) (.cons (.op2 .add (.var 1) (.con (.int 1))) .nil))) (.cons (.con (.int 0)) .nil))))))) .nil)))) (.cons (.ret (.tup (.cons (.var 1) (.cons (.var 2) (.cons (.var 3) (.cons (.b .tuple (.cons (.var 4) .nil)) (.cons (.var 5) (.cons (.var 6) .nil)))))))) .nil))))))
abbrev N__law_stand : List Str := ["source", "deposit", "cup", "chip", "takes", "needs", "refund", "sort"]
def F__law_stand : Fd := ⟨1, 8, B__law_stand⟩
def B__law_from : Ss := (.cons (.ret (.and (.isi (.var 0) .int) (.and (.not (.isi (.var 0) .bool)) (.chn .le .le (.var 1) (.var 0) (.var 2))))) .nil)
abbrev N__law_from : List Str := ["value", "low", "high"]
def F__law_from : Fd := ⟨3, 3, B__law_from⟩
def B__law_is_stand : Ss := (.cons (.ite (.or (.not (.call j__law_tuple (.cons (.var 0) (.cons (.con (.int 6)) (.cons (.con (.int 6)) .nil))))) (.or (.not (.call j__law_from (.cons (.op2 .ix (.var 0) (.con (.int 0))) (.cons (.con (.int 0)) (.cons (.con (.int 9)) .nil))))) (.not (.call j__law_from (.cons (.op2 .ix (.var 0) (.con (.int 5))) (.cons (.con (.int 0)) (.cons (.con (.int 9)) .nil))))))) (.cons (.ret (.con (.bl false))) .nil) .nil) (.cons (.for_ (.nm 1) (.seq (.lst (.cons (.op2 .ix (.var 0) (.con (.int 2))) (.cons (.op2 .ix (.var 0) (.con (.int 4))) .nil)))) (.cons (.ite (.and (.cmp .isnot (.var 1) (.con .non)) (.not (.call j__law_from (.cons (.var 1) (.cons (.con (.int 0)) (.cons (.con (.int 2)) .nil)))))) (.cons (.ret (.con (.bl false))) .nil) .nil) .nil)) (.cons (.ite (.or (.not (.call j__law_from (.cons (.op2 .ix (.var 0) (.con (.int 1))) (.cons (.con (.int 0)) (.cons (.con (.int 2)) .nil))))) (.not (.isi (.op2 .ix (.var 0) (.con (.int 3))) .tuple))) (.cons (.ret (.con (.bl false))) .nil) .nil) (.cons (.ite (.cmp .ne (.lc (.nm 2) (.seq (.op2 .ix (.var 0) (.con (.int 3)))) (.not (.call j__law_from (.cons (.var 2) (.cons (.con (.int 0)) (.cons (.con (.int 2)) .nil))))) (.var 2) [2]) (.lst .nil)) (.cons (.ret (.con (.bl false))) .nil) .nil) (.cons (.ret (.cmp .eq (.b .list (.cons (.op2 .ix (.var 0) (.con (.int 3))) .nil)) (.b .sset (.cons (.op2 .ix (.var 0) (.con (.int 3))) .nil)))) .nil)))))
abbrev N__law_is_stand : List Str := ["value", "part", "sort"]
def F__law_is_stand : Fd := ⟨1, 3, B__law_is_stand⟩
def B__law_is_thing : Ss := (.cons (.ite (.or (.not (.call j__law_tuple (.cons (.var 0) (.cons (.var 1) (.cons (.var 1) .nil))))) (.or (.not (.isi (.op2 .ix (.var 0) (.con (.int 0))) .str)) (.cmp .notin (.op2 .ix (.var 0) (.con (.int 0))) (.lst (.cons (.con (.str "chip")) (.cons (.con (.str "cup")) .nil)))))) (.cons (.ret (.con (.bl false))) .nil) .nil) (.cons (.ret (.call j__law_from (.cons (.op2 .ix (.var 0) (.con (.int 1))) (.cons (.con (.int 0)) (.cons (.con (.int 2)) .nil))))) .nil))
abbrev N__law_is_thing : List Str := ["value", "many"]
def F__law_is_thing : Fd := ⟨2, 2, B__law_is_thing⟩
def B__law_tuple : Ss := (.cons (.ret (.and (.isi (.var 0) .tuple) (.chn .le .le (.var 1) (.b .len (.cons (.var 0) .nil)) (.var 2)))) .nil)
abbrev N__law_tuple : List Str := ["value", "low", "high"]
def F__law_tuple : Fd := ⟨3, 3, B__law_tuple⟩
def B__law_done : Ss := (.cons (.ite (.cmp .eq (.op2 .ix (.var 2) (.con (.int 0))) (.con (.str "buy"))) (.cons (.asg (.tup (.cons (.nm 3) (.cons (.nm 4) (.cons (.nm 5) .nil)))) (.op2 .ix (.op2 .ix (.var 0) (.con (.int 1))) (.op2 .ix (.var 2) (.con (.int 1))))) (.cons (.ret (.tup (.cons (.b .sorted (.cons (.op2 .add (.var 1) (.lst (.cons (.tup (.cons (.var 3) (.cons (.var 4) .nil))) .nil))) .nil)) (.cons (.neg (.var 5)) .nil)))) .nil)) .nil) (.cons (.asg (.tup (.cons (.nm 6) (.cons (.nm 7) (.cons (.nm 8) (.cons (.nm 9) (.cons (.nm 10) (.cons (.nm 11) .nil))))))) (.op2 .ix (.op2 .ix (.var 0) (.con (.int 0))) (.op2 .ix (.var 2) (.con (.int 1))))) (.cons (.ite (.cmp .eq (.op2 .ix (.var 2) (.con (.int 0))) (.con (.str "take"))) (.cons (.set 12 (.op2 .add (.lst (.cons (.tup (.cons (.con (.str "cup")) (.cons (.var 7) .nil))) .nil)) (.lc (.nm 4) (.seq (.lst (.cons (.var 8) .nil))) (.cmp .isnot (.var 4) (.con .non)) (.tup (.cons (.con (.str "chip")) (.cons (.var 4) .nil))) [4]))) (.cons (.ret (.tup (.cons (.b .sorted (.cons (.op2 .add (.var 1) (.var 12)) .nil)) (.cons (.neg (.var 6)) .nil)))) .nil)) .nil) (.cons (.set 13 (.op2 .add (.var 1) (.lst .nil))) (.cons (.for_ (.nm 14) (.seq (.op2 .add (.lst (.cons (.tup (.cons (.con (.str "cup")) (.cons (.op2 .ix (.var 2) (.con (.int 2))) .nil))) .nil)) (.lc (.nm 4) (.seq (.lst (.cons (.var 10) .nil))) (.cmp .isnot (.var 4) (.con .non)) (.tup (.cons (.con (.str "chip")) (.cons (.var 4) .nil))) [4]))) (.cons (.ite (.cmp .notin (.var 14) (.var 13)) (.cons (.ret (.con .non)) .nil) .nil) (.cons (.set 15 (.m .index (.var 13) (.cons (.var 14) .nil))) (.cons (.set 13 (.op2 .add (.slc (.var 13) .no (.yes (.var 15))) (.slc (.var 13) (.yes (.op2 .add (.var 15) (.con (.int 1)))) .no))) .nil)))) (.cons (.ret (.tup (.cons (.var 13) (.cons (.var 11) .nil)))) .nil))))))
abbrev N__law_done : List Str := ["fair", "things", "deed", "word", "sort", "price", "deposit", "cup", "chip", "takes", "needs", "refund", "more", "rest", "thing", "at"]
def F__law_done : Fd := ⟨3, 16, B__law_done⟩
def B_every_deed : Ss := (.cons (.set 1 (.lc (.nm 4) (.rng (.b .len (.cons (.op2 .ix (.var 0) (.con (.int 1))) .nil))) (.con (.bl true)) (.tup (.cons (.con (.str "buy")) (.cons (.var 4) .nil))) [4])) (.cons (.for_ (.tup (.cons (.nm 2) (.cons (.nm 3) .nil))) (.enum (.op2 .ix (.var 0) (.con (.int 0)))) (.cons (.set 1 (.op2 .add (.var 1) (.lc (.nm 5) (.seq (.op2 .ix (.var 3) (.con (.int 3)))) (.con (.bl true)) (.tup (.cons (.con (.str "give")) (.cons (.var 2) (.cons (.var 5) .nil)))) [5]))) .nil)) (.cons (.ret (.op2 .add (.var 1) (.lc (.nm 2) (.rng (.b .len (.cons (.op2 .ix (.var 0) (.con (.int 0))) .nil))) (.con (.bl true)) (.tup (.cons (.con (.str "take")) (.cons (.var 2) .nil))) [2]))) .nil)))
abbrev N_every_deed : List Str := ["fair", "found", "number", "stand", "shop", "sort"]
def F_every_deed : Fd := ⟨1, 6, B_every_deed⟩
def B_need_fair : Ss := (.cons (.ite (.not (.call j_is_fair (.cons (.var 0) .nil))) (.cons (.raise x_InvalidFair) .nil) .nil) .nil)
abbrev N_need_fair : List Str := ["value"]
def F_need_fair : Fd := ⟨1, 1, B_need_fair⟩
def B_is_shop : Ss := (.cons (.ite (.or (.not (.call j_is_tuple (.cons (.var 0) (.cons (.con (.int 3)) (.cons (.con (.int 3)) .nil))))) (.or (.not (.isi (.op2 .ix (.var 0) (.con (.int 0))) .str)) (.cmp .notin (.op2 .ix (.var 0) (.con (.int 0))) (.con (.tup [(.str "chip"), (.str "cup")]))))) (.cons (.ret (.con (.bl false))) .nil) .nil) (.cons (.ret (.and (.call j_is_sort (.cons (.op2 .ix (.var 0) (.con (.int 1))) .nil)) (.call j_is_from (.cons (.op2 .ix (.var 0) (.con (.int 2))) (.cons (.con (.int 0)) (.cons (.con (.int 9)) .nil)))))) .nil))
abbrev N_is_shop : List Str := ["value"]
def F_is_shop : Fd := ⟨1, 1, B_is_shop⟩
def B_is_stand : Ss := (.cons (.ite (.not (.call j_is_tuple (.cons (.var 0) (.cons (.con (.int 6)) (.cons (.con (.int 6)) .nil))))) (.cons (.ret (.con (.bl false))) .nil) .nil) (.cons (.asg (.tup (.cons (.nm 1) (.cons (.nm 2) (.cons (.nm 3) (.cons (.nm 4) (.cons (.nm 5) (.cons (.nm 6) .nil))))))) (.var 0)) (.cons (.ite (.or (.not (.call j_is_from (.cons (.var 1) (.cons (.con (.int 0)) (.cons (.con (.int 9)) .nil))))) (.or (.not (.call j_is_from (.cons (.var 6) (.cons (.con (.int 0)) (.cons (.con (.int 9)) .nil))))) (.not (.call j_is_sort (.cons (.var 2) .nil))))) (.cons (.ret (.con (.bl false))) .nil) .nil) (.cons (.ite (.or (.not (.or (.cmp .is_ (.var 3) (.con .non)) (.call j_is_sort (.cons (.var 3) .nil)))) (.not (.or (.cmp .is_ (.var 5) (.con .non)) (.call j_is_sort (.cons (.var 5) .nil))))) (.cons (.ret (.con (.bl false))) .nil) .nil) (.cons (.ite (.or (.not (.call j_is_tuple (.cons (.var 4) (.cons (.con (.int 0)) (.cons (.con (.int 3)) .nil))))) (.not (.b .all (.cons (.lc (.nm 9) (.seq (.var 4)) (.con (.bl true)) (.call j_is_sort (.cons (.var 9) .nil)) [9]) .nil)))) (.cons (.ret (.con (.bl false))) .nil) .nil) (.cons (.ret (.b .all (.cons (.lc (.tup (.cons (.nm 7) (.cons (.nm 8) .nil))) (.zip (.var 4) (.slc (.var 4) (.yes (.con (.int 1))) .no)) (.con (.bl true)) (.cmp .lt (.var 7) (.var 8)) [7, 8]) .nil))) .nil))))))
abbrev N_is_stand : List Str := ["value", "deposit", "cup", "chip", "takes", "needs", "refund", "one", "other", "sort"]
def F_is_stand : Fd := ⟨1, 10, B_is_stand⟩
def B_is_tuple : Ss := (.cons (.ret (.and (.isi (.var 0) .tuple) (.chn .le .le (.var 1) (.b .len (.cons (.var 0) .nil)) (.var 2)))) .nil)
abbrev N_is_tuple : List Str := ["value", "low", "high"]
def F_is_tuple : Fd := ⟨3, 3, B_is_tuple⟩
def B_has_lot : Ss := (.cons (.ite (.or (.not (.call j_is_tuple (.cons (.var 0) (.cons (.con (.int 0)) (.cons (.con (.int 2)) .nil))))) (.not (.b .all (.cons (.lc (.nm 3) (.seq (.var 0)) (.con (.bl true)) (.call j_is_thing (.cons (.var 3) .nil)) [3]) .nil)))) (.cons (.ret (.con (.bl false))) .nil) .nil) (.cons (.ret (.b .all (.cons (.lc (.tup (.cons (.nm 1) (.cons (.nm 2) .nil))) (.zip (.var 0) (.slc (.var 0) (.yes (.con (.int 1))) .no)) (.con (.bl true)) (.cmp .le (.var 1) (.var 2)) [1, 2]) .nil))) .nil))
abbrev N_has_lot : List Str := ["value", "one", "other", "thing"]
def F_has_lot : Fd := ⟨1, 4, B_has_lot⟩
def B_is_from : Ss := (.cons (.ret (.and (.isi (.var 0) .int) (.and (.not (.isi (.var 0) .bool)) (.chn .le .le (.var 1) (.var 0) (.var 2))))) .nil)
abbrev N_is_from : List Str := ["value", "low", "high"]
def F_is_from : Fd := ⟨3, 3, B_is_from⟩
def B_is_sort : Ss := (.cons (.ret (.call j_is_from (.cons (.var 0) (.cons (.con (.int 0)) (.cons (.op2 .sub (.con (.int 3)) (.con (.int 1))) .nil))))) .nil)
abbrev N_is_sort : List Str := ["value"]
def F_is_sort : Fd := ⟨1, 1, B_is_sort⟩
def B_is_thing : Ss := (.cons (.ret (.and (.call j_is_tuple (.cons (.var 0) (.cons (.con (.int 2)) (.cons (.con (.int 2)) .nil)))) (.and (.isi (.op2 .ix (.var 0) (.con (.int 0))) .str) (.and (.cmp .in_ (.op2 .ix (.var 0) (.con (.int 0))) (.con (.tup [(.str "chip"), (.str "cup")]))) (.call j_is_sort (.cons (.op2 .ix (.var 0) (.con (.int 1))) .nil)))))) .nil)
abbrev N_is_thing : List Str := ["value"]
def F_is_thing : Fd := ⟨1, 1, B_is_thing⟩
def B_law_k03 : Ss := (.cons (.for_ (.nm 1) (.rng (.op2 .add (.con (.int 1)) (.b .min2 (.cons (.b .len (.cons (.var 0) .nil)) (.cons (.con (.int 8)) .nil))))) (.cons (.set 2 (.call j__law_source (.cons (.var 0) (.cons (.var 1) .nil)))) (.cons (.for_ (.nm 3) (.rng (.con (.int 3))) (.cons (.set 4 (.call j__law_fair (.cons (.var 2) (.cons (.con (.int 4)) .nil)))) (.cons (.par3 5 6 7 (.cmp .isnot (.call j__law_costs (.cons (.call j__law_arcs (.cons (.var 4) (.cons (.lst .nil) .nil))) .nil)) (.con .non)) (.call j_is_sound (.cons (.var 4) .nil)) (.call j_pump (.cons (.var 4) .nil))) (.cons (.ite (.or (.not (.isi (.var 6) .bool)) (.or (.cmp .ne (.var 6) (.var 5)) (.cmp .ne (.cmp .is_ (.var 7) (.con .non)) (.var 5)))) (.cons (.ret (.con (.bl false))) .nil) .nil) (.cons (.ite (.cmp .isnot (.var 7) (.con .non)) (.cons (.set 8 (.call j__law_led (.cons (.var 4) (.cons (.tup .nil) (.cons (.var 7) .nil))))) (.cons (.ite (.or (.cmp .is_ (.var 8) (.con .non)) (.or (.cmp .le (.op2 .ix (.var 8) (.con (.int 1))) (.con (.int 0))) (.cmp .ne (.b .len (.cons (.var 7) .nil)) (.call j__law_fewest (.cons (.var 4) .nil))))) (.cons (.ret (.con (.bl false))) .nil) .nil) .nil)) (.cons (.ite (.cmp .isnot (.call j__law_fewest (.cons (.var 4) .nil)) (.con .non)) (.cons (.ret (.con (.bl false))) .nil) .nil) .nil)) .nil))))) .nil))) (.cons (.set 9 (.tup (.cons (.tup (.cons (.tup (.cons (.con (.int 1)) (.cons (.con (.int 0)) (.cons (.con .non) (.cons (.tup (.cons (.con (.int 0)) .nil)) (.cons (.con .non) (.cons (.con (.int 1)) .nil))))))) (.cons (.tup (.cons (.con (.int 2)) (.cons (.con (.int 0)) (.cons (.con .non) (.cons (.tup (.cons (.con (.int 0)) .nil)) (.cons (.con .non) (.cons (.con (.int 2)) .nil))))))) .nil))) (.cons (.tup .nil) .nil)))) (.cons (.ite (.cmp .ne (.call j_pump (.cons (.var 9) .nil)) (.tup (.cons (.tup (.cons (.con (.str "take")) (.cons (.con (.int 0)) .nil))) (.cons (.tup (.cons (.con (.str "give")) (.cons (.con (.int 1)) (.cons (.con (.int 0)) .nil)))) .nil)))) (.cons (.ret (.con (.bl false))) .nil) .nil) (.cons (.set 10 (.tup (.cons (.tup (.cons (.tup (.cons (.con (.int 3)) (.cons (.con (.int 0)) (.cons (.con (.int 0)) (.cons (.tup (.cons (.con (.int 0)) .nil)) (.cons (.con (.int 0)) (.cons (.con (.int 3)) .nil))))))) (.cons (.tup (.cons (.con (.int 1)) (.cons (.con (.int 0)) (.cons (.con .non) (.cons (.tup (.cons (.con (.int 0)) .nil)) (.cons (.con .non) (.cons (.con (.int 1)) .nil))))))) .nil))) (.cons (.tup (.cons (.tup (.cons (.con (.str "chip")) (.cons (.con (.int 0)) (.cons (.con (.int 1)) .nil)))) .nil)) .nil)))) (.cons (.set 7 (.call j_pump (.cons (.var 10) .nil))) (.cons (.ite (.or (.not (.call j_is_sound (.cons (.tup (.cons (.op2 .ix (.var 10) (.con (.int 0))) (.cons (.tup .nil) .nil))) .nil))) (.or (.cmp .is_ (.var 7) (.con .non)) (.cmp .ne (.b .len (.cons (.var 7) .nil)) (.con (.int 3))))) (.cons (.ret (.con (.bl false))) .nil) .nil) (.cons (.ret (.cmp .eq (.call j__law_led (.cons (.var 10) (.cons (.tup .nil) (.cons (.var 7) .nil)))) (.tup (.cons (.lst .nil) (.cons (.con (.int 1)) .nil))))) .nil)))))))
abbrev N_law_k03 : List Str := ["script", "k", "source", "turn", "fair", "sound", "told", "row", "there", "two", "chips"]
def F_law_k03 : Fd := ⟨1, 11, B_law_k03⟩
def B__law_arcs : Ss := (.cons (.set 2 (.mk (.op2 .add (.lc (.nm 5) (.seq (.lst (.cons (.con (.int 1)) (.cons (.con (.int 2)) (.cons (.con (.int 3)) .nil))))) (.con (.bl true)) (.tup (.cons (.var 5) (.cons (.con (.int 0)) (.cons (.con (.int 0)) .nil)))) [5]) (.lc (.nm 6) (.seq (.lst (.cons (.con (.int 4)) (.cons (.con (.int 5)) (.cons (.con (.int 6)) .nil))))) (.con (.bl true)) (.tup (.cons (.con (.int 0)) (.cons (.var 6) (.cons (.con (.int 0)) .nil)))) [6])))) (.cons (.for_ (.tup (.cons (.nm 3) (.cons (.tup (.cons (.nm 4) (.cons (.nm 5) (.cons (.nm 6) (.cons (.nm 7) (.cons (.nm 8) (.cons (.nm 9) .nil))))))) .nil))) (.enum (.op2 .ix (.var 0) (.con (.int 0)))) (.cons (.ite (.cmp .notin (.tup (.cons (.con (.str "take")) (.cons (.var 3) .nil))) (.var 1)) (.cons (.app (.var 2) (.tup (.cons (.ite (.cmp .is_ (.var 6) (.con .non)) (.con (.int 0)) (.op2 .add (.con (.int 4)) (.var 6))) (.cons (.op2 .add (.con (.int 1)) (.var 5)) (.cons (.var 4) .nil))))) .nil) .nil) (.cons (.ite (.cmp .notin (.tup (.cons (.con (.str "give")) (.cons (.var 3) .nil))) (.var 1)) (.cons (.set 2 (.mk (.op2 .add (.var 2) (.lc (.nm 11) (.seq (.var 7)) (.con (.bl true)) (.tup (.cons (.op2 .add (.con (.int 1)) (.var 11)) (.cons (.ite (.cmp .is_ (.var 8) (.con .non)) (.con (.int 0)) (.op2 .add (.con (.int 4)) (.var 8))) (.cons (.neg (.var 9)) .nil)))) [11])))) .nil) .nil) .nil))) (.cons (.for_ (.tup (.cons (.nm 10) (.cons (.nm 11) (.cons (.nm 12) .nil)))) (.seq (.op2 .ix (.var 0) (.con (.int 1)))) (.cons (.app (.var 2) (.ite (.cmp .eq (.var 10) (.con (.str "cup"))) (.tup (.cons (.con (.int 0)) (.cons (.op2 .add (.con (.int 1)) (.var 11)) (.cons (.var 12) .nil)))) (.tup (.cons (.op2 .add (.con (.int 4)) (.var 11)) (.cons (.con (.int 0)) (.cons (.var 12) .nil)))))) .nil)) (.cons (.ret (.frz 2)) .nil))))
abbrev N__law_arcs : List Str := ["fair", "left_out", "found", "number", "deposit", "cup", "chip", "takes", "needs", "refund", "word", "sort", "price"]
def F__law_arcs : Fd := ⟨2, 13, B__law_arcs⟩
def B__law_costs : Ss := (.cons (.set 1 (.mk (.b .dict (.cons (.lc (.nm 7) (.rng (.con (.int 7))) (.con (.bl true)) (.tup (.cons (.key (.cons (.var 7) (.cons (.var 7) .nil))) (.cons (.con (.int 0)) .nil))) [7]) .nil)))) (.cons (.for_ (.tup (.cons (.nm 2) (.cons (.nm 3) (.cons (.nm 4) .nil)))) (.seq (.var 0)) (.cons (.ite (.or (.cmp .notin (.key (.cons (.var 2) (.cons (.var 3) .nil))) (.var 1)) (.cmp .lt (.var 4) (.op2 .ix (.var 1) (.key (.cons (.var 2) (.cons (.var 3) .nil)))))) (.cons (.put (.var 1) (.key (.cons (.var 2) (.cons (.var 3) .nil))) (.var 4)) .nil) .nil) .nil)) (.cons (.for_ (.nm 5) (.rng (.con (.int 7))) (.cons (.for_ (.nm 2) (.rng (.con (.int 7))) (.cons (.for_ (.nm 3) (.rng (.con (.int 7))) (.cons (.ite (.and (.cmp .in_ (.key (.cons (.var 2) (.cons (.var 5) .nil))) (.var 1)) (.cmp .in_ (.key (.cons (.var 5) (.cons (.var 3) .nil))) (.var 1))) (.cons (.set 6 (.op2 .add (.op2 .ix (.var 1) (.key (.cons (.var 2) (.cons (.var 5) .nil)))) (.op2 .ix (.var 1) (.key (.cons (.var 5) (.cons (.var 3) .nil)))))) (.cons (.ite (.or (.cmp .notin (.key (.cons (.var 2) (.cons (.var 3) .nil))) (.var 1)) (.cmp .lt (.var 6) (.op2 .ix (.var 1) (.key (.cons (.var 2) (.cons (.var 3) .nil)))))) (.cons (.put (.var 1) (.key (.cons (.var 2) (.cons (.var 3) .nil))) (.var 6)) .nil) .nil) .nil)) .nil) .nil)) .nil)) .nil)) (.cons (.ret (.ite (.cmp .ne (.lc (.nm 7) (.rng (.con (.int 7))) (.cmp .lt (.op2 .ix (.var 1) (.key (.cons (.var 7) (.cons (.var 7) .nil)))) (.con (.int 0))) (.var 7) [7]) (.lst .nil)) (.con .non) (.frz 1))) .nil))))
abbrev N__law_costs : List Str := ["arcs", "found", "begin", "end", "cost_so", "middle", "more", "at"]
def F__law_costs : Fd := ⟨1, 8, B__law_costs⟩
def B__law_fewest : Ss := (.cons (.set 1 (.slc (.call j__law_arcs (.cons (.var 0) (.cons (.lst .nil) .nil))) (.yes (.con (.int 6))) .no)) (.cons (.set 2 (.call0 j__law_free)) (.cons (.for_ (.nm 3) (.rng2 (.con (.int 1)) (.con (.int 8))) (.cons (.set 2 (.call j__law_step (.cons (.var 2) (.cons (.var 1) .nil)))) (.cons (.ite (.cmp .ne (.lc (.nm 4) (.rng (.con (.int 7))) (.cmp .lt (.op2 .ix (.var 2) (.key (.cons (.var 4) (.cons (.var 4) .nil)))) (.con (.int 0))) (.var 4) [4]) (.lst .nil)) (.cons (.ret (.var 3)) .nil) .nil) .nil))) (.cons (.ret (.con .non)) .nil))))
abbrev N__law_fewest : List Str := ["fair", "arcs", "found", "many", "at"]
def F__law_fewest : Fd := ⟨1, 5, B__law_fewest⟩
def B__law_led : Ss := (.cons (.par2 3 4 (.b .sorted (.cons (.var 1) .nil)) (.con (.int 0))) (.cons (.for_ (.nm 5) (.seq (.var 2)) (.cons (.set 6 (.ite (.cmp .in_ (.var 5) (.call j__law_deeds (.cons (.var 0) .nil))) (.call j__law_done (.cons (.var 0) (.cons (.var 3) (.cons (.var 5) .nil)))) (.con .non))) (.cons (.ite (.cmp .is_ (.var 6) (.con .non)) (.cons (.ret (.con .non)) .nil) .nil) (.cons (.par2 3 4 (.op2 .ix (.var 6) (.con (.int 0))) (.op2 .add (.var 4) (.op2 .ix (.var 6) (.con (.int 1))))) .nil)))) (.cons (.ret (.tup (.cons (.var 3) (.cons (.var 4) .nil)))) .nil)))
abbrev N__law_led : List Str := ["fair", "have", "row", "things", "money_so", "deed", "there"]
def F__law_led : Fd := ⟨3, 7, B__law_led⟩
def B_is_sound : Ss := (.cons (.expr (.call j_need_fair (.cons (.var 0) .nil))) (.cons (.ret (.cmp .isnot (.call j_ways_of (.cons (.call j_edges_of (.cons (.var 0) .nil)) .nil)) (.con .non))) .nil))
abbrev N_is_sound : List Str := ["fair"]
def F_is_sound : Fd := ⟨1, 1, B_is_sound⟩
def B_pump : Ss := (.cons (.expr (.call j_need_fair (.cons (.var 0) .nil))) (.cons (.set 1 (.call j_fewest_pump (.cons (.call j_edges_of (.cons (.var 0) .nil)) .nil))) (.cons (.ret (.ite (.cmp .is_ (.var 1) (.con .non)) (.con .non) (.call j_in_turn (.cons (.var 1) .nil)))) .nil)))
abbrev N_pump : List Str := ["fair", "deeds"]
def F_pump : Fd := ⟨1, 2, B_pump⟩
def B__law_free : Ss := (.cons (.set 0 (.mk (.b .dict (.cons (.lc (.nm 3) (.rng (.con (.int 7))) (.con (.bl true)) (.tup (.cons (.key (.cons (.var 3) (.cons (.var 3) .nil))) (.cons (.con (.int 0)) .nil))) [3]) .nil)))) (.cons (.for_ (.nm 1) (.seq (.lst (.cons (.con (.int 1)) (.cons (.con (.int 2)) (.cons (.con (.int 3)) .nil))))) (.cons (.put (.var 0) (.key (.cons (.var 1) (.cons (.con (.int 0)) .nil))) (.con (.int 0))) (.cons (.for_ (.nm 2) (.seq (.lst (.cons (.con (.int 4)) (.cons (.con (.int 5)) (.cons (.con (.int 6)) .nil))))) (.cons (.put (.var 0) (.key (.cons (.con (.int 0)) (.cons (.var 2) .nil))) (.con (.int 0))) (.cons (.put (.var 0) (.key (.cons (.var 1) (.cons (.var 2) .nil))) (.con (.int 0))) .nil))) .nil))) (.cons (.ret (.frz 0)) .nil)))
abbrev N__law_free : List Str := ["found", "cup", "chip", "at"]
def F__law_free : Fd := ⟨0, 4, B__law_free⟩
def B__law_step : Ss := (.cons (.par2 2 3 (.call0 j__law_free) (.b .dict (.cons (.var 0) .nil))) (.cons (.forK (.tup (.cons (.nm 4) (.cons (.nm 5) .nil))) 0 (.cons (.for_ (.tup (.cons (.nm 6) (.cons (.nm 7) (.cons (.nm 8) .nil)))) (.seq (.var 1)) (.cons (.for_ (.nm 9) (.rng (.con (.int 7))) (.cons (.ite (.and (.cmp .eq (.var 6) (.var 5)) (.cmp .in_ (.key (.cons (.var 7) (.cons (.var 9) .nil))) (.var 2))) (.cons (.set 10 (.op2 .add (.op2 .ix (.var 0) (.key (.cons (.var 4) (.cons (.var 5) .nil)))) (.var 8))) (.cons (.ite (.or (.cmp .notin (.key (.cons (.var 4) (.cons (.var 9) .nil))) (.var 3)) (.cmp .lt (.var 10) (.op2 .ix (.var 3) (.key (.cons (.var 4) (.cons (.var 9) .nil)))))) (.cons (.put (.var 3) (.key (.cons (.var 4) (.cons (.var 9) .nil))) (.var 10)) .nil) .nil) .nil)) .nil) .nil)) .nil)) .nil)) (.cons (.ret (.frz 3)) .nil)))
abbrev N__law_step : List Str := ["found", "arcs", "free", "later", "begin", "middle", "at", "end", "cost_so", "last", "more"]
def F__law_step : Fd := ⟨2, 11, B__law_step⟩
def B_edges_of : Ss := (.cons (.set 1 (.lst .nil)) (.cons (.for_ (.tup (.cons (.nm 2) (.cons (.tup (.cons (.nm 3) (.cons (.nm 4) (.cons (.nm 5) (.cons (.nm 6) (.cons (.nm 7) (.cons (.nm 8) .nil))))))) .nil))) (.enum (.op2 .ix (.var 0) (.con (.int 0)))) (.cons (.set 1 (.op2 .add (.var 1) (.lst (.cons (.tup (.cons (.call j_chip_node (.cons (.var 5) .nil)) (.cons (.call j_cup_node (.cons (.var 4) .nil)) (.cons (.var 3) (.cons (.tup (.cons (.con (.str "take")) (.cons (.var 2) .nil))) .nil))))) .nil)))) (.cons (.set 1 (.op2 .add (.var 1) (.lc (.nm 10) (.seq (.var 6)) (.con (.bl true)) (.tup (.cons (.call j_cup_node (.cons (.var 10) .nil)) (.cons (.call j_chip_node (.cons (.var 7) .nil)) (.cons (.op2 .sub (.con (.int 0)) (.var 8)) (.cons (.tup (.cons (.con (.str "give")) (.cons (.var 2) (.cons (.var 10) .nil)))) .nil))))) [10]))) .nil))) (.cons (.for_ (.tup (.cons (.nm 2) (.cons (.tup (.cons (.nm 9) (.cons (.nm 10) (.cons (.nm 11) .nil)))) .nil))) (.enum (.op2 .ix (.var 0) (.con (.int 1)))) (.cons (.set 12 (.ite (.cmp .eq (.var 9) (.con (.str "cup"))) (.tup (.cons (.con (.int 0)) (.cons (.call j_cup_node (.cons (.var 10) .nil)) .nil))) (.tup (.cons (.call j_chip_node (.cons (.var 10) .nil)) (.cons (.con (.int 0)) .nil))))) (.cons (.set 1 (.op2 .add (.var 1) (.lst (.cons (.op2 .add (.var 12) (.tup (.cons (.var 11) (.cons (.tup (.cons (.con (.str "buy")) (.cons (.var 2) .nil))) .nil)))) .nil)))) .nil))) (.cons (.ret (.var 1)) .nil))))
abbrev N_edges_of : List Str := ["fair", "found", "number", "deposit", "cup", "chip", "takes", "needs", "refund", "word", "sort", "price", "ends"]
def F_edges_of : Fd := ⟨1, 13, B_edges_of⟩
def B_ways_of : Ss := (.cons (.set 1 (.call0 j_thrown)) (.cons (.for_ (.nm 2) (.rng (.con (.int 7))) (.cons (.set 1 (.call j_longer (.cons (.var 1) (.cons (.var 0) .nil)))) (.cons (.ite (.b .any (.cons (.lc (.nm 3) (.rng (.con (.int 7))) (.con (.bl true)) (.cmp .lt (.op2 .ix (.op2 .ix (.var 1) (.key (.cons (.var 3) (.cons (.var 3) .nil)))) (.con (.int 0))) (.con (.int 0))) [3]) .nil)) (.cons (.ret (.con .non)) .nil) .nil) .nil))) (.cons (.ret (.var 1)) .nil)))
abbrev N_ways_of : List Str := ["edges", "ways", "turn", "node"]
def F_ways_of : Fd := ⟨1, 4, B_ways_of⟩
def B_fewest_pump : Ss := (.cons (.set 1 (.call0 j_thrown)) (.cons (.for_ (.nm 2) (.rng (.con (.int 7))) (.cons (.set 1 (.call j_longer (.cons (.var 1) (.cons (.var 0) .nil)))) (.cons (.for_ (.nm 3) (.rng (.con (.int 7))) (.cons (.ite (.cmp .lt (.op2 .ix (.op2 .ix (.var 1) (.key (.cons (.var 3) (.cons (.var 3) .nil)))) (.con (.int 0))) (.con (.int 0))) (.cons (.ret (.op2 .ix (.op2 .ix (.var 1) (.key (.cons (.var 3) (.cons (.var 3) .nil)))) (.con (.int 1)))) .nil) .nil) .nil)) .nil))) (.cons (.ret (.con .non)) .nil)))
abbrev N_fewest_pump : List Str := ["edges", "ways", "turn", "node"]
def F_fewest_pump : Fd := ⟨1, 4, B_fewest_pump⟩
def B_in_turn : Ss := (.cons (.set 1 (.lc (.nm 2) (.seq (.var 0)) (.cmp .ne (.op2 .ix (.var 2) (.con (.int 0))) (.con (.str "give"))) (.var 2) [2])) (.cons (.ret (.b .tuple (.cons (.op2 .add (.var 1) (.lc (.nm 2) (.seq (.var 0)) (.cmp .eq (.op2 .ix (.var 2) (.con (.int 0))) (.con (.str "give"))) (.var 2) [2])) .nil))) .nil))
abbrev N_in_turn : List Str := ["deeds", "first", "deed"]
def F_in_turn : Fd := ⟨1, 3, B_in_turn⟩
def B_chip_node : Ss := (.cons (.ret (.ite (.cmp .is_ (.var 0) (.con .non)) (.con (.int 0)) (.op2 .add (.con (.int 4)) (.var 0)))) .nil)
abbrev N_chip_node : List Str := ["sort"]
def F_chip_node : Fd := ⟨1, 1, B_chip_node⟩
def B_cup_node : Ss := (.cons (.ret (.op2 .add (.con (.int 1)) (.var 0))) .nil)
abbrev N_cup_node : List Str := ["sort"]
def F_cup_node : Fd := ⟨1, 1, B_cup_node⟩
def B_longer : Ss := (.cons (.set 2 (.mk (.con (.dct [])))) (.cons (.forK (.nm 3) 0 (.cons (.put (.var 2) (.var 3) (.op2 .ix (.var 0) (.var 3))) .nil)) (.cons (.set 4 (.call0 j_thrown)) (.cons (.forK (.tup (.cons (.nm 5) (.cons (.nm 6) .nil))) 0 (.cons (.asg (.tup (.cons (.nm 7) (.cons (.nm 8) .nil))) (.op2 .ix (.var 0) (.key (.cons (.var 5) (.cons (.var 6) .nil))))) (.cons (.for_ (.tup (.cons (.nm 9) (.cons (.nm 10) (.cons (.nm 11) (.cons (.nm 12) .nil))))) (.seq (.var 1)) (.cons (.ite (.cmp .eq (.var 9) (.var 6)) (.cons (.for_ (.nm 13) (.rng (.con (.int 7))) (.cons (.set 14 (.tup (.cons (.op2 .add (.var 7) (.var 11)) (.cons (.op2 .add (.var 8) (.tup (.cons (.var 12) .nil))) .nil)))) (.cons (.ite (.and (.cmp .in_ (.key (.cons (.var 10) (.cons (.var 13) .nil))) (.var 4)) (.or (.cmp .notin (.key (.cons (.var 5) (.cons (.var 13) .nil))) (.var 2)) (.cmp .lt (.op2 .ix (.var 14) (.con (.int 0))) (.op2 .ix (.op2 .ix (.var 2) (.key (.cons (.var 5) (.cons (.var 13) .nil)))) (.con (.int 0)))))) (.cons (.put (.var 2) (.key (.cons (.var 5) (.cons (.var 13) .nil))) (.var 14)) .nil) .nil) .nil))) .nil) .nil) .nil)) .nil))) (.cons (.ret (.frz 2)) .nil)))))
abbrev N_longer : List Str := ["ways", "edges", "found", "pair", "free", "node", "other", "cost", "deeds", "begin", "end", "price", "deed", "last", "more"]
def F_longer : Fd := ⟨2, 15, B_longer⟩
def B_thrown : Ss := (.cons (.set 0 (.mk (.con (.dct [])))) (.cons (.for_ (.nm 1) (.rng (.con (.int 7))) (.cons (.put (.var 0) (.key (.cons (.var 1) (.cons (.var 1) .nil))) (.tup (.cons (.con (.int 0)) (.cons (.tup .nil) .nil)))) .nil)) (.cons (.for_ (.nm 1) (.rng2 (.con (.int 1)) (.con (.int 4))) (.cons (.put (.var 0) (.key (.cons (.var 1) (.cons (.con (.int 0)) .nil))) (.tup (.cons (.con (.int 0)) (.cons (.tup .nil) .nil)))) (.cons (.put (.var 0) (.key (.cons (.con (.int 0)) (.cons (.op2 .add (.var 1) (.con (.int 3))) .nil))) (.tup (.cons (.con (.int 0)) (.cons (.tup .nil) .nil)))) (.cons (.for_ (.nm 2) (.rng2 (.con (.int 4)) (.con (.int 7))) (.cons (.put (.var 0) (.key (.cons (.var 1) (.cons (.var 2) .nil))) (.tup (.cons (.con (.int 0)) (.cons (.tup .nil) .nil)))) .nil)) .nil)))) (.cons (.ret (.frz 0)) .nil))))
abbrev N_thrown : List Str := ["found", "node", "other"]
def F_thrown : Fd := ⟨0, 3, B_thrown⟩
def B_law_k04 : Ss := (.cons (.for_ (.nm 1) (.rng (.op2 .add (.con (.int 1)) (.b .min2 (.cons (.b .len (.cons (.var 0) .nil)) (.cons (.con (.int 10)) .nil))))) (.cons (.set 2 (.call j__law_source (.cons (.var 0) (.cons (.var 1) .nil)))) (.cons (.for_ (.nm 3) (.rng (.con (.int 3))) (.cons (.set 4 (.call j__law_fair (.cons (.var 2) (.cons (.con (.int 4)) .nil)))) (.cons (.whl (.and (.not (.call j_is_sound (.cons (.var 4) .nil))) (.cmp .gt (.b .len (.cons (.op2 .ix (.var 4) (.con (.int 0))) .nil)) (.con (.int 1)))) (.cons (.ite (.not (.call j__law_pumped (.cons (.var 4) (.cons (.call j_pump (.cons (.var 4) .nil)) .nil)))) (.cons (.ret (.con (.bl false))) .nil) .nil) (.cons (.set 4 (.tup (.cons (.slc (.op2 .ix (.var 4) (.con (.int 0))) (.yes (.con (.int 1))) .no) (.cons (.op2 .ix (.var 4) (.con (.int 1))) .nil)))) .nil))) (.cons (.ite (.not (.call j_is_sound (.cons (.var 4) .nil))) (.cons .cont .nil) .nil) (.cons (.for_ (.nm 5) (.rng (.con (.int 6))) (.cons (.set 6 (.call j__law_back (.cons (.var 4) (.cons (.call j__law_row (.cons (.var 2) (.cons (.var 4) (.cons (.tup .nil) (.cons (.con (.int 30)) .nil))))) .nil)))) (.cons (.ite (.or (.not (.call j_is_row (.cons (.var 4) (.cons (.tup .nil) (.cons (.var 6) .nil))))) (.cmp .gt (.call j_money (.cons (.var 4) (.cons (.tup .nil) (.cons (.var 6) .nil)))) (.con (.int 0)))) (.cons (.ret (.con (.bl false))) .nil) .nil) .nil))) .nil))))) .nil))) (.cons (.set 7 (.tup (.cons (.tup (.cons (.tup (.cons (.con (.int 1)) (.cons (.con (.int 0)) (.cons (.con .non) (.cons (.tup (.cons (.con (.int 0)) .nil)) (.cons (.con .non) (.cons (.con (.int 1)) .nil))))))) (.cons (.tup (.cons (.con (.int 2)) (.cons (.con (.int 0)) (.cons (.con .non) (.cons (.tup (.cons (.con (.int 0)) .nil)) (.cons (.con .non) (.cons (.con (.int 2)) .nil))))))) .nil))) (.cons (.tup .nil) .nil)))) (.cons (.set 8 (.tup (.cons (.tup (.cons (.tup (.cons (.con (.int 2)) (.cons (.con (.int 0)) (.cons (.con .non) (.cons (.tup (.cons (.con (.int 0)) .nil)) (.cons (.con .non) (.cons (.con (.int 2)) .nil))))))) (.cons (.tup (.cons (.con (.int 2)) (.cons (.con (.int 0)) (.cons (.con .non) (.cons (.tup (.cons (.con (.int 0)) .nil)) (.cons (.con .non) (.cons (.con (.int 2)) .nil))))))) .nil))) (.cons (.tup .nil) .nil)))) (.cons (.ret (.and (.call j__law_pumped (.cons (.var 7) (.cons (.call j_pump (.cons (.var 7) .nil)) .nil))) (.and (.call j_is_sound (.cons (.var 8) .nil)) (.cmp .is_ (.call j_pump (.cons (.var 8) .nil)) (.con .non))))) .nil))))
abbrev N_law_k04 : List Str := ["script", "k", "source", "turn", "fair", "again", "row", "two", "even"]
def F_law_k04 : Fd := ⟨1, 9, B_law_k04⟩
def B__law_back : Ss := (.cons (.set 2 (.op2 .ix (.call j__law_led (.cons (.var 0) (.cons (.tup .nil) (.cons (.var 1) .nil)))) (.con (.int 0)))) (.cons (.set 3 (.b .sorted (.cons (.lc (.nm 6) (.seq (.call j__law_deeds (.cons (.var 0) .nil))) (.cmp .eq (.op2 .ix (.var 6) (.con (.int 0))) (.con (.str "give"))) (.tup (.cons (.neg (.op2 .ix (.op2 .ix (.op2 .ix (.var 0) (.con (.int 0))) (.op2 .ix (.var 6) (.con (.int 1)))) (.con (.int 5)))) (.cons (.var 6) .nil))) [6]) .nil))) (.cons (.for_ (.nm 4) (.rng (.op2 .sub (.con (.int 60)) (.b .len (.cons (.var 1) .nil)))) (.cons (.set 5 (.lc (.tup (.cons (.nm 7) (.cons (.nm 6) .nil))) (.seq (.var 3)) (.cmp .isnot (.call j__law_done (.cons (.var 0) (.cons (.var 2) (.cons (.var 6) .nil)))) (.con .non)) (.var 6) [7, 6])) (.cons (.ite (.cmp .ne (.var 5) (.lst .nil)) (.cons (.asg (.tup (.cons (.nm 2) (.cons (.nm 1) .nil))) (.tup (.cons (.op2 .ix (.call j__law_done (.cons (.var 0) (.cons (.var 2) (.cons (.op2 .ix (.var 5) (.con (.int 0))) .nil)))) (.con (.int 0))) (.cons (.op2 .add (.var 1) (.tup (.cons (.op2 .ix (.var 5) (.con (.int 0))) .nil))) .nil)))) .nil) .nil) .nil))) (.cons (.ret (.var 1)) .nil))))
abbrev N__law_back : List Str := ["fair", "row", "things", "gives", "turn", "some", "deed", "least"]
def F__law_back : Fd := ⟨2, 8, B__law_back⟩
def B__law_pumped : Ss := (.cons (.ite (.or (.cmp .is_ (.var 1) (.con .non)) (.or (.not (.call j_is_row (.cons (.var 0) (.cons (.tup .nil) (.cons (.var 1) .nil))))) (.cmp .le (.call j_money (.cons (.var 0) (.cons (.tup .nil) (.cons (.var 1) .nil)))) (.con (.int 0))))) (.cons (.ret (.con (.bl false))) .nil) .nil) (.cons (.ret (.and (.call j_is_row (.cons (.var 0) (.cons (.tup .nil) (.cons (.op2 .mul (.var 1) (.con (.int 2))) .nil)))) (.cmp .eq (.call j_money (.cons (.var 0) (.cons (.tup .nil) (.cons (.op2 .mul (.var 1) (.con (.int 2))) .nil)))) (.op2 .mul (.con (.int 2)) (.call j_money (.cons (.var 0) (.cons (.tup .nil) (.cons (.var 1) .nil)))))))) .nil))
abbrev N__law_pumped : List Str := ["fair", "row"]
def F__law_pumped : Fd := ⟨2, 2, B__law_pumped⟩
def B__law_row : Ss := (.cons (.par2 4 5 (.b .sorted (.cons (.var 2) .nil)) (.tup .nil)) (.cons (.for_ (.nm 6) (.rng (.call j__law_draw (.cons (.var 0) (.cons (.op2 .add (.var 3) (.con (.int 1))) .nil)))) (.cons (.set 7 (.call j__law_choice (.cons (.var 0) (.cons (.call j__law_deeds (.cons (.var 1) .nil)) .nil)))) (.cons (.set 8 (.call j__law_done (.cons (.var 1) (.cons (.var 4) (.cons (.var 7) .nil))))) (.cons (.ite (.cmp .isnot (.var 8) (.con .non)) (.cons (.par2 4 5 (.op2 .ix (.var 8) (.con (.int 0))) (.op2 .add (.var 5) (.tup (.cons (.var 7) .nil)))) .nil) .nil) .nil)))) (.cons (.ret (.var 5)) .nil)))
abbrev N__law_row : List Str := ["source", "fair", "have", "most", "things", "row", "turn", "deed", "there"]
def F__law_row : Fd := ⟨4, 9, B__law_row⟩
def B_is_row : Ss := (.cons (.expr (.call j_need_fair (.cons (.var 0) .nil))) (.cons (.expr (.call j_need_lot (.cons (.var 1) .nil))) (.cons (.ret (.call j_has_row (.cons (.var 0) (.cons (.var 1) (.cons (.var 2) .nil))))) .nil)))
abbrev N_is_row : List Str := ["fair", "have", "value"]
def F_is_row : Fd := ⟨3, 3, B_is_row⟩
def B_money : Ss := (.cons (.expr (.call j_need_row (.cons (.var 0) (.cons (.var 1) (.cons (.var 2) .nil))))) (.cons (.ret (.op2 .ix (.call j_led (.cons (.var 0) (.cons (.var 1) (.cons (.var 2) .nil)))) (.con (.int 1)))) .nil))
abbrev N_money : List Str := ["fair", "have", "row"]
def F_money : Fd := ⟨3, 3, B_money⟩
def B_has_row : Ss := (.cons (.ret (.and (.call j_is_tuple (.cons (.var 2) (.cons (.con (.int 0)) (.cons (.con (.int 60)) .nil)))) (.cmp .isnot (.call j_led (.cons (.var 0) (.cons (.var 1) (.cons (.var 2) .nil)))) (.con .non)))) .nil)
abbrev N_has_row : List Str := ["fair", "have", "value"]
def F_has_row : Fd := ⟨3, 3, B_has_row⟩
def B_need_lot : Ss := (.cons (.ite (.not (.call j_has_lot (.cons (.var 0) .nil))) (.cons (.raise x_InvalidThings) .nil) .nil) .nil)
abbrev N_need_lot : List Str := ["value"]
def F_need_lot : Fd := ⟨1, 1, B_need_lot⟩
def B_led : Ss := (.cons (.par2 3 4 (.b .tuple (.cons (.var 1) .nil)) (.con (.int 0))) (.cons (.for_ (.nm 5) (.seq (.var 2)) (.cons (.set 6 (.ite (.call j_is_deed (.cons (.var 0) (.cons (.var 5) .nil))) (.call j_done (.cons (.var 0) (.cons (.var 3) (.cons (.var 5) .nil)))) (.con .non))) (.cons (.ite (.cmp .is_ (.var 6) (.con .non)) (.cons (.ret (.con .non)) .nil) .nil) (.cons (.par2 3 4 (.op2 .ix (.var 6) (.con (.int 0))) (.op2 .add (.var 4) (.op2 .ix (.var 6) (.con (.int 1))))) .nil)))) (.cons (.ret (.tup (.cons (.var 3) (.cons (.var 4) .nil)))) .nil)))
abbrev N_led : List Str := ["fair", "have", "row", "things", "money", "deed", "there"]
def F_led : Fd := ⟨3, 7, B_led⟩
def B_need_row : Ss := (.cons (.expr (.call j_need_fair (.cons (.var 0) .nil))) (.cons (.expr (.call j_need_lot (.cons (.var 1) .nil))) (.cons (.ite (.not (.call j_has_row (.cons (.var 0) (.cons (.var 1) (.cons (.var 2) .nil))))) (.cons (.raise x_InvalidRow) .nil) .nil) .nil)))
abbrev N_need_row : List Str := ["fair", "have", "value"]
def F_need_row : Fd := ⟨3, 3, B_need_row⟩
def B_done : Ss := (.cons (.asg (.tup (.cons (.nm 3) (.cons (.nm 4) (.cons (.nm 5) .nil)))) (.call j_parts_of (.cons (.var 0) (.cons (.var 2) .nil)))) (.cons (.set 6 (.call j_without (.cons (.var 1) (.cons (.var 4) .nil)))) (.cons (.ret (.ite (.cmp .is_ (.var 6) (.con .non)) (.con .non) (.tup (.cons (.b .tuple (.cons (.b .sorted (.cons (.op2 .add (.var 6) (.var 3)) .nil)) .nil)) (.cons (.var 5) .nil))))) .nil)))
abbrev N_done : List Str := ["fair", "things", "deed", "come", "gone", "money", "rest"]
def F_done : Fd := ⟨3, 7, B_done⟩
def B_is_deed : Ss := (.cons (.ite (.or (.not (.call j_is_tuple (.cons (.var 1) (.cons (.con (.int 2)) (.cons (.con (.int 3)) .nil))))) (.not (.isi (.op2 .ix (.var 1) (.con (.int 0))) .str))) (.cons (.ret (.con (.bl false))) .nil) .nil) (.cons (.ite (.b .any (.cons (.lc (.nm 2) (.seq (.slc (.var 1) (.yes (.con (.int 1))) .no)) (.con (.bl true)) (.isi (.var 2) .bool) [2]) .nil)) (.cons (.ret (.con (.bl false))) .nil) .nil) (.cons (.ret (.cmp .in_ (.var 1) (.call j_every_deed (.cons (.var 0) .nil)))) .nil)))
abbrev N_is_deed : List Str := ["fair", "value", "part"]
def F_is_deed : Fd := ⟨2, 3, B_is_deed⟩
def B_parts_of : Ss := (.cons (.ite (.cmp .eq (.op2 .ix (.var 1) (.con (.int 0))) (.con (.str "buy"))) (.cons (.asg (.tup (.cons (.nm 2) (.cons (.nm 3) (.cons (.nm 4) .nil)))) (.op2 .ix (.op2 .ix (.var 0) (.con (.int 1))) (.op2 .ix (.var 1) (.con (.int 1))))) (.cons (.ret (.tup (.cons (.tup (.cons (.tup (.cons (.var 2) (.cons (.var 3) .nil))) .nil)) (.cons (.tup .nil) (.cons (.op2 .sub (.con (.int 0)) (.var 4)) .nil))))) .nil)) .nil) (.cons (.asg (.tup (.cons (.nm 5) (.cons (.nm 6) (.cons (.nm 7) (.cons (.nm 8) (.cons (.nm 9) (.cons (.nm 10) .nil))))))) (.op2 .ix (.op2 .ix (.var 0) (.con (.int 0))) (.op2 .ix (.var 1) (.con (.int 1))))) (.cons (.ite (.cmp .eq (.op2 .ix (.var 1) (.con (.int 0))) (.con (.str "take"))) (.cons (.ret (.tup (.cons (.op2 .add (.tup (.cons (.tup (.cons (.con (.str "cup")) (.cons (.var 6) .nil))) .nil)) (.ite (.cmp .isnot (.var 7) (.con .non)) (.tup (.cons (.tup (.cons (.con (.str "chip")) (.cons (.var 7) .nil))) .nil)) (.tup .nil))) (.cons (.tup .nil) (.cons (.op2 .sub (.con (.int 0)) (.var 5)) .nil))))) .nil) .nil) (.cons (.ret (.tup (.cons (.tup .nil) (.cons (.op2 .add (.tup (.cons (.tup (.cons (.con (.str "cup")) (.cons (.op2 .ix (.var 1) (.con (.int 2))) .nil))) .nil)) (.ite (.cmp .isnot (.var 9) (.con .non)) (.tup (.cons (.tup (.cons (.con (.str "chip")) (.cons (.var 9) .nil))) .nil)) (.tup .nil))) (.cons (.var 10) .nil))))) .nil))))
abbrev N_parts_of : List Str := ["fair", "deed", "word", "sort", "price", "deposit", "cup", "chip", "takes", "needs", "refund"]
def F_parts_of : Fd := ⟨2, 11, B_parts_of⟩
def B_without : Ss := (.cons (.for_ (.nm 2) (.seq (.var 1)) (.cons (.ite (.cmp .notin (.var 2) (.var 0)) (.cons (.ret (.con .non)) .nil) .nil) (.cons (.set 3 (.m .index (.var 0) (.cons (.var 2) .nil))) (.cons (.set 0 (.op2 .add (.slc (.var 0) .no (.yes (.var 3))) (.slc (.var 0) (.yes (.op2 .add (.var 3) (.con (.int 1)))) .no))) .nil)))) (.cons (.ret (.var 0)) .nil))
abbrev N_without : List Str := ["things", "gone", "thing", "at"]
def F_without : Fd := ⟨2, 4, B_without⟩
def B_law_k05 : Ss := (.cons (.for_ (.nm 1) (.rng (.op2 .add (.con (.int 1)) (.b .min2 (.cons (.b .len (.cons (.var 0) .nil)) (.cons (.con (.int 10)) .nil))))) (.cons (.set 2 (.call j__law_source (.cons (.var 0) (.cons (.var 1) .nil)))) (.cons (.for_ (.nm 3) (.rng (.con (.int 4))) (.cons (.set 4 (.call j__law_fair (.cons (.var 2) (.cons (.con (.int 4)) .nil)))) (.cons (.set 5 (.call j_price_tags (.cons (.var 4) .nil))) (.cons (.ite (.or (.cmp .ne (.cmp .isnot (.var 5) (.con .non)) (.call j_is_sound (.cons (.var 4) .nil))) (.and (.cmp .isnot (.var 5) (.con .non)) (.not (.call j__law_right (.cons (.var 4) (.cons (.var 5) .nil)))))) (.cons (.ret (.con (.bl false))) .nil) .nil) .nil)))) .nil))) (.cons (.set 6 (.tup (.cons (.tup (.cons (.tup (.cons (.con (.int 3)) (.cons (.con (.int 0)) (.cons (.con (.int 0)) (.cons (.tup (.cons (.con (.int 0)) .nil)) (.cons (.con (.int 0)) (.cons (.con (.int 3)) .nil))))))) (.cons (.tup (.cons (.con (.int 1)) (.cons (.con (.int 0)) (.cons (.con .non) (.cons (.tup (.cons (.con (.int 0)) .nil)) (.cons (.con .non) (.cons (.con (.int 1)) .nil))))))) .nil))) (.cons (.tup .nil) .nil)))) (.cons (.set 5 (.call j_price_tags (.cons (.var 6) .nil))) (.cons (.ite (.or (.not (.call j__law_right (.cons (.var 6) (.cons (.var 5) .nil)))) (.cmp .ne (.tup (.cons (.op2 .ix (.op2 .ix (.var 5) (.con (.int 0))) (.con (.int 0))) (.cons (.op2 .ix (.op2 .ix (.var 5) (.con (.int 1))) (.con (.int 0))) .nil))) (.tup (.cons (.con (.int 1)) (.cons (.con (.int 2)) .nil))))) (.cons (.ret (.con (.bl false))) .nil) .nil) (.cons (.set 7 (.tup (.cons (.tup (.cons (.tup (.cons (.con (.int 1)) (.cons (.con (.int 0)) (.cons (.con .non) (.cons (.tup (.cons (.con (.int 0)) .nil)) (.cons (.con (.int 2)) (.cons (.con (.int 9)) .nil))))))) .nil)) (.cons (.tup .nil) .nil)))) (.cons (.set 8 (.tup (.cons (.tup (.cons (.tup (.cons (.con (.int 1)) (.cons (.con (.int 0)) (.cons (.con .non) (.cons (.tup (.cons (.con (.int 0)) .nil)) (.cons (.con .non) (.cons (.con (.int 1)) .nil))))))) (.cons (.tup (.cons (.con (.int 2)) (.cons (.con (.int 0)) (.cons (.con .non) (.cons (.tup (.cons (.con (.int 0)) .nil)) (.cons (.con .non) (.cons (.con (.int 2)) .nil))))))) .nil))) (.cons (.tup .nil) .nil)))) (.cons (.ret (.and (.call j__law_right (.cons (.var 7) (.cons (.call j_price_tags (.cons (.var 7) .nil)) .nil))) (.cmp .is_ (.call j_price_tags (.cons (.var 8) .nil)) (.con .non)))) .nil)))))))
abbrev N_law_k05 : List Str := ["script", "k", "source", "turn", "fair", "prices", "chips", "far", "two"]
def F_law_k05 : Fd := ⟨1, 9, B_law_k05⟩
def B__law_right : Ss := (.cons (.ite (.or (.not (.isi (.var 1) .tuple)) (.cmp .ne (.lc (.nm 12) (.seq (.var 1)) (.con (.bl true)) (.b .len (.cons (.var 12) .nil)) [12]) (.lst (.cons (.con (.int 3)) (.cons (.con (.int 3)) .nil))))) (.cons (.ret (.con (.bl false))) .nil) .nil) (.cons (.ite (.cmp .ne (.lc (.nm 9) (.seq (.op2 .add (.op2 .ix (.var 1) (.con (.int 0))) (.op2 .ix (.var 1) (.con (.int 1))))) (.not (.call j__law_from (.cons (.var 9) (.cons (.con (.int 0)) (.cons (.var 9) .nil))))) (.var 9) [9]) (.lst .nil)) (.cons (.ret (.con (.bl false))) .nil) .nil) (.cons (.for_ (.tup (.cons (.nm 2) (.cons (.nm 3) (.cons (.nm 4) (.cons (.nm 5) (.cons (.nm 6) (.cons (.nm 7) .nil))))))) (.seq (.op2 .ix (.var 0) (.con (.int 0)))) (.cons (.ite (.cmp .lt (.var 2) (.op2 .add (.call j__law_price (.cons (.var 1) (.cons (.con (.str "cup")) (.cons (.var 3) .nil)))) (.call j__law_price (.cons (.var 1) (.cons (.con (.str "chip")) (.cons (.var 4) .nil)))))) (.cons (.ret (.con (.bl false))) .nil) .nil) (.cons (.for_ (.nm 8) (.seq (.var 5)) (.cons (.ite (.cmp .gt (.var 7) (.op2 .add (.call j__law_price (.cons (.var 1) (.cons (.con (.str "cup")) (.cons (.var 8) .nil)))) (.call j__law_price (.cons (.var 1) (.cons (.con (.str "chip")) (.cons (.var 6) .nil)))))) (.cons (.ret (.con (.bl false))) .nil) .nil) .nil)) .nil))) (.cons (.ret (.cmp .eq (.lc (.tup (.cons (.nm 10) (.cons (.nm 8) (.cons (.nm 11) .nil)))) (.seq (.op2 .ix (.var 0) (.con (.int 1)))) (.cmp .lt (.var 11) (.call j__law_price (.cons (.var 1) (.cons (.var 10) (.cons (.var 8) .nil))))) (.con (.int 1)) [10, 8, 11]) (.lst .nil))) .nil))))
abbrev N__law_right : List Str := ["fair", "prices", "deposit", "cup", "chip", "takes", "needs", "refund", "sort", "part", "word", "price", "row"]
def F__law_right : Fd := ⟨2, 13, B__law_right⟩
def B_price_tags : Ss := (.cons (.expr (.call j_need_fair (.cons (.var 0) .nil))) (.cons (.set 1 (.call j_ways_of (.cons (.call j_edges_of (.cons (.var 0) .nil)) .nil))) (.cons (.ite (.cmp .is_ (.var 1) (.con .non)) (.cons (.ret (.con .non)) .nil) .nil) (.cons (.set 2 (.b .tuple (.cons (.lc (.nm 3) (.rng (.con (.int 3))) (.con (.bl true)) (.op2 .sub (.con (.int 0)) (.op2 .ix (.op2 .ix (.var 1) (.key (.cons (.call j_cup_node (.cons (.var 3) .nil)) (.cons (.con (.int 0)) .nil)))) (.con (.int 0)))) [3]) .nil))) (.cons (.ret (.tup (.cons (.var 2) (.cons (.b .tuple (.cons (.lc (.nm 3) (.rng (.con (.int 3))) (.con (.bl true)) (.op2 .ix (.m .get (.var 1) (.cons (.key (.cons (.call j_chip_node (.cons (.var 3) .nil)) (.cons (.con (.int 0)) .nil))) (.cons (.tup (.cons (.con (.int 9)) (.cons (.tup .nil) .nil))) .nil))) (.con (.int 0))) [3]) .nil)) .nil)))) .nil)))))
abbrev N_price_tags : List Str := ["fair", "ways", "cups", "sort"]
def F_price_tags : Fd := ⟨1, 4, B_price_tags⟩
def B__law_price : Ss := (.cons (.ret (.ite (.cmp .is_ (.var 2) (.con .non)) (.con (.int 0)) (.op2 .ix (.op2 .ix (.var 0) (.b .int (.cons (.cmp .eq (.var 1) (.con (.str "chip"))) .nil))) (.var 2)))) .nil)
abbrev N__law_price : List Str := ["prices", "word", "sort"]
def F__law_price : Fd := ⟨3, 3, B__law_price⟩
def B_law_k06 : Ss := (.cons (.for_ (.nm 1) (.rng (.op2 .add (.con (.int 1)) (.b .min2 (.cons (.b .len (.cons (.var 0) .nil)) (.cons (.con (.int 8)) .nil))))) (.cons (.set 2 (.call j__law_source (.cons (.var 0) (.cons (.var 1) .nil)))) (.cons (.for_ (.nm 3) (.rng (.con (.int 2))) (.cons (.set 4 (.call j__law_fair (.cons (.var 2) (.cons (.con (.int 4)) .nil)))) (.cons (.whl (.and (.cmp .is_ (.call j__law_costs (.cons (.call j__law_arcs (.cons (.var 4) (.cons (.lst .nil) .nil))) .nil)) (.con .non)) (.cmp .gt (.b .len (.cons (.op2 .ix (.var 4) (.con (.int 0))) .nil)) (.con (.int 1)))) (.cons (.ite (.not (.call j__law_unsound (.cons (.var 4) .nil))) (.cons (.ret (.con (.bl false))) .nil) .nil) (.cons (.set 4 (.tup (.cons (.slc (.op2 .ix (.var 4) (.con (.int 0))) (.yes (.con (.int 1))) .no) (.cons (.op2 .ix (.var 4) (.con (.int 1))) .nil)))) .nil))) (.cons (.set 5 (.call j__law_costs (.cons (.call j__law_arcs (.cons (.var 4) (.cons (.lst .nil) .nil))) .nil))) (.cons (.for_ (.nm 6) (.rng (.ite (.cmp .isnot (.var 5) (.con .non)) (.con (.int 15)) (.con (.int 0)))) (.cons (.par2 7 8 (.call j__law_lot (.cons (.var 2) (.cons (.con (.int 2)) .nil))) (.call j__law_lot (.cons (.var 2) (.cons (.con (.int 2)) .nil)))) (.cons (.ite (.cmp .ne (.call j_cost (.cons (.var 4) (.cons (.var 7) (.cons (.var 8) .nil)))) (.call j__law_due (.cons (.var 5) (.cons (.var 7) (.cons (.var 8) .nil))))) (.cons (.ret (.con (.bl false))) .nil) .nil) .nil))) .nil))))) .nil))) (.cons (.asg (.tup (.cons (.nm 9) (.cons (.nm 10) (.cons (.nm 11) .nil)))) (.tup (.cons (.tup (.cons (.con (.str "cup")) (.cons (.con (.int 0)) .nil))) (.cons (.tup (.cons (.con (.str "cup")) (.cons (.con (.int 1)) .nil))) (.cons (.tup (.cons (.con (.str "chip")) (.cons (.con (.int 0)) .nil))) .nil))))) (.cons (.set 12 (.tup (.cons (.tup (.cons (.tup (.cons (.con (.int 2)) (.cons (.con (.int 0)) (.cons (.con .non) (.cons (.tup (.cons (.con (.int 0)) .nil)) (.cons (.con .non) (.cons (.con (.int 2)) .nil))))))) (.cons (.tup (.cons (.con (.int 1)) (.cons (.con (.int 1)) (.cons (.con .non) (.cons (.tup (.cons (.con (.int 0)) (.cons (.con (.int 1)) .nil))) (.cons (.con .non) (.cons (.con (.int 1)) .nil))))))) .nil))) (.cons (.tup .nil) .nil)))) (.cons (.set 13 (.mk (.lst (.cons (.call j_cost (.cons (.var 12) (.cons (.tup .nil) (.cons (.tup (.cons (.var 9) .nil)) .nil)))) (.cons (.call j_cost (.cons (.var 12) (.cons (.tup (.cons (.var 9) .nil)) (.cons (.tup .nil) .nil)))) (.cons (.call j_cost (.cons (.var 12) (.cons (.tup (.cons (.var 10) .nil)) (.cons (.tup (.cons (.var 9) .nil)) .nil)))) .nil)))))) (.cons (.set 13 (.mk (.op2 .add (.var 13) (.lst (.cons (.call j_cost (.cons (.var 12) (.cons (.tup (.cons (.var 9) .nil)) (.cons (.tup (.cons (.var 10) .nil)) .nil)))) (.cons (.call j_cost (.cons (.var 12) (.cons (.tup .nil) (.cons (.tup (.cons (.var 11) .nil)) .nil)))) (.cons (.call j_cost (.cons (.var 12) (.cons (.tup (.cons (.var 9) (.cons (.var 9) .nil))) (.cons (.tup (.cons (.var 10) .nil)) .nil)))) .nil))))))) (.cons (.ite (.cmp .ne (.var 13) (.lst (.cons (.con (.int 2)) (.cons (.neg (.con (.int 2))) (.cons (.con (.int 1)) (.cons (.neg (.con (.int 1))) (.cons (.con .non) (.cons (.neg (.con (.int 3))) .nil)))))))) (.cons (.ret (.con (.bl false))) .nil) .nil) (.cons (.set 14 (.tup (.cons (.tup (.cons (.tup (.cons (.con (.int 3)) (.cons (.con (.int 0)) (.cons (.con (.int 0)) (.cons (.tup (.cons (.con (.int 0)) .nil)) (.cons (.con (.int 0)) (.cons (.con (.int 3)) .nil))))))) (.cons (.tup (.cons (.con (.int 1)) (.cons (.con (.int 0)) (.cons (.con .non) (.cons (.tup (.cons (.con (.int 0)) .nil)) (.cons (.con .non) (.cons (.con (.int 1)) .nil))))))) .nil))) (.cons (.tup .nil) .nil)))) (.cons (.set 13 (.mk (.lst (.cons (.call j_cost (.cons (.var 14) (.cons (.tup (.cons (.var 11) .nil)) (.cons (.tup .nil) .nil)))) (.cons (.call j_cost (.cons (.var 14) (.cons (.tup .nil) (.cons (.tup (.cons (.var 11) .nil)) .nil)))) (.cons (.call j_cost (.cons (.var 14) (.cons (.tup .nil) (.cons (.tup (.cons (.var 11) (.cons (.var 11) .nil))) .nil)))) .nil)))))) (.cons (.app (.var 13) (.call j_cost (.cons (.var 14) (.cons (.tup (.cons (.var 9) (.cons (.var 9) .nil))) (.cons (.tup .nil) .nil))))) (.cons (.ite (.or (.cmp .ne (.var 13) (.lst (.cons (.neg (.con (.int 2))) (.cons (.con (.int 2)) (.cons (.con (.int 4)) (.cons (.neg (.con (.int 2))) .nil)))))) (.cmp .ne (.call j_cost (.cons (.var 14) (.cons (.tup (.cons (.var 11) (.cons (.var 9) .nil))) (.cons (.tup .nil) .nil)))) (.neg (.con (.int 3))))) (.cons (.ret (.con (.bl false))) .nil) .nil) (.cons (.ret (.and (.cmp .is_ (.call j_cost (.cons (.var 14) (.cons (.tup (.cons (.var 9) .nil)) (.cons (.tup (.cons (.var 10) .nil)) .nil)))) (.con .non)) (.cmp .eq (.call j_cost (.cons (.var 12) (.cons (.tup (.cons (.var 9) .nil)) (.cons (.tup (.cons (.var 9) .nil)) .nil)))) (.con (.int 0))))) .nil)))))))))))
abbrev N_law_k06 : List Str := ["script", "k", "source", "turn", "fair", "costs", "again", "have", "want", "cup", "mug", "chip", "plain", "told", "chips"]
def F_law_k06 : Fd := ⟨1, 15, B_law_k06⟩
def B__law_due : Ss := (.cons (.set 3 (.op2 .add (.lc (.tup (.cons (.nm 5) (.cons (.nm 6) .nil))) (.seq (.var 1)) (.cmp .eq (.var 5) (.con (.str "cup"))) (.op2 .add (.con (.int 1)) (.var 6)) [5, 6]) (.lc (.tup (.cons (.nm 5) (.cons (.nm 6) .nil))) (.seq (.var 2)) (.cmp .eq (.var 5) (.con (.str "chip"))) (.op2 .add (.con (.int 4)) (.var 6)) [5, 6]))) (.cons (.set 4 (.op2 .add (.lc (.tup (.cons (.nm 5) (.cons (.nm 6) .nil))) (.seq (.var 2)) (.cmp .eq (.var 5) (.con (.str "cup"))) (.op2 .add (.con (.int 1)) (.var 6)) [5, 6]) (.lc (.tup (.cons (.nm 5) (.cons (.nm 6) .nil))) (.seq (.var 1)) (.cmp .eq (.var 5) (.con (.str "chip"))) (.op2 .add (.con (.int 4)) (.var 6)) [5, 6]))) (.cons (.ret (.call j__law_cost (.cons (.var 0) (.cons (.var 3) (.cons (.var 4) .nil))))) .nil)))
abbrev N__law_due : List Str := ["costs", "have", "want", "begins", "ends", "word", "sort"]
def F__law_due : Fd := ⟨3, 7, B__law_due⟩
def B__law_unsound : Ss := (.cons (.try_ (.cons (.expr (.call j_cost (.cons (.var 0) (.cons (.tup .nil) (.cons (.tup .nil) .nil))))) .nil) x_Unsound (.cons (.ret (.con (.bl true))) .nil)) (.cons (.ret (.con (.bl false))) .nil))
abbrev N__law_unsound : List Str := ["fair"]
def F__law_unsound : Fd := ⟨1, 1, B__law_unsound⟩
def B_cost : Ss := (.cons (.expr (.call j_need_three (.cons (.var 0) (.cons (.var 1) (.cons (.var 2) .nil))))) (.cons (.ret (.call j_cost_by (.cons (.call j_sound_ways (.cons (.call j_edges_of (.cons (.var 0) .nil)) .nil)) (.cons (.var 1) (.cons (.var 2) .nil))))) .nil))
abbrev N_cost : List Str := ["fair", "have", "want"]
def F_cost : Fd := ⟨3, 3, B_cost⟩
def B__law_cost : Ss := (.cons (.ite (.cmp .eq (.var 1) (.lst .nil)) (.cons (.set 3 (.lc (.nm 6) (.seq (.var 2)) (.con (.bl true)) (.m .get (.var 0) (.cons (.key (.cons (.con (.int 0)) (.cons (.var 6) .nil))) (.cons (.con .non) .nil))) [6])) (.cons (.ret (.ite (.cmp .in_ (.con .non) (.var 3)) (.con .non) (.b .sum (.cons (.var 3) .nil)))) .nil)) .nil) (.cons (.set 4 (.con .non)) (.cons (.for_ (.nm 5) (.rng (.op2 .add (.b .len (.cons (.var 2) .nil)) (.con (.int 1)))) (.cons (.set 6 (.ite (.cmp .lt (.var 5) (.b .len (.cons (.var 2) .nil))) (.op2 .ix (.var 2) (.var 5)) (.con (.int 0)))) (.cons (.set 7 (.call j__law_cost (.cons (.var 0) (.cons (.slc (.var 1) (.yes (.con (.int 1))) .no) (.cons (.op2 .add (.slc (.var 2) .no (.yes (.var 5))) (.slc (.var 2) (.yes (.op2 .add (.var 5) (.con (.int 1)))) .no)) .nil))))) (.cons (.ite (.and (.cmp .isnot (.var 7) (.con .non)) (.cmp .in_ (.key (.cons (.op2 .ix (.var 1) (.con (.int 0))) (.cons (.var 6) .nil))) (.var 0))) (.cons (.set 8 (.op2 .add (.var 7) (.op2 .ix (.var 0) (.key (.cons (.op2 .ix (.var 1) (.con (.int 0))) (.cons (.var 6) .nil)))))) (.cons (.set 4 (.ite (.or (.cmp .is_ (.var 4) (.con .non)) (.cmp .lt (.var 8) (.var 4))) (.var 8) (.var 4))) .nil)) .nil) .nil)))) (.cons (.ret (.var 4)) .nil))))
abbrev N__law_cost : List Str := ["costs", "begins", "ends", "some", "best", "at", "end", "rest", "more"]
def F__law_cost : Fd := ⟨3, 9, B__law_cost⟩
def B_cost_by : Ss := (.cons (.set 3 (.call j_best_way (.cons (.var 0) (.cons (.var 1) (.cons (.var 2) .nil))))) (.cons (.ret (.ite (.cmp .is_ (.var 3) (.con .non)) (.con .non) (.op2 .ix (.var 3) (.con (.int 0))))) .nil))
abbrev N_cost_by : List Str := ["ways", "have", "want", "found"]
def F_cost_by : Fd := ⟨3, 4, B_cost_by⟩
def B_need_three : Ss := (.cons (.expr (.call j_need_fair (.cons (.var 0) .nil))) (.cons (.expr (.call j_need_lot (.cons (.var 1) .nil))) (.cons (.expr (.call j_need_lot (.cons (.var 2) .nil))) .nil)))
abbrev N_need_three : List Str := ["fair", "have", "want"]
def F_need_three : Fd := ⟨3, 3, B_need_three⟩
def B_sound_ways : Ss := (.cons (.set 1 (.call j_ways_of (.cons (.var 0) .nil))) (.cons (.ite (.cmp .is_ (.var 1) (.con .non)) (.cons (.raise x_Unsound) .nil) .nil) (.cons (.ret (.var 1)) .nil)))
abbrev N_sound_ways : List Str := ["edges", "ways"]
def F_sound_ways : Fd := ⟨1, 2, B_sound_ways⟩
def B_best_way : Ss := (.cons (.asg (.tup (.cons (.nm 3) (.cons (.nm 4) .nil))) (.call j_ends_of (.cons (.var 1) (.cons (.var 2) .nil)))) (.cons (.ret (.call j_matched (.cons (.var 0) (.cons (.var 3) (.cons (.var 4) .nil))))) .nil))
abbrev N_best_way : List Str := ["ways", "have", "want", "begins", "ends"]
def F_best_way : Fd := ⟨3, 5, B_best_way⟩
def B_ends_of : Ss := (.cons (.set 2 (.b .tuple (.cons (.lc (.tup (.cons (.nm 4) (.cons (.nm 5) .nil))) (.seq (.var 0)) (.cmp .eq (.var 4) (.con (.str "cup"))) (.call j_cup_node (.cons (.var 5) .nil)) [4, 5]) .nil))) (.cons (.set 2 (.op2 .add (.var 2) (.b .tuple (.cons (.lc (.tup (.cons (.nm 4) (.cons (.nm 5) .nil))) (.seq (.var 1)) (.cmp .eq (.var 4) (.con (.str "chip"))) (.call j_chip_node (.cons (.var 5) .nil)) [4, 5]) .nil)))) (.cons (.set 3 (.b .tuple (.cons (.lc (.tup (.cons (.nm 4) (.cons (.nm 5) .nil))) (.seq (.var 1)) (.cmp .eq (.var 4) (.con (.str "cup"))) (.call j_cup_node (.cons (.var 5) .nil)) [4, 5]) .nil))) (.cons (.ret (.tup (.cons (.var 2) (.cons (.op2 .add (.var 3) (.b .tuple (.cons (.lc (.tup (.cons (.nm 4) (.cons (.nm 5) .nil))) (.seq (.var 0)) (.cmp .eq (.var 4) (.con (.str "chip"))) (.call j_chip_node (.cons (.var 5) .nil)) [4, 5]) .nil))) .nil)))) .nil))))
abbrev N_ends_of : List Str := ["have", "want", "begins", "ends", "word", "sort"]
def F_ends_of : Fd := ⟨2, 6, B_ends_of⟩
def B_matched : Ss := (.cons (.ite (.cmp .eq (.var 1) (.tup .nil)) (.cons (.set 3 (.tup (.cons (.con (.int 0)) (.cons (.tup .nil) .nil)))) (.cons (.for_ (.nm 4) (.seq (.var 2)) (.cons (.set 3 (.call j_both (.cons (.var 3) (.cons (.m .get (.var 0) (.cons (.key (.cons (.con (.int 0)) (.cons (.var 4) .nil))) (.cons (.con .non) .nil))) .nil)))) .nil)) (.cons (.ret (.var 3)) .nil))) .nil) (.cons (.set 3 (.call j_both (.cons (.m .get (.var 0) (.cons (.key (.cons (.op2 .ix (.var 1) (.con (.int 0))) (.cons (.con (.int 0)) .nil))) (.cons (.con .non) .nil))) (.cons (.call j_matched (.cons (.var 0) (.cons (.slc (.var 1) (.yes (.con (.int 1))) .no) (.cons (.var 2) .nil)))) .nil)))) (.cons (.for_ (.tup (.cons (.nm 5) (.cons (.nm 4) .nil))) (.enum (.var 2)) (.cons (.set 6 (.call j_matched (.cons (.var 0) (.cons (.slc (.var 1) (.yes (.con (.int 1))) .no) (.cons (.op2 .add (.slc (.var 2) .no (.yes (.var 5))) (.slc (.var 2) (.yes (.op2 .add (.var 5) (.con (.int 1)))) .no)) .nil))))) (.cons (.set 3 (.call j_cheaper (.cons (.var 3) (.cons (.call j_both (.cons (.m .get (.var 0) (.cons (.key (.cons (.op2 .ix (.var 1) (.con (.int 0))) (.cons (.var 4) .nil))) (.cons (.con .non) .nil))) (.cons (.var 6) .nil))) .nil)))) .nil))) (.cons (.ret (.var 3)) .nil))))
abbrev N_matched : List Str := ["ways", "begins", "ends", "found", "end", "at", "rest"]
def F_matched : Fd := ⟨3, 7, B_matched⟩
def B_both : Ss := (.cons (.ret (.ite (.or (.cmp .is_ (.var 0) (.con .non)) (.cmp .is_ (.var 1) (.con .non))) (.con .non) (.tup (.cons (.op2 .add (.op2 .ix (.var 0) (.con (.int 0))) (.op2 .ix (.var 1) (.con (.int 0)))) (.cons (.op2 .add (.op2 .ix (.var 0) (.con (.int 1))) (.op2 .ix (.var 1) (.con (.int 1)))) .nil))))) .nil)
abbrev N_both : List Str := ["one", "other"]
def F_both : Fd := ⟨2, 2, B_both⟩
def B_cheaper : Ss := (.cons (.ite (.or (.cmp .is_ (.var 0) (.con .non)) (.cmp .is_ (.var 1) (.con .non))) (.cons (.ret (.ite (.cmp .is_ (.var 0) (.con .non)) (.var 1) (.var 0))) .nil) .nil) (.cons (.ret (.ite (.cmp .le (.op2 .ix (.var 0) (.con (.int 0))) (.op2 .ix (.var 1) (.con (.int 0)))) (.var 0) (.var 1))) .nil))
abbrev N_cheaper : List Str := ["one", "other"]
def F_cheaper : Fd := ⟨2, 2, B_cheaper⟩
def B_law_k07 : Ss := (.cons (.for_ (.nm 1) (.rng (.op2 .add (.con (.int 1)) (.b .min2 (.cons (.b .len (.cons (.var 0) .nil)) (.cons (.con (.int 8)) .nil))))) (.cons (.set 2 (.call j__law_source (.cons (.var 0) (.cons (.var 1) .nil)))) (.cons (.for_ (.nm 3) (.rng (.con (.int 2))) (.cons (.set 4 (.call j__law_fair (.cons (.var 2) (.cons (.con (.int 4)) .nil)))) (.cons (.whl (.and (.not (.call j_is_sound (.cons (.var 4) .nil))) (.cmp .gt (.b .len (.cons (.op2 .ix (.var 4) (.con (.int 0))) .nil)) (.con (.int 1)))) (.cons (.set 4 (.tup (.cons (.slc (.op2 .ix (.var 4) (.con (.int 0))) (.yes (.con (.int 1))) .no) (.cons (.op2 .ix (.var 4) (.con (.int 1))) .nil)))) .nil)) (.cons (.for_ (.nm 5) (.rng (.ite (.call j_is_sound (.cons (.var 4) .nil)) (.con (.int 15)) (.con (.int 0)))) (.cons (.par2 6 7 (.call j__law_lot (.cons (.var 2) (.cons (.con (.int 2)) .nil))) (.call j__law_lot (.cons (.var 2) (.cons (.con (.int 2)) .nil)))) (.cons (.par2 8 9 (.call j_cheap_row (.cons (.var 4) (.cons (.var 6) (.cons (.var 7) .nil)))) (.call j_cost (.cons (.var 4) (.cons (.var 6) (.cons (.var 7) .nil))))) (.cons (.ite (.cmp .ne (.cmp .is_ (.var 8) (.con .non)) (.cmp .is_ (.var 9) (.con .non))) (.cons (.ret (.con (.bl false))) .nil) .nil) (.cons (.ite (.and (.cmp .isnot (.var 8) (.con .non)) (.not (.call j__law_comes (.cons (.var 4) (.cons (.var 6) (.cons (.var 7) (.cons (.var 8) (.cons (.var 9) .nil)))))))) (.cons (.ret (.con (.bl false))) .nil) .nil) .nil))))) .nil)))) .nil))) (.cons (.set 10 (.tup (.cons (.tup (.cons (.tup (.cons (.con (.int 3)) (.cons (.con (.int 0)) (.cons (.con (.int 0)) (.cons (.tup (.cons (.con (.int 0)) .nil)) (.cons (.con (.int 0)) (.cons (.con (.int 3)) .nil))))))) (.cons (.tup (.cons (.con (.int 1)) (.cons (.con (.int 0)) (.cons (.con .non) (.cons (.tup (.cons (.con (.int 0)) .nil)) (.cons (.con .non) (.cons (.con (.int 1)) .nil))))))) .nil))) (.cons (.tup .nil) .nil)))) (.cons (.set 11 (.tup (.cons (.con (.str "chip")) (.cons (.con (.int 0)) .nil)))) (.cons (.set 8 (.call j_cheap_row (.cons (.var 10) (.cons (.tup (.cons (.var 11) .nil)) (.cons (.tup .nil) .nil))))) (.cons (.ite (.or (.cmp .is_ (.var 8) (.con .non)) (.not (.call j__law_comes (.cons (.var 10) (.cons (.tup (.cons (.var 11) .nil)) (.cons (.tup .nil) (.cons (.var 8) (.cons (.neg (.con (.int 2))) .nil)))))))) (.cons (.ret (.con (.bl false))) .nil) .nil) (.cons (.set 8 (.call j_cheap_row (.cons (.var 10) (.cons (.tup .nil) (.cons (.tup (.cons (.var 11) (.cons (.var 11) .nil))) .nil))))) (.cons (.ite (.or (.cmp .is_ (.var 8) (.con .non)) (.not (.call j__law_comes (.cons (.var 10) (.cons (.tup .nil) (.cons (.tup (.cons (.var 11) (.cons (.var 11) .nil))) (.cons (.var 8) (.cons (.con (.int 4)) .nil)))))))) (.cons (.ret (.con (.bl false))) .nil) .nil) (.cons (.ret (.cmp .is_ (.call j_cheap_row (.cons (.var 10) (.cons (.tup .nil) (.cons (.tup (.cons (.tup (.cons (.con (.str "cup")) (.cons (.con (.int 2)) .nil))) .nil)) .nil)))) (.con .non))) .nil))))))))
abbrev N_law_k07 : List Str := ["script", "k", "source", "turn", "fair", "again", "have", "want", "row", "price", "chips", "chip"]
def F_law_k07 : Fd := ⟨1, 12, B_law_k07⟩
def B__law_comes : Ss := (.cons (.set 5 (.ite (.cmp .lt (.b .len (.cons (.var 3) .nil)) (.con (.int 31))) (.call j__law_led (.cons (.var 0) (.cons (.var 1) (.cons (.var 3) .nil)))) (.con .non))) (.cons (.ite (.or (.cmp .is_ (.var 5) (.con .non)) (.cmp .ne (.op2 .ix (.var 5) (.con (.int 1))) (.neg (.var 4)))) (.cons (.ret (.con (.bl false))) .nil) .nil) (.cons (.ret (.cmp .eq (.lc (.nm 6) (.seq (.var 2)) (.cmp .lt (.m .count (.op2 .ix (.var 5) (.con (.int 0))) (.cons (.var 6) .nil)) (.m .count (.var 2) (.cons (.var 6) .nil))) (.var 6) [6]) (.lst .nil))) .nil)))
abbrev N__law_comes : List Str := ["fair", "have", "want", "row", "price", "there", "thing"]
def F__law_comes : Fd := ⟨5, 7, B__law_comes⟩
def B_cheap_row : Ss := (.cons (.expr (.call j_need_three (.cons (.var 0) (.cons (.var 1) (.cons (.var 2) .nil))))) (.cons (.set 3 (.call j_best_way (.cons (.call j_sound_ways (.cons (.call j_edges_of (.cons (.var 0) .nil)) .nil)) (.cons (.var 1) (.cons (.var 2) .nil))))) (.cons (.ret (.ite (.cmp .is_ (.var 3) (.con .non)) (.con .non) (.call j_in_turn (.cons (.op2 .ix (.var 3) (.con (.int 1))) .nil)))) .nil)))
abbrev N_cheap_row : List Str := ["fair", "have", "want", "found"]
def F_cheap_row : Fd := ⟨3, 4, B_cheap_row⟩
def B_law_k08 : Ss := (.cons (.for_ (.nm 1) (.rng (.op2 .add (.con (.int 1)) (.b .min2 (.cons (.b .len (.cons (.var 0) .nil)) (.cons (.con (.int 8)) .nil))))) (.cons (.set 2 (.call j__law_source (.cons (.var 0) (.cons (.var 1) .nil)))) (.cons (.for_ (.nm 3) (.rng (.con (.int 3))) (.cons (.set 4 (.call j__law_fair (.cons (.var 2) (.cons (.con (.int 4)) .nil)))) (.cons (.whl (.and (.not (.call j_is_sound (.cons (.var 4) .nil))) (.cmp .gt (.b .len (.cons (.op2 .ix (.var 4) (.con (.int 0))) .nil)) (.con (.int 1)))) (.cons (.set 4 (.tup (.cons (.slc (.op2 .ix (.var 4) (.con (.int 0))) (.yes (.con (.int 1))) .no) (.cons (.op2 .ix (.var 4) (.con (.int 1))) .nil)))) .nil)) (.cons (.ite (.not (.call j_is_sound (.cons (.var 4) .nil))) (.cons .cont .nil) .nil) (.cons (.for_ (.nm 5) (.rng (.con (.int 6))) (.cons (.set 6 (.call j__law_lot (.cons (.var 2) (.cons (.con (.int 2)) .nil)))) (.cons (.set 7 (.call j__law_row (.cons (.var 2) (.cons (.var 4) (.cons (.var 6) (.cons (.con (.int 25)) .nil)))))) (.cons (.set 8 (.call j__law_some (.cons (.var 2) (.cons (.call j_things_behind (.cons (.var 4) (.cons (.var 6) (.cons (.var 7) .nil)))) .nil)))) (.cons (.set 9 (.call j_cost (.cons (.var 4) (.cons (.var 6) (.cons (.var 8) .nil))))) (.cons (.ite (.or (.cmp .is_ (.var 9) (.con .non)) (.cmp .lt (.neg (.call j_money (.cons (.var 4) (.cons (.var 6) (.cons (.var 7) .nil))))) (.var 9))) (.cons (.ret (.con (.bl false))) .nil) .nil) (.cons (.ite (.not (.call j__law_joined (.cons (.var 4) (.cons (.var 6) (.cons (.var 8) (.cons (.call j__law_lot (.cons (.var 2) (.cons (.con (.int 2)) .nil))) .nil)))))) (.cons (.ret (.con (.bl false))) .nil) .nil) .nil))))))) .nil))))) .nil))) (.cons (.set 10 (.tup (.cons (.tup (.cons (.tup (.cons (.con (.int 3)) (.cons (.con (.int 0)) (.cons (.con (.int 0)) (.cons (.tup (.cons (.con (.int 0)) .nil)) (.cons (.con (.int 0)) (.cons (.con (.int 3)) .nil))))))) (.cons (.tup (.cons (.con (.int 1)) (.cons (.con (.int 0)) (.cons (.con .non) (.cons (.tup (.cons (.con (.int 0)) .nil)) (.cons (.con .non) (.cons (.con (.int 1)) .nil))))))) .nil))) (.cons (.tup .nil) .nil)))) (.cons (.ite (.or (.cmp .ne (.call j_cost (.cons (.var 10) (.cons (.tup (.cons (.tup (.cons (.con (.str "chip")) (.cons (.con (.int 0)) .nil))) .nil)) (.cons (.tup .nil) .nil)))) (.neg (.con (.int 2)))) (.cmp .ne (.call j_cost (.cons (.var 10) (.cons (.tup (.cons (.tup (.cons (.con (.str "cup")) (.cons (.con (.int 0)) .nil))) .nil)) (.cons (.tup .nil) .nil)))) (.neg (.con (.int 1))))) (.cons (.ret (.con (.bl false))) .nil) .nil) (.cons (.ite (.cmp .ne (.call j_cost (.cons (.var 10) (.cons (.tup (.cons (.tup (.cons (.con (.str "cup")) (.cons (.con (.int 0)) .nil))) .nil)) (.cons (.tup (.cons (.tup (.cons (.con (.str "chip")) (.cons (.con (.int 0)) .nil))) .nil)) .nil)))) (.con (.int 1))) (.cons (.ret (.con (.bl false))) .nil) .nil) (.cons (.ret (.cmp .eq (.call j_cost (.cons (.tup (.cons (.slc (.op2 .ix (.var 10) (.con (.int 0))) .no (.yes (.con (.int 1)))) (.cons (.tup .nil) .nil))) (.cons (.tup (.cons (.tup (.cons (.con (.str "chip")) (.cons (.con (.int 0)) .nil))) (.cons (.tup (.cons (.con (.str "cup")) (.cons (.con (.int 0)) .nil))) .nil))) (.cons (.tup .nil) .nil)))) (.neg (.con (.int 3))))) .nil)))))
abbrev N_law_k08 : List Str := ["script", "k", "source", "turn", "fair", "again", "have", "row", "want", "price", "chips"]
def F_law_k08 : Fd := ⟨1, 11, B_law_k08⟩
def B__law_joined : Ss := (.cons (.set 4 (.lst (.cons (.call j_cost (.cons (.var 0) (.cons (.var 1) (.cons (.var 2) .nil)))) (.cons (.call j_cost (.cons (.var 0) (.cons (.var 2) (.cons (.var 3) .nil)))) (.cons (.call j_cost (.cons (.var 0) (.cons (.var 1) (.cons (.var 3) .nil)))) .nil))))) (.cons (.ite (.cmp .in_ (.con .non) (.slc (.var 4) .no (.yes (.con (.int 2))))) (.cons (.ret (.con (.bl true))) .nil) .nil) (.cons (.ret (.and (.cmp .isnot (.op2 .ix (.var 4) (.con (.int 2))) (.con .non)) (.cmp .ge (.op2 .add (.op2 .ix (.var 4) (.con (.int 0))) (.op2 .ix (.var 4) (.con (.int 1)))) (.op2 .ix (.var 4) (.con (.int 2)))))) .nil)))
abbrev N__law_joined : List Str := ["fair", "one", "two", "three", "parts"]
def F__law_joined : Fd := ⟨4, 5, B__law_joined⟩
def B__law_some : Ss := (.cons (.par2 2 3 (.op2 .add (.var 1) (.lst .nil)) (.lst .nil)) (.cons (.for_ (.nm 4) (.rng (.b .min2 (.cons (.b .len (.cons (.var 1) .nil)) (.cons (.call j__law_draw (.cons (.var 0) (.cons (.con (.int 3)) .nil))) .nil)))) (.cons (.set 5 (.call j__law_draw (.cons (.var 0) (.cons (.b .len (.cons (.var 2) .nil)) .nil)))) (.cons (.set 3 (.op2 .add (.var 3) (.lst (.cons (.op2 .ix (.var 2) (.var 5)) .nil)))) (.cons (.set 2 (.op2 .add (.slc (.var 2) .no (.yes (.var 5))) (.slc (.var 2) (.yes (.op2 .add (.var 5) (.con (.int 1)))) .no))) .nil)))) (.cons (.ret (.b .tuple (.cons (.b .sorted (.cons (.var 3) .nil)) .nil))) .nil)))
abbrev N__law_some : List Str := ["source", "things", "rest", "found", "turn", "at"]
def F__law_some : Fd := ⟨2, 6, B__law_some⟩
def B_things_behind : Ss := (.cons (.expr (.call j_need_row (.cons (.var 0) (.cons (.var 1) (.cons (.var 2) .nil))))) (.cons (.ret (.b .list (.cons (.op2 .ix (.call j_led (.cons (.var 0) (.cons (.var 1) (.cons (.var 2) .nil)))) (.con (.int 0))) .nil))) .nil))
abbrev N_things_behind : List Str := ["fair", "have", "row"]
def F_things_behind : Fd := ⟨3, 3, B_things_behind⟩
def B_law_k09 : Ss := (.cons (.for_ (.nm 1) (.rng (.op2 .add (.con (.int 1)) (.b .min2 (.cons (.b .len (.cons (.var 0) .nil)) (.cons (.con (.int 8)) .nil))))) (.cons (.set 2 (.call j__law_source (.cons (.var 0) (.cons (.var 1) .nil)))) (.cons (.for_ (.nm 3) (.rng (.con (.int 3))) (.cons (.set 4 (.call j__law_fair (.cons (.var 2) (.cons (.con (.int 4)) .nil)))) (.cons (.ite (.cmp .ne (.lc (.nm 8) (.rng (.b .len (.cons (.op2 .ix (.var 4) (.con (.int 0))) .nil))) (.not (.call j__law_right_v2 (.cons (.var 4) (.cons (.var 8) .nil)))) (.var 8) [8]) (.lst .nil)) (.cons (.ret (.con (.bl false))) .nil) .nil) .nil))) .nil))) (.cons (.set 5 (.tup (.cons (.tup (.cons (.tup (.cons (.con (.int 3)) (.cons (.con (.int 0)) (.cons (.con (.int 0)) (.cons (.tup (.cons (.con (.int 0)) .nil)) (.cons (.con (.int 0)) (.cons (.con (.int 3)) .nil))))))) (.cons (.tup (.cons (.con (.int 1)) (.cons (.con (.int 0)) (.cons (.con .non) (.cons (.tup (.cons (.con (.int 0)) .nil)) (.cons (.con .non) (.cons (.con (.int 1)) .nil))))))) .nil))) (.cons (.tup (.cons (.tup (.cons (.con (.str "chip")) (.cons (.con (.int 0)) (.cons (.con (.int 1)) .nil)))) .nil)) .nil)))) (.cons (.ite (.or (.cmp .ne (.call j__law_told (.cons (.var 5) (.cons (.con (.int 0)) .nil))) (.con (.str "unsound"))) (.or (.cmp .ne (.call j__law_told (.cons (.var 5) (.cons (.con (.int 1)) .nil))) (.con (.int 2))) (.cmp .ne (.call j__law_told (.cons (.tup (.cons (.op2 .ix (.var 5) (.con (.int 0))) (.cons (.tup .nil) .nil))) (.cons (.con (.int 0)) .nil))) (.con (.int 3))))) (.cons (.ret (.con (.bl false))) .nil) .nil) (.cons (.set 6 (.tup (.cons (.tup (.cons (.tup (.cons (.con (.int 2)) (.cons (.con (.int 0)) (.cons (.con .non) (.cons (.tup (.cons (.con (.int 0)) .nil)) (.cons (.con .non) (.cons (.con (.int 2)) .nil))))))) (.cons (.tup (.cons (.con (.int 1)) (.cons (.con (.int 1)) (.cons (.con .non) (.cons (.tup (.cons (.con (.int 0)) (.cons (.con (.int 1)) .nil))) (.cons (.con .non) (.cons (.con (.int 1)) .nil))))))) .nil))) (.cons (.tup .nil) .nil)))) (.cons (.set 7 (.tup (.cons (.tup (.cons (.tup (.cons (.con (.int 5)) (.cons (.con (.int 0)) (.cons (.con .non) (.cons (.tup .nil) (.cons (.con .non) (.cons (.con (.int 9)) .nil))))))) .nil)) (.cons (.tup .nil) .nil)))) (.cons (.ret (.cmp .eq (.lst (.cons (.call j__law_told (.cons (.var 6) (.cons (.con (.int 0)) .nil))) (.cons (.call j__law_told (.cons (.var 6) (.cons (.con (.int 1)) .nil))) (.cons (.call j__law_told (.cons (.var 7) (.cons (.con (.int 0)) .nil))) .nil)))) (.lst (.cons (.con (.int 2)) (.cons (.con (.int 1)) (.cons (.con (.int 0)) .nil)))))) .nil))))))
abbrev N_law_k09 : List Str := ["script", "k", "source", "turn", "fair", "chips", "plain", "bare", "stand"]
def F_law_k09 : Fd := ⟨1, 9, B_law_k09⟩
def B__law_right_v2 : Ss := (.cons (.set 2 (.call j__law_told (.cons (.var 0) (.cons (.var 1) .nil)))) (.cons (.ite (.cmp .is_ (.call j__law_costs (.cons (.call j__law_arcs (.cons (.var 0) (.cons (.lst (.cons (.tup (.cons (.con (.str "take")) (.cons (.var 1) .nil))) .nil)) .nil))) .nil)) (.con .non)) (.cons (.ret (.cmp .eq (.var 2) (.con (.str "unsound")))) .nil) .nil) (.cons (.ite (.or (.not (.call j__law_from (.cons (.var 2) (.cons (.con (.int 0)) (.cons (.con (.int 99)) .nil))))) (.not (.call j__law_sound_with (.cons (.var 0) (.cons (.var 1) (.cons (.var 2) .nil)))))) (.cons (.ret (.con (.bl false))) .nil) .nil) (.cons (.ite (.not (.call j__law_sound_with (.cons (.var 0) (.cons (.var 1) (.cons (.op2 .add (.op2 .add (.var 2) (.con (.int 1))) (.op2 .mod (.var 2) (.con (.int 5)))) .nil))))) (.cons (.ret (.con (.bl false))) .nil) .nil) (.cons (.ret (.or (.cmp .eq (.var 2) (.con (.int 0))) (.not (.call j__law_sound_with (.cons (.var 0) (.cons (.var 1) (.cons (.op2 .sub (.var 2) (.con (.int 1))) .nil))))))) .nil)))))
abbrev N__law_right_v2 : List Str := ["fair", "stand", "found"]
def F__law_right_v2 : Fd := ⟨2, 3, B__law_right_v2⟩
def B__law_told : Ss := (.cons (.set 2 (.con (.str ""))) (.cons (.try_ (.cons (.set 2 (.call j_least_deposit (.cons (.var 0) (.cons (.var 1) .nil)))) .nil) x_Unsound (.cons (.set 2 (.con (.str "unsound"))) .nil)) (.cons (.ret (.var 2)) .nil)))
abbrev N__law_told : List Str := ["fair", "stand", "found"]
def F__law_told : Fd := ⟨2, 3, B__law_told⟩
def B__law_sound_with : Ss := (.cons (.set 3 (.op2 .add (.op2 .add (.slc (.op2 .ix (.var 0) (.con (.int 0))) .no (.yes (.var 1))) (.tup (.cons (.op2 .add (.tup (.cons (.var 2) .nil)) (.slc (.op2 .ix (.op2 .ix (.var 0) (.con (.int 0))) (.var 1)) (.yes (.con (.int 1))) .no)) .nil))) (.slc (.op2 .ix (.var 0) (.con (.int 0))) (.yes (.op2 .add (.var 1) (.con (.int 1)))) .no))) (.cons (.ret (.cmp .isnot (.call j__law_costs (.cons (.call j__law_arcs (.cons (.tup (.cons (.var 3) (.cons (.op2 .ix (.var 0) (.con (.int 1))) .nil))) (.cons (.lst .nil) .nil))) .nil)) (.con .non))) .nil))
abbrev N__law_sound_with : List Str := ["fair", "stand", "deposit", "stands"]
def F__law_sound_with : Fd := ⟨3, 4, B__law_sound_with⟩
def B_least_deposit : Ss := (.cons (.expr (.call j_need_fair (.cons (.var 0) .nil))) (.cons (.expr (.call j_need_stand (.cons (.var 0) (.cons (.var 1) .nil)))) (.cons (.set 2 (.call j_sound_ways (.cons (.call j_edges_without (.cons (.var 0) (.cons (.var 1) (.cons (.con (.str "take")) .nil)))) .nil))) (.cons (.asg (.tup (.cons (.nm 3) (.cons (.nm 4) (.cons (.nm 5) (.cons (.nm 6) (.cons (.nm 7) (.cons (.nm 8) .nil))))))) (.op2 .ix (.op2 .ix (.var 0) (.con (.int 0))) (.var 1))) (.cons (.ret (.op2 .sub (.con (.int 0)) (.op2 .ix (.op2 .ix (.var 2) (.key (.cons (.call j_cup_node (.cons (.var 4) .nil)) (.cons (.call j_chip_node (.cons (.var 5) .nil)) .nil)))) (.con (.int 0))))) .nil)))))
abbrev N_least_deposit : List Str := ["fair", "stand", "ways", "deposit", "cup", "chip", "takes", "needs", "refund"]
def F_least_deposit : Fd := ⟨2, 9, B_least_deposit⟩
def B_edges_without : Ss := (.cons (.ret (.lc (.nm 3) (.seq (.call j_edges_of (.cons (.var 0) .nil))) (.or (.cmp .ne (.op2 .ix (.op2 .ix (.var 3) (.con (.int 3))) (.con (.int 0))) (.var 2)) (.cmp .ne (.op2 .ix (.op2 .ix (.var 3) (.con (.int 3))) (.con (.int 1))) (.var 1))) (.var 3) [3])) .nil)
abbrev N_edges_without : List Str := ["fair", "stand", "word", "edge"]
def F_edges_without : Fd := ⟨3, 4, B_edges_without⟩
def B_need_stand : Ss := (.cons (.ite (.not (.call j_is_from (.cons (.var 1) (.cons (.con (.int 0)) (.cons (.op2 .sub (.b .len (.cons (.op2 .ix (.var 0) (.con (.int 0))) .nil)) (.con (.int 1))) .nil))))) (.cons (.raise x_InvalidNumber) .nil) .nil) .nil)
abbrev N_need_stand : List Str := ["fair", "value"]
def F_need_stand : Fd := ⟨2, 2, B_need_stand⟩
def B_law_k10 : Ss := (.cons (.for_ (.nm 1) (.rng (.op2 .add (.con (.int 1)) (.b .min2 (.cons (.b .len (.cons (.var 0) .nil)) (.cons (.con (.int 8)) .nil))))) (.cons (.set 2 (.call j__law_source (.cons (.var 0) (.cons (.var 1) .nil)))) (.cons (.for_ (.nm 3) (.rng (.con (.int 3))) (.cons (.set 4 (.call j__law_fair (.cons (.var 2) (.cons (.con (.int 4)) .nil)))) (.cons (.ite (.cmp .ne (.lc (.nm 8) (.rng (.b .len (.cons (.op2 .ix (.var 4) (.con (.int 0))) .nil))) (.not (.call j__law_right_v3 (.cons (.var 4) (.cons (.var 8) .nil)))) (.var 8) [8]) (.lst .nil)) (.cons (.ret (.con (.bl false))) .nil) .nil) .nil))) .nil))) (.cons (.set 5 (.tup (.cons (.tup (.cons (.tup (.cons (.con (.int 3)) (.cons (.con (.int 0)) (.cons (.con (.int 0)) (.cons (.tup (.cons (.con (.int 0)) .nil)) (.cons (.con (.int 0)) (.cons (.con (.int 3)) .nil))))))) (.cons (.tup (.cons (.con (.int 1)) (.cons (.con (.int 0)) (.cons (.con .non) (.cons (.tup (.cons (.con (.int 0)) .nil)) (.cons (.con .non) (.cons (.con (.int 1)) .nil))))))) .nil))) (.cons (.tup (.cons (.tup (.cons (.con (.str "chip")) (.cons (.con (.int 0)) (.cons (.con (.int 1)) .nil)))) .nil)) .nil)))) (.cons (.ite (.or (.cmp .ne (.call j__law_told_v2 (.cons (.var 5) (.cons (.con (.int 0)) .nil))) (.con (.int 2))) (.cmp .ne (.call j__law_told_v2 (.cons (.var 5) (.cons (.con (.int 1)) .nil))) (.con (.str "unsound")))) (.cons (.ret (.con (.bl false))) .nil) .nil) (.cons (.set 6 (.tup (.cons (.tup (.cons (.tup (.cons (.con (.int 2)) (.cons (.con (.int 0)) (.cons (.con .non) (.cons (.tup (.cons (.con (.int 0)) .nil)) (.cons (.con .non) (.cons (.con (.int 2)) .nil))))))) (.cons (.tup (.cons (.con (.int 1)) (.cons (.con (.int 1)) (.cons (.con .non) (.cons (.tup (.cons (.con (.int 0)) (.cons (.con (.int 1)) .nil))) (.cons (.con .non) (.cons (.con (.int 1)) .nil))))))) .nil))) (.cons (.tup .nil) .nil)))) (.cons (.set 7 (.tup (.cons (.op2 .add (.slc (.op2 .ix (.var 6) (.con (.int 0))) .no (.yes (.con (.int 1)))) (.tup (.cons (.tup (.cons (.con (.int 1)) (.cons (.con (.int 1)) (.cons (.con .non) (.cons (.tup (.cons (.con (.int 2)) .nil)) (.cons (.con .non) (.cons (.con (.int 5)) .nil))))))) .nil))) (.cons (.tup .nil) .nil)))) (.cons (.ret (.and (.cmp .eq (.lst (.cons (.call j__law_told_v2 (.cons (.var 6) (.cons (.con (.int 0)) .nil))) (.cons (.call j__law_told_v2 (.cons (.var 6) (.cons (.con (.int 1)) .nil))) .nil))) (.lst (.cons (.con (.int 2)) (.cons (.con (.int 1)) .nil)))) (.cmp .is_ (.call j__law_told_v2 (.cons (.var 7) (.cons (.con (.int 1)) .nil))) (.con .non)))) .nil))))))
abbrev N_law_k10 : List Str := ["script", "k", "source", "turn", "fair", "chips", "plain", "far", "stand"]
def F_law_k10 : Fd := ⟨1, 9, B_law_k10⟩
def B__law_right_v3 : Ss := (.cons (.set 2 (.call j__law_told_v2 (.cons (.var 0) (.cons (.var 1) .nil)))) (.cons (.ite (.cmp .is_ (.call j__law_costs (.cons (.call j__law_arcs (.cons (.var 0) (.cons (.lst (.cons (.tup (.cons (.con (.str "give")) (.cons (.var 1) .nil))) .nil)) .nil))) .nil)) (.con .non)) (.cons (.ret (.cmp .eq (.var 2) (.con (.str "unsound")))) .nil) .nil) (.cons (.ite (.cmp .is_ (.var 2) (.con .non)) (.cons (.ret (.call j__law_sound_with_v2 (.cons (.var 0) (.cons (.var 1) (.cons (.op2 .pow (.con (.int 10)) (.con (.int 6))) .nil))))) .nil) .nil) (.cons (.ite (.or (.not (.call j__law_from (.cons (.var 2) (.cons (.con (.int 0)) (.cons (.op2 .pow (.con (.int 10)) (.con (.int 4))) .nil))))) (.not (.call j__law_sound_with_v2 (.cons (.var 0) (.cons (.var 1) (.cons (.var 2) .nil)))))) (.cons (.ret (.con (.bl false))) .nil) .nil) (.cons (.ret (.and (.call j__law_sound_with_v2 (.cons (.var 0) (.cons (.var 1) (.cons (.op2 .fdiv (.var 2) (.con (.int 2))) .nil)))) (.not (.call j__law_sound_with_v2 (.cons (.var 0) (.cons (.var 1) (.cons (.op2 .add (.var 2) (.con (.int 1))) .nil))))))) .nil)))))
abbrev N__law_right_v3 : List Str := ["fair", "stand", "found"]
def F__law_right_v3 : Fd := ⟨2, 3, B__law_right_v3⟩
def B__law_told_v2 : Ss := (.cons (.set 2 (.con (.str ""))) (.cons (.try_ (.cons (.set 2 (.call j_greatest_refund (.cons (.var 0) (.cons (.var 1) .nil)))) .nil) x_Unsound (.cons (.set 2 (.con (.str "unsound"))) .nil)) (.cons (.ret (.var 2)) .nil)))
abbrev N__law_told_v2 : List Str := ["fair", "stand", "found"]
def F__law_told_v2 : Fd := ⟨2, 3, B__law_told_v2⟩
def B__law_sound_with_v2 : Ss := (.cons (.set 3 (.op2 .add (.op2 .add (.slc (.op2 .ix (.var 0) (.con (.int 0))) .no (.yes (.var 1))) (.tup (.cons (.op2 .add (.slc (.op2 .ix (.op2 .ix (.var 0) (.con (.int 0))) (.var 1)) .no (.yes (.con (.int 5)))) (.tup (.cons (.var 2) .nil))) .nil))) (.slc (.op2 .ix (.var 0) (.con (.int 0))) (.yes (.op2 .add (.var 1) (.con (.int 1)))) .no))) (.cons (.ret (.cmp .isnot (.call j__law_costs (.cons (.call j__law_arcs (.cons (.tup (.cons (.var 3) (.cons (.op2 .ix (.var 0) (.con (.int 1))) .nil))) (.cons (.lst .nil) .nil))) .nil)) (.con .non))) .nil))
abbrev N__law_sound_with_v2 : List Str := ["fair", "stand", "refund", "stands"]
def F__law_sound_with_v2 : Fd := ⟨3, 4, B__law_sound_with_v2⟩
def B_greatest_refund : Ss := (.cons (.expr (.call j_need_fair (.cons (.var 0) .nil))) (.cons (.expr (.call j_need_stand (.cons (.var 0) (.cons (.var 1) .nil)))) (.cons (.ret (.call j_least_of (.cons (.call j_sound_ways (.cons (.call j_edges_without (.cons (.var 0) (.cons (.var 1) (.cons (.con (.str "give")) .nil)))) .nil)) (.cons (.var 0) (.cons (.var 1) .nil))))) .nil)))
abbrev N_greatest_refund : List Str := ["fair", "stand"]
def F_greatest_refund : Fd := ⟨2, 2, B_greatest_refund⟩
def B_least_of : Ss := (.cons (.asg (.tup (.cons (.nm 3) (.cons (.nm 4) (.cons (.nm 5) (.cons (.nm 6) (.cons (.nm 7) (.cons (.nm 8) .nil))))))) (.op2 .ix (.op2 .ix (.var 1) (.con (.int 0))) (.var 2))) (.cons (.set 9 (.lc (.nm 10) (.seq (.var 6)) (.cmp .in_ (.key (.cons (.call j_chip_node (.cons (.var 7) .nil)) (.cons (.call j_cup_node (.cons (.var 10) .nil)) .nil))) (.var 0)) (.op2 .ix (.op2 .ix (.var 0) (.key (.cons (.call j_chip_node (.cons (.var 7) .nil)) (.cons (.call j_cup_node (.cons (.var 10) .nil)) .nil)))) (.con (.int 0))) [10])) (.cons (.ret (.ite (.cmp .ne (.var 9) (.lst .nil)) (.b .min (.cons (.var 9) .nil)) (.con .non))) .nil)))
abbrev N_least_of : List Str := ["ways", "fair", "stand", "deposit", "cup", "chip", "takes", "needs", "refund", "some", "sort"]
def F_least_of : Fd := ⟨3, 11, B_least_of⟩
def B_law_k11 : Ss := (.cons (.for_ (.nm 1) (.rng (.op2 .add (.con (.int 1)) (.b .min2 (.cons (.b .len (.cons (.var 0) .nil)) (.cons (.con (.int 8)) .nil))))) (.cons (.set 2 (.call j__law_source (.cons (.var 0) (.cons (.var 1) .nil)))) (.cons (.for_ (.nm 3) (.rng (.con (.int 3))) (.cons (.set 4 (.call j__law_fair (.cons (.var 2) (.cons (.con (.int 4)) .nil)))) (.cons (.ite (.cmp .is_ (.call j__law_costs (.cons (.call j__law_arcs (.cons (.var 4) (.cons (.lst .nil) .nil))) .nil)) (.con .non)) (.cons (.ite (.cmp .ne (.call j__law_told_v3 (.cons (.var 4) (.cons (.con (.int 0)) .nil))) (.con (.str "unsound"))) (.cons (.ret (.con (.bl false))) .nil) .nil) (.cons .cont .nil)) .nil) (.cons (.for_ (.nm 5) (.rng (.b .len (.cons (.op2 .ix (.var 4) (.con (.int 0))) .nil))) (.cons (.par2 6 7 (.call j__law_told_v3 (.cons (.var 4) (.cons (.var 5) .nil))) (.call j__law_row_so (.cons (.var 2) (.cons (.var 4) (.cons (.var 5) .nil))))) (.cons (.ite (.cmp .ne (.var 6) (.call j__law_drain (.cons (.var 4) (.cons (.var 5) .nil)))) (.cons (.ret (.con (.bl false))) .nil) .nil) (.cons (.ite (.and (.cmp .isnot (.var 7) (.con .non)) (.or (.cmp .is_ (.var 6) (.con .non)) (.cmp .lt (.neg (.op2 .ix (.call j__law_led (.cons (.var 4) (.cons (.tup .nil) (.cons (.var 7) .nil)))) (.con (.int 1)))) (.var 6)))) (.cons (.ret (.con (.bl false))) .nil) .nil) .nil)))) .nil)))) .nil))) (.cons (.set 8 (.tup (.cons (.tup (.cons (.tup (.cons (.con (.int 2)) (.cons (.con (.int 0)) (.cons (.con .non) (.cons (.tup (.cons (.con (.int 0)) .nil)) (.cons (.con .non) (.cons (.con (.int 2)) .nil))))))) (.cons (.tup (.cons (.con (.int 1)) (.cons (.con (.int 1)) (.cons (.con .non) (.cons (.tup (.cons (.con (.int 0)) (.cons (.con (.int 1)) .nil))) (.cons (.con .non) (.cons (.con (.int 1)) .nil))))))) .nil))) (.cons (.tup .nil) .nil)))) (.cons (.set 9 (.tup (.cons (.tup (.cons (.tup (.cons (.con (.int 3)) (.cons (.con (.int 0)) (.cons (.con (.int 0)) (.cons (.tup (.cons (.con (.int 0)) .nil)) (.cons (.con (.int 0)) (.cons (.con (.int 3)) .nil))))))) (.cons (.tup (.cons (.con (.int 1)) (.cons (.con (.int 0)) (.cons (.con .non) (.cons (.tup (.cons (.con (.int 0)) .nil)) (.cons (.con .non) (.cons (.con (.int 1)) .nil))))))) .nil))) (.cons (.tup .nil) .nil)))) (.cons (.ite (.cmp .ne (.lst (.cons (.call j__law_told_v3 (.cons (.var 8) (.cons (.con (.int 0)) .nil))) (.cons (.call j__law_told_v3 (.cons (.var 8) (.cons (.con (.int 1)) .nil))) (.cons (.call j__law_told_v3 (.cons (.var 9) (.cons (.con (.int 0)) .nil))) (.cons (.call j__law_told_v3 (.cons (.var 9) (.cons (.con (.int 1)) .nil))) .nil))))) (.lst (.cons (.con .non) (.cons (.con (.int 1)) (.cons (.con .non) (.cons (.con (.int 2)) .nil)))))) (.cons (.ret (.con (.bl false))) .nil) .nil) (.cons (.set 10 (.tup (.cons (.tup (.cons (.tup (.cons (.con (.int 2)) (.cons (.con (.int 0)) (.cons (.con .non) (.cons (.tup (.cons (.con (.int 0)) .nil)) (.cons (.con .non) (.cons (.con (.int 2)) .nil))))))) (.cons (.tup (.cons (.con (.int 2)) (.cons (.con (.int 0)) (.cons (.con .non) (.cons (.tup (.cons (.con (.int 0)) .nil)) (.cons (.con .non) (.cons (.con (.int 2)) .nil))))))) .nil))) (.cons (.tup .nil) .nil)))) (.cons (.ret (.cmp .eq (.lst (.cons (.call j__law_told_v3 (.cons (.var 10) (.cons (.con (.int 0)) .nil))) (.cons (.call j__law_told_v3 (.cons (.var 10) (.cons (.con (.int 1)) .nil))) .nil))) (.lst (.cons (.con (.int 0)) (.cons (.con (.int 0)) .nil))))) .nil))))))
abbrev N_law_k11 : List Str := ["script", "k", "source", "turn", "fair", "stand", "found", "row", "plain", "chips", "even"]
def F_law_k11 : Fd := ⟨1, 11, B_law_k11⟩
def B__law_drain : Ss := (.cons (.par2 2 3 (.call j__law_costs (.cons (.call j__law_arcs (.cons (.var 0) (.cons (.lst (.cons (.tup (.cons (.con (.str "take")) (.cons (.var 1) .nil))) .nil)) .nil))) .nil)) (.con .non)) (.cons (.for_ (.nm 4) (.seq (.op2 .ix (.op2 .ix (.op2 .ix (.var 0) (.con (.int 0))) (.var 1)) (.con (.int 3)))) (.cons (.set 5 (.op2 .add (.lc (.nm 7) (.seq (.lst (.cons (.op2 .ix (.op2 .ix (.op2 .ix (.var 0) (.con (.int 0))) (.var 1)) (.con (.int 4))) .nil))) (.cmp .isnot (.var 7) (.con .non)) (.tup (.cons (.con (.str "chip")) (.cons (.var 7) .nil))) [7]) (.lst (.cons (.tup (.cons (.con (.str "cup")) (.cons (.var 4) .nil))) .nil)))) (.cons (.set 6 (.call j__law_due (.cons (.var 2) (.cons (.tup .nil) (.cons (.b .tuple (.cons (.var 5) .nil)) .nil))))) (.cons (.ite (.cmp .isnot (.var 6) (.con .non)) (.cons (.set 6 (.op2 .sub (.var 6) (.op2 .ix (.op2 .ix (.op2 .ix (.var 0) (.con (.int 0))) (.var 1)) (.con (.int 5))))) (.cons (.set 3 (.ite (.or (.cmp .is_ (.var 3) (.con .non)) (.cmp .lt (.var 6) (.var 3))) (.var 6) (.var 3))) .nil)) .nil) .nil)))) (.cons (.ret (.var 3)) .nil)))
abbrev N__law_drain : List Str := ["fair", "stand", "costs", "best", "sort", "have", "price", "chip"]
def F__law_drain : Fd := ⟨2, 8, B__law_drain⟩
def B__law_row_so : Ss := (.cons (.par3 3 4 5 (.lst .nil) (.tup .nil) (.con .non)) (.cons (.for_ (.nm 6) (.rng (.con (.int 40))) (.cons (.set 7 (.call j__law_choice (.cons (.var 0) (.cons (.call j__law_deeds (.cons (.var 1) .nil)) .nil)))) (.cons (.set 8 (.call j__law_done (.cons (.var 1) (.cons (.var 3) (.cons (.var 7) .nil))))) (.cons (.ite (.and (.cmp .isnot (.var 8) (.con .non)) (.cmp .ne (.var 7) (.tup (.cons (.con (.str "take")) (.cons (.var 2) .nil))))) (.cons (.par2 3 4 (.op2 .ix (.var 8) (.con (.int 0))) (.op2 .add (.var 4) (.tup (.cons (.var 7) .nil)))) (.cons (.set 5 (.ite (.cmp .eq (.slc (.var 7) .no (.yes (.con (.int 2)))) (.tup (.cons (.con (.str "give")) (.cons (.var 2) .nil)))) (.var 4) (.var 5))) .nil)) .nil) .nil)))) (.cons (.ret (.var 5)) .nil)))
abbrev N__law_row_so : List Str := ["source", "fair", "stand", "things", "row", "found", "turn", "deed", "there"]
def F__law_row_so : Fd := ⟨3, 9, B__law_row_so⟩
def B__law_told_v3 : Ss := (.cons (.set 2 (.con (.str ""))) (.cons (.try_ (.cons (.set 2 (.call j_drain (.cons (.var 0) (.cons (.var 1) .nil)))) .nil) x_Unsound (.cons (.set 2 (.con (.str "unsound"))) .nil)) (.cons (.ret (.var 2)) .nil)))
abbrev N__law_told_v3 : List Str := ["fair", "stand", "found"]
def F__law_told_v3 : Fd := ⟨2, 3, B__law_told_v3⟩
def B_drain : Ss := (.cons (.expr (.call j_need_fair (.cons (.var 0) .nil))) (.cons (.expr (.call j_need_stand (.cons (.var 0) (.cons (.var 1) .nil)))) (.cons (.expr (.call j_sound_ways (.cons (.call j_edges_of (.cons (.var 0) .nil)) .nil))) (.cons (.set 2 (.call j_least_of (.cons (.call j_sound_ways (.cons (.call j_edges_without (.cons (.var 0) (.cons (.var 1) (.cons (.con (.str "take")) .nil)))) .nil)) (.cons (.var 0) (.cons (.var 1) .nil))))) (.cons (.ret (.ite (.cmp .is_ (.var 2) (.con .non)) (.con .non) (.op2 .sub (.var 2) (.op2 .ix (.op2 .ix (.op2 .ix (.var 0) (.con (.int 0))) (.var 1)) (.con (.int 5)))))) .nil)))))
abbrev N_drain : List Str := ["fair", "stand", "found"]
def F_drain : Fd := ⟨2, 3, B_drain⟩
def B_law_k12 : Ss := (.cons (.for_ (.nm 1) (.rng (.op2 .add (.con (.int 1)) (.b .min2 (.cons (.b .len (.cons (.var 0) .nil)) (.cons (.con (.int 8)) .nil))))) (.cons (.set 2 (.call j__law_source (.cons (.var 0) (.cons (.var 1) .nil)))) (.cons (.for_ (.nm 3) (.rng (.con (.int 3))) (.cons (.set 4 (.call j__law_fair (.cons (.var 2) (.cons (.con (.int 4)) .nil)))) (.cons (.set 5 (.call j_least_stands (.cons (.var 4) .nil))) (.cons (.ite (.or (.not (.isi (.var 5) .list)) (.or (.cmp .ne (.var 5) (.call j__law_least (.cons (.var 4) .nil))) (.cmp .ne (.cmp .eq (.var 5) (.lst (.cons (.tup .nil) .nil))) (.call j_is_sound (.cons (.var 4) .nil))))) (.cons (.ret (.con (.bl false))) .nil) .nil) .nil)))) .nil))) (.cons (.set 6 (.tup (.cons (.tup (.cons (.tup (.cons (.con (.int 1)) (.cons (.con (.int 0)) (.cons (.con .non) (.cons (.tup (.cons (.con (.int 0)) .nil)) (.cons (.con .non) (.cons (.con (.int 1)) .nil))))))) (.cons (.tup (.cons (.con (.int 2)) (.cons (.con (.int 0)) (.cons (.con .non) (.cons (.tup (.cons (.con (.int 0)) .nil)) (.cons (.con .non) (.cons (.con (.int 2)) .nil))))))) .nil))) (.cons (.tup .nil) .nil)))) (.cons (.set 7 (.tup (.cons (.tup (.cons (.tup (.cons (.con (.int 3)) (.cons (.con (.int 0)) (.cons (.con (.int 0)) (.cons (.tup (.cons (.con (.int 0)) .nil)) (.cons (.con (.int 0)) (.cons (.con (.int 3)) .nil))))))) (.cons (.tup (.cons (.con (.int 1)) (.cons (.con (.int 0)) (.cons (.con .non) (.cons (.tup (.cons (.con (.int 0)) .nil)) (.cons (.con .non) (.cons (.con (.int 1)) .nil))))))) .nil))) (.cons (.tup (.cons (.tup (.cons (.con (.str "chip")) (.cons (.con (.int 0)) (.cons (.con (.int 1)) .nil)))) .nil)) .nil)))) (.cons (.ite (.or (.cmp .ne (.call j_least_stands (.cons (.var 6) .nil)) (.lst (.cons (.tup (.cons (.con (.int 0)) .nil)) (.cons (.tup (.cons (.con (.int 1)) .nil)) .nil)))) (.cmp .ne (.call j_least_stands (.cons (.var 7) .nil)) (.lst (.cons (.tup (.cons (.con (.int 0)) .nil)) (.cons (.tup (.cons (.con (.int 1)) .nil)) .nil))))) (.cons (.ret (.con (.bl false))) .nil) .nil) (.cons (.set 8 (.tup (.cons (.tup (.cons (.tup (.cons (.con (.int 1)) (.cons (.con (.int 0)) (.cons (.con .non) (.cons (.tup (.cons (.con (.int 0)) .nil)) (.cons (.con .non) (.cons (.con (.int 2)) .nil))))))) (.cons (.tup (.cons (.con (.int 1)) (.cons (.con (.int 1)) (.cons (.con .non) (.cons (.tup (.cons (.con (.int 1)) .nil)) (.cons (.con .non) (.cons (.con (.int 3)) .nil))))))) .nil))) (.cons (.tup .nil) .nil)))) (.cons (.set 9 (.tup (.cons (.tup (.cons (.tup (.cons (.con (.int 1)) (.cons (.con (.int 0)) (.cons (.con .non) (.cons (.tup (.cons (.con (.int 1)) .nil)) (.cons (.con .non) (.cons (.con (.int 4)) .nil))))))) .nil)) (.cons (.tup (.cons (.tup (.cons (.con (.str "cup")) (.cons (.con (.int 1)) (.cons (.con (.int 2)) .nil)))) .nil)) .nil)))) (.cons (.set 10 (.tup (.cons (.op2 .add (.tup (.cons (.tup (.cons (.con (.int 1)) (.cons (.con (.int 0)) (.cons (.con .non) (.cons (.tup (.cons (.con (.int 0)) .nil)) (.cons (.con .non) (.cons (.con (.int 1)) .nil))))))) .nil)) (.op2 .ix (.var 9) (.con (.int 0)))) (.cons (.op2 .ix (.var 9) (.con (.int 1))) .nil)))) (.cons (.ret (.and (.cmp .eq (.call j_least_stands (.cons (.var 8) .nil)) (.lst (.cons (.tup (.cons (.con (.int 0)) (.cons (.con (.int 1)) .nil))) .nil))) (.and (.cmp .eq (.call j_least_stands (.cons (.var 9) .nil)) (.lst (.cons (.tup (.cons (.con (.int 0)) .nil)) .nil))) (.cmp .eq (.call j_least_stands (.cons (.var 10) .nil)) (.lst (.cons (.tup (.cons (.con (.int 1)) .nil)) .nil)))))) .nil))))))))
abbrev N_law_k12 : List Str := ["script", "k", "source", "turn", "fair", "found", "two", "chips", "own", "bought", "beside"]
def F_law_k12 : Fd := ⟨1, 11, B_law_k12⟩
def B__law_least : Ss := (.cons (.for_ (.nm 1) (.rng (.op2 .add (.b .len (.cons (.op2 .ix (.var 0) (.con (.int 0))) .nil)) (.con (.int 1)))) (.cons (.set 2 (.lc (.nm 3) (.seq (.call j__law_lots (.cons (.b .len (.cons (.op2 .ix (.var 0) (.con (.int 0))) .nil)) (.cons (.var 1) .nil)))) (.call j__law_mended (.cons (.var 0) (.cons (.var 3) .nil))) (.var 3) [3])) (.cons (.ite (.cmp .ne (.var 2) (.lst .nil)) (.cons (.ret (.var 2)) .nil) .nil) .nil))) (.cons (.ret (.lst .nil)) .nil))
abbrev N__law_least : List Str := ["fair", "size", "found", "lot"]
def F__law_least : Fd := ⟨1, 4, B__law_least⟩
def B_least_stands : Ss := (.cons (.expr (.call j_need_fair (.cons (.var 0) .nil))) (.cons (.set 1 (.lst (.cons (.tup .nil) .nil))) (.cons (.for_ (.nm 2) (.rng (.op2 .add (.b .len (.cons (.op2 .ix (.var 0) (.con (.int 0))) .nil)) (.con (.int 1)))) (.cons (.set 3 (.lc (.nm 4) (.seq (.var 1)) (.call j_is_mended (.cons (.var 0) (.cons (.var 4) .nil))) (.var 4) [4])) (.cons (.ite (.cmp .ne (.var 3) (.lst .nil)) (.cons (.ret (.var 3)) .nil) .nil) (.cons (.set 1 (.lc2 (.nm 4) (.seq (.var 1)) (.nm 5) (.rng (.b .len (.cons (.op2 .ix (.var 0) (.con (.int 0))) .nil))) (.or (.cmp .eq (.var 4) (.tup .nil)) (.cmp .gt (.var 5) (.op2 .ix (.var 4) (.neg (.con (.int 1)))))) (.op2 .add (.var 4) (.tup (.cons (.var 5) .nil))) [4, 5] [5])) .nil)))) (.cons (.ret (.lst .nil)) .nil))))
abbrev N_least_stands : List Str := ["fair", "lots", "turn", "found", "lot", "stand"]
def F_least_stands : Fd := ⟨1, 6, B_least_stands⟩
def B__law_lots : Ss := (.cons (.set 2 (.lst (.cons (.tup .nil) .nil))) (.cons (.for_ (.nm 3) (.rng (.var 1)) (.cons (.set 4 (.lst .nil)) (.cons (.for_ (.nm 5) (.seq (.var 2)) (.cons (.set 4 (.op2 .add (.var 4) (.lc (.nm 6) (.rng (.var 0)) (.or (.cmp .eq (.var 5) (.tup .nil)) (.cmp .lt (.op2 .ix (.var 5) (.neg (.con (.int 1)))) (.var 6))) (.op2 .add (.var 5) (.tup (.cons (.var 6) .nil))) [6]))) .nil)) (.cons (.set 2 (.var 4)) .nil)))) (.cons (.ret (.var 2)) .nil)))
abbrev N__law_lots : List Str := ["many", "size", "found", "turn", "later", "lot", "stand"]
def F__law_lots : Fd := ⟨2, 7, B__law_lots⟩
def B__law_mended : Ss := (.cons (.set 2 (.mk (.lst .nil))) (.cons (.for_ (.tup (.cons (.nm 3) (.cons (.nm 4) .nil))) (.enum (.op2 .ix (.var 0) (.con (.int 0)))) (.cons (.app (.var 2) (.ite (.cmp .in_ (.var 3) (.var 1)) (.op2 .add (.op2 .add (.tup (.cons (.con (.int 99)) .nil)) (.slc (.var 4) (.yes (.con (.int 1))) (.yes (.con (.int 5))))) (.tup (.cons (.con (.int 0)) .nil))) (.var 4))) .nil)) (.cons (.ret (.cmp .isnot (.call j__law_costs (.cons (.call j__law_arcs (.cons (.tup (.cons (.b .tuple (.cons (.var 2) .nil)) (.cons (.op2 .ix (.var 0) (.con (.int 1))) .nil))) (.cons (.lst .nil) .nil))) .nil)) (.con .non))) .nil)))
abbrev N__law_mended : List Str := ["fair", "lot", "stands", "number", "stand"]
def F__law_mended : Fd := ⟨2, 5, B__law_mended⟩
def B_is_mended : Ss := (.cons (.set 2 (.lc (.nm 3) (.seq (.call j_edges_of (.cons (.var 0) .nil))) (.or (.cmp .eq (.op2 .ix (.op2 .ix (.var 3) (.con (.int 3))) (.con (.int 0))) (.con (.str "buy"))) (.cmp .notin (.op2 .ix (.op2 .ix (.var 3) (.con (.int 3))) (.con (.int 1))) (.var 1))) (.var 3) [3])) (.cons (.ret (.cmp .isnot (.call j_ways_of (.cons (.op2 .add (.var 2) (.lc (.nm 3) (.seq (.call j_edges_of (.cons (.var 0) .nil))) (.call j_is_give (.cons (.var 3) (.cons (.var 1) .nil))) (.op2 .add (.slc (.var 3) .no (.yes (.con (.int 2)))) (.tup (.cons (.con (.int 0)) (.cons (.op2 .ix (.var 3) (.con (.int 3))) .nil)))) [3])) .nil)) (.con .non))) .nil))
abbrev N_is_mended : List Str := ["fair", "lot", "found", "edge"]
def F_is_mended : Fd := ⟨2, 4, B_is_mended⟩
def B_is_give : Ss := (.cons (.ret (.and (.cmp .eq (.op2 .ix (.op2 .ix (.var 0) (.con (.int 3))) (.con (.int 0))) (.con (.str "give"))) (.cmp .in_ (.op2 .ix (.op2 .ix (.var 0) (.con (.int 3))) (.con (.int 1))) (.var 1)))) .nil)
abbrev N_is_give : List Str := ["edge", "lot"]
def F_is_give : Fd := ⟨2, 2, B_is_give⟩
def B_law_k13 : Ss := (.cons (.for_ (.nm 1) (.rng (.op2 .add (.con (.int 1)) (.b .min2 (.cons (.b .len (.cons (.var 0) .nil)) (.cons (.con (.int 6)) .nil))))) (.cons (.set 2 (.call j__law_source (.cons (.var 0) (.cons (.var 1) .nil)))) (.cons (.set 3 (.call j__law_fair (.cons (.var 2) (.cons (.con (.int 3)) .nil)))) (.cons (.set 4 (.tup (.cons (.op2 .add (.op2 .ix (.var 3) (.con (.int 0))) (.tup (.cons (.call j__law_stand (.cons (.var 2) .nil)) .nil))) (.cons (.op2 .ix (.var 3) (.con (.int 1))) .nil)))) (.cons (.for_ (.nm 5) (.seq (.lst (.cons (.call j__law_other (.cons (.var 2) (.cons (.var 3) .nil))) (.cons (.call j__law_other (.cons (.var 2) (.cons (.var 3) .nil))) (.cons (.var 4) (.cons (.call j__law_fair (.cons (.var 2) (.cons (.con (.int 3)) .nil))) (.cons (.var 3) .nil))))))) (.cons (.par2 6 7 (.call j__law_parting (.cons (.var 3) (.cons (.var 5) .nil))) (.call j_alike (.cons (.var 3) (.cons (.var 5) .nil)))) (.cons (.ite (.or (.cmp .ne (.call j_parting (.cons (.var 3) (.cons (.var 5) .nil))) (.var 6)) (.or (.not (.isi (.var 7) .bool)) (.cmp .ne (.var 7) (.cmp .is_ (.var 6) (.con .non))))) (.cons (.ret (.con (.bl false))) .nil) .nil) (.cons (.ite (.cmp .ne (.call j_alike (.cons (.var 5) (.cons (.var 3) .nil))) (.var 7)) (.cons (.ret (.con (.bl false))) .nil) .nil) .nil)))) .nil))))) (.cons (.set 8 (.tup (.cons (.tup (.cons (.tup (.cons (.con (.int 2)) (.cons (.con (.int 0)) (.cons (.con .non) (.cons (.tup (.cons (.con (.int 0)) .nil)) (.cons (.con .non) (.cons (.con (.int 2)) .nil))))))) (.cons (.tup (.cons (.con (.int 1)) (.cons (.con (.int 1)) (.cons (.con .non) (.cons (.tup (.cons (.con (.int 0)) (.cons (.con (.int 1)) .nil))) (.cons (.con .non) (.cons (.con (.int 1)) .nil))))))) .nil))) (.cons (.tup .nil) .nil)))) (.cons (.set 9 (.tup (.cons (.tup (.cons (.tup (.cons (.con (.int 1)) (.cons (.con (.int 0)) (.cons (.con .non) (.cons (.tup (.cons (.con (.int 0)) .nil)) (.cons (.con .non) (.cons (.con (.int 1)) .nil))))))) (.cons (.tup (.cons (.con (.int 2)) (.cons (.con (.int 0)) (.cons (.con .non) (.cons (.tup (.cons (.con (.int 0)) .nil)) (.cons (.con .non) (.cons (.con (.int 2)) .nil))))))) .nil))) (.cons (.tup .nil) .nil)))) (.cons (.set 10 (.tup (.cons (.tup (.cons (.tup (.cons (.con (.int 3)) (.cons (.con (.int 0)) (.cons (.con (.int 0)) (.cons (.tup (.cons (.con (.int 0)) .nil)) (.cons (.con (.int 0)) (.cons (.con (.int 3)) .nil))))))) (.cons (.tup (.cons (.con (.int 1)) (.cons (.con (.int 0)) (.cons (.con .non) (.cons (.tup (.cons (.con (.int 0)) .nil)) (.cons (.con .non) (.cons (.con (.int 1)) .nil))))))) .nil))) (.cons (.tup .nil) .nil)))) (.cons (.ite (.or (.cmp .ne (.call j_parting (.cons (.var 8) (.cons (.var 9) .nil))) (.tup (.cons (.tup .nil) (.cons (.tup .nil) .nil)))) (.cmp .ne (.call j_parting (.cons (.var 8) (.cons (.var 10) .nil))) (.tup (.cons (.tup .nil) (.cons (.tup (.cons (.tup (.cons (.con (.str "chip")) (.cons (.con (.int 0)) .nil))) .nil)) .nil))))) (.cons (.ret (.con (.bl false))) .nil) .nil) (.cons (.set 11 (.tup (.cons (.tup (.cons (.tup (.cons (.con (.int 3)) (.cons (.con (.int 0)) (.cons (.con (.int 0)) (.cons (.tup (.cons (.con (.int 0)) .nil)) (.cons (.con (.int 0)) (.cons (.con (.int 3)) .nil))))))) .nil)) (.cons (.tup .nil) .nil)))) (.cons (.set 12 (.tup (.cons (.tup (.cons (.tup (.cons (.con (.int 3)) (.cons (.con (.int 0)) (.cons (.con (.int 0)) (.cons (.tup (.cons (.con (.int 0)) .nil)) (.cons (.con (.int 0)) (.cons (.con (.int 2)) .nil))))))) .nil)) (.cons (.tup .nil) .nil)))) (.cons (.ret (.and (.cmp .eq (.call j_parting (.cons (.var 11) (.cons (.var 12) .nil))) (.tup (.cons (.tup (.cons (.tup (.cons (.con (.str "chip")) (.cons (.con (.int 0)) .nil))) (.cons (.tup (.cons (.con (.str "cup")) (.cons (.con (.int 0)) .nil))) .nil))) (.cons (.tup .nil) .nil)))) (.call j_alike (.cons (.var 9) (.cons (.tup (.cons (.rev (.op2 .ix (.var 9) (.con (.int 0)))) (.cons (.tup .nil) .nil))) .nil))))) .nil))))))))
abbrev N_law_k13 : List Str := ["script", "k", "source", "one", "wide", "other", "due", "told", "plain", "two", "chips", "pair", "less"]
def F_law_k13 : Fd := ⟨1, 13, B_law_k13⟩
def B__law_other : Ss := (.cons (.par2 2 3 (.call j__law_draw (.cons (.var 0) (.cons (.b .len (.cons (.op2 .ix (.var 1) (.con (.int 0))) .nil)) .nil))) (.call j__law_draw (.cons (.var 0) (.cons (.con (.int 4)) .nil)))) (.cons (.asg (.tup (.cons (.nm 4) (.cons (.nm 5) (.cons (.nm 6) (.cons (.nm 7) (.cons (.nm 8) (.cons (.nm 9) .nil))))))) (.op2 .ix (.op2 .ix (.var 1) (.con (.int 0))) (.var 2))) (.cons (.set 10 (.mk (.lst (.cons (.tup (.cons (.b .min2 (.cons (.con (.int 9)) (.cons (.op2 .add (.var 4) (.con (.int 1))) .nil))) (.cons (.var 5) (.cons (.var 6) (.cons (.var 7) (.cons (.var 8) (.cons (.var 9) .nil))))))) .nil)))) (.cons (.app (.var 10) (.tup (.cons (.var 4) (.cons (.var 5) (.cons (.var 6) (.cons (.var 7) (.cons (.var 8) (.cons (.b .max2 (.cons (.con (.int 0)) (.cons (.op2 .sub (.var 9) (.con (.int 1))) .nil))) .nil)))))))) (.cons (.set 10 (.mk (.op2 .add (.var 10) (.lst (.cons (.tup (.cons (.var 4) (.cons (.var 5) (.cons (.con .non) (.cons (.var 7) (.cons (.var 8) (.cons (.var 9) .nil))))))) (.cons (.tup (.cons (.var 4) (.cons (.var 5) (.cons (.var 6) (.cons (.var 7) (.cons (.con .non) (.cons (.var 9) .nil))))))) .nil)))))) (.cons (.set 11 (.op2 .ix (.var 10) (.var 3))) (.cons (.ret (.tup (.cons (.op2 .add (.op2 .add (.slc (.op2 .ix (.var 1) (.con (.int 0))) .no (.yes (.var 2))) (.tup (.cons (.var 11) .nil))) (.slc (.op2 .ix (.var 1) (.con (.int 0))) (.yes (.op2 .add (.var 2) (.con (.int 1)))) .no)) (.cons (.op2 .ix (.var 1) (.con (.int 1))) .nil)))) .nil)))))))
abbrev N__law_other : List Str := ["source", "fair", "number", "way", "deposit", "cup", "chip", "takes", "needs", "refund", "some", "new"]
def F__law_other : Fd := ⟨2, 12, B__law_other⟩
def B__law_parting : Ss := (.cons (.par2 2 3 (.call j__law_costs (.cons (.call j__law_arcs (.cons (.var 0) (.cons (.lst .nil) .nil))) .nil)) (.call j__law_costs (.cons (.call j__law_arcs (.cons (.var 1) (.cons (.lst .nil) .nil))) .nil))) (.cons (.ite (.or (.cmp .is_ (.var 2) (.con .non)) (.cmp .is_ (.var 3) (.con .non))) (.cons (.ret (.ite (.or (.cmp .isnot (.var 2) (.con .non)) (.cmp .isnot (.var 3) (.con .non))) (.tup (.cons (.tup .nil) (.cons (.tup .nil) .nil))) (.con .non))) .nil) .nil) (.cons (.for_ (.tup (.cons (.nm 4) (.cons (.nm 5) .nil))) (.seq (.call0 j__law_pairs)) (.cons (.ite (.cmp .ne (.call j__law_due (.cons (.var 2) (.cons (.var 4) (.cons (.var 5) .nil)))) (.call j__law_due (.cons (.var 3) (.cons (.var 4) (.cons (.var 5) .nil))))) (.cons (.ret (.tup (.cons (.var 4) (.cons (.var 5) .nil)))) .nil) .nil) .nil)) (.cons (.ret (.con .non)) .nil))))
abbrev N__law_parting : List Str := ["one", "other", "mine", "theirs", "have", "want"]
def F__law_parting : Fd := ⟨2, 6, B__law_parting⟩
def B_alike : Ss := (.cons (.expr (.call j_need_fair (.cons (.var 0) .nil))) (.cons (.expr (.call j_need_fair (.cons (.var 1) .nil))) (.cons (.ret (.cmp .is_ (.call j_first_parting (.cons (.var 0) (.cons (.var 1) .nil))) (.con .non))) .nil)))
abbrev N_alike : List Str := ["one", "other"]
def F_alike : Fd := ⟨2, 2, B_alike⟩
def B_parting : Ss := (.cons (.expr (.call j_need_fair (.cons (.var 0) .nil))) (.cons (.expr (.call j_need_fair (.cons (.var 1) .nil))) (.cons (.ret (.call j_first_parting (.cons (.var 0) (.cons (.var 1) .nil)))) .nil)))
abbrev N_parting : List Str := ["one", "other"]
def F_parting : Fd := ⟨2, 2, B_parting⟩
def B__law_pairs : Ss := (.cons (.set 0 (.lst (.cons (.tup (.cons (.con (.str "chip")) (.cons (.con (.int 0)) .nil))) (.cons (.tup (.cons (.con (.str "chip")) (.cons (.con (.int 1)) .nil))) (.cons (.tup (.cons (.con (.str "chip")) (.cons (.con (.int 2)) .nil))) (.cons (.tup (.cons (.con (.str "cup")) (.cons (.con (.int 0)) .nil))) (.cons (.tup (.cons (.con (.str "cup")) (.cons (.con (.int 1)) .nil))) (.cons (.tup (.cons (.con (.str "cup")) (.cons (.con (.int 2)) .nil))) .nil)))))))) (.cons (.set 1 (.lst (.cons (.tup (.cons (.tup .nil) (.cons (.tup .nil) .nil))) .nil))) (.cons (.for_ (.tup (.cons (.nm 2) (.cons (.nm 3) .nil))) (.enum (.var 0)) (.cons (.set 1 (.op2 .add (.var 1) (.lst (.cons (.tup (.cons (.tup (.cons (.var 3) .nil)) (.cons (.tup .nil) .nil))) (.cons (.tup (.cons (.tup .nil) (.cons (.tup (.cons (.var 3) .nil)) .nil))) .nil))))) (.cons (.set 1 (.op2 .add (.var 1) (.lc (.nm 4) (.seq (.var 0)) (.con (.bl true)) (.tup (.cons (.tup (.cons (.var 3) .nil)) (.cons (.tup (.cons (.var 4) .nil)) .nil))) [4]))) (.cons (.set 1 (.op2 .add (.op2 .add (.var 1) (.lc (.nm 4) (.seq (.slc (.var 0) (.yes (.var 2)) .no)) (.con (.bl true)) (.tup (.cons (.tup (.cons (.var 3) (.cons (.var 4) .nil))) (.cons (.tup .nil) .nil))) [4])) (.lc (.nm 4) (.seq (.slc (.var 0) (.yes (.var 2)) .no)) (.con (.bl true)) (.tup (.cons (.tup .nil) (.cons (.tup (.cons (.var 3) (.cons (.var 4) .nil))) .nil))) [4]))) .nil)))) (.cons (.ret (.b .sorted (.cons (.var 1) .nil))) .nil))))
abbrev N__law_pairs : List Str := ["things", "found", "at", "one", "other"]
def F__law_pairs : Fd := ⟨0, 5, B__law_pairs⟩
def B_first_parting : Ss := (.cons (.par2 2 3 (.call j_ways_of (.cons (.call j_edges_of (.cons (.var 0) .nil)) .nil)) (.call j_ways_of (.cons (.call j_edges_of (.cons (.var 1) .nil)) .nil))) (.cons (.ite (.or (.cmp .is_ (.var 2) (.con .non)) (.cmp .is_ (.var 3) (.con .non))) (.cons (.ret (.ite (.and (.cmp .is_ (.var 2) (.con .non)) (.cmp .is_ (.var 3) (.con .non))) (.con .non) (.tup (.cons (.tup .nil) (.cons (.tup .nil) .nil))))) .nil) .nil) (.cons (.for_ (.tup (.cons (.nm 4) (.cons (.nm 5) .nil))) (.seq (.call0 j_every_pair)) (.cons (.ite (.cmp .ne (.call j_cost_by (.cons (.var 2) (.cons (.var 4) (.cons (.var 5) .nil)))) (.call j_cost_by (.cons (.var 3) (.cons (.var 4) (.cons (.var 5) .nil))))) (.cons (.ret (.tup (.cons (.var 4) (.cons (.var 5) .nil)))) .nil) .nil) .nil)) (.cons (.ret (.con .non)) .nil))))
abbrev N_first_parting : List Str := ["one", "other", "mine", "theirs", "have", "want"]
def F_first_parting : Fd := ⟨2, 6, B_first_parting⟩
def B_every_pair : Ss := (.cons (.set 0 (.lc2 (.nm 2) (.seq (.con (.tup [(.str "chip"), (.str "cup")]))) (.nm 3) (.rng (.con (.int 3))) (.con (.bl true)) (.tup (.cons (.var 2) (.cons (.var 3) .nil))) [2, 3] [3])) (.cons (.set 1 (.op2 .add (.lst (.cons (.tup .nil) .nil)) (.lc (.nm 4) (.seq (.var 0)) (.con (.bl true)) (.tup (.cons (.var 4) .nil)) [4]))) (.cons (.set 1 (.op2 .add (.var 1) (.lc2 (.nm 5) (.seq (.var 0)) (.nm 6) (.seq (.var 0)) (.cmp .le (.var 5) (.var 6)) (.tup (.cons (.var 5) (.cons (.var 6) .nil))) [5, 6] [6]))) (.cons (.ret (.b .sorted (.cons (.lc2 (.nm 7) (.seq (.var 1)) (.nm 8) (.seq (.var 1)) (.cmp .lt (.op2 .add (.b .len (.cons (.var 7) .nil)) (.b .len (.cons (.var 8) .nil))) (.con (.int 3))) (.tup (.cons (.var 7) (.cons (.var 8) .nil))) [7, 8] [8]) .nil))) .nil))))
abbrev N_every_pair : List Str := ["things", "lots", "word", "sort", "thing", "one", "other", "have", "want"]
def F_every_pair : Fd := ⟨0, 9, B_every_pair⟩
def B_law_k14 : Ss := (.cons (.for_ (.nm 1) (.rng (.op2 .add (.con (.int 1)) (.b .min2 (.cons (.b .len (.cons (.var 0) .nil)) (.cons (.con (.int 6)) .nil))))) (.cons (.set 2 (.call j__law_source (.cons (.var 0) (.cons (.var 1) .nil)))) (.cons (.for_ (.nm 3) (.rng (.con (.int 3))) (.cons (.set 4 (.call j__law_fair (.cons (.var 2) (.cons (.con (.int 3)) .nil)))) (.cons (.ite (.cmp .eq (.call j__law_draw (.cons (.var 2) (.cons (.con (.int 2)) .nil))) (.con (.int 0))) (.cons (.set 4 (.tup (.cons (.op2 .add (.op2 .ix (.var 4) (.con (.int 0))) (.tup (.cons (.call j__law_choice (.cons (.var 2) (.cons (.op2 .ix (.var 4) (.con (.int 0))) .nil))) .nil))) (.cons (.op2 .ix (.var 4) (.con (.int 1))) .nil)))) .nil) .nil) (.cons (.set 5 (.mk (.lst .nil))) (.cons (.for_ (.nm 6) (.rng (.b .len (.cons (.op2 .ix (.var 4) (.con (.int 0))) .nil))) (.cons (.set 7 (.tup (.cons (.op2 .add (.slc (.op2 .ix (.var 4) (.con (.int 0))) .no (.yes (.var 6))) (.slc (.op2 .ix (.var 4) (.con (.int 0))) (.yes (.op2 .add (.var 6) (.con (.int 1)))) .no)) (.cons (.op2 .ix (.var 4) (.con (.int 1))) .nil)))) (.cons (.ite (.and (.cmp .ne (.op2 .ix (.var 7) (.con (.int 0))) (.tup .nil)) (.call j_alike (.cons (.var 4) (.cons (.var 7) .nil)))) (.cons (.app (.var 5) (.var 6)) (.cons (.par2 8 9 (.call j__law_lot (.cons (.var 2) (.cons (.con (.int 2)) .nil))) (.call j__law_lot (.cons (.var 2) (.cons (.con (.int 2)) .nil)))) (.cons (.ite (.and (.call j_is_sound (.cons (.var 4) .nil)) (.cmp .ne (.call j_cost (.cons (.var 4) (.cons (.var 8) (.cons (.var 9) .nil)))) (.call j_cost (.cons (.var 7) (.cons (.var 8) (.cons (.var 9) .nil)))))) (.cons (.ret (.con (.bl false))) .nil) .nil) .nil))) .nil) .nil))) (.cons (.set 10 (.call j_idle_stands (.cons (.var 4) .nil))) (.cons (.ite (.or (.not (.isi (.var 10) .list)) (.cmp .ne (.var 10) (.var 5))) (.cons (.ret (.con (.bl false))) .nil) .nil) .nil))))))) .nil))) (.cons (.set 11 (.tup (.cons (.tup (.cons (.tup (.cons (.con (.int 2)) (.cons (.con (.int 0)) (.cons (.con .non) (.cons (.tup (.cons (.con (.int 0)) .nil)) (.cons (.con .non) (.cons (.con (.int 2)) .nil))))))) (.cons (.tup (.cons (.con (.int 1)) (.cons (.con (.int 1)) (.cons (.con .non) (.cons (.tup (.cons (.con (.int 0)) (.cons (.con (.int 1)) .nil))) (.cons (.con .non) (.cons (.con (.int 1)) .nil))))))) .nil))) (.cons (.tup .nil) .nil)))) (.cons (.set 12 (.tup (.cons (.tup (.cons (.tup (.cons (.con (.int 1)) (.cons (.con (.int 0)) (.cons (.con .non) (.cons (.tup (.cons (.con (.int 0)) .nil)) (.cons (.con .non) (.cons (.con (.int 1)) .nil))))))) (.cons (.tup (.cons (.con (.int 2)) (.cons (.con (.int 0)) (.cons (.con .non) (.cons (.tup (.cons (.con (.int 0)) .nil)) (.cons (.con .non) (.cons (.con (.int 2)) .nil))))))) .nil))) (.cons (.tup .nil) .nil)))) (.cons (.ite (.or (.cmp .ne (.call j_idle_stands (.cons (.var 11) .nil)) (.lst .nil)) (.or (.cmp .ne (.call j_idle_stands (.cons (.tup (.cons (.op2 .add (.op2 .ix (.var 11) (.con (.int 0))) (.slc (.op2 .ix (.var 11) (.con (.int 0))) .no (.yes (.con (.int 1))))) (.cons (.tup .nil) .nil))) .nil)) (.lst (.cons (.con (.int 0)) (.cons (.con (.int 2)) .nil)))) (.cmp .ne (.call j_idle_stands (.cons (.var 12) .nil)) (.lst .nil)))) (.cons (.ret (.con (.bl false))) .nil) .nil) (.cons (.ret (.and (.cmp .eq (.call j_idle_stands (.cons (.tup (.cons (.slc (.op2 .ix (.var 11) (.con (.int 0))) .no (.yes (.con (.int 1)))) (.cons (.tup .nil) .nil))) .nil)) (.lst .nil)) (.cmp .eq (.call j_idle_stands (.cons (.tup (.cons (.op2 .add (.op2 .ix (.var 12) (.con (.int 0))) (.slc (.op2 .ix (.var 12) (.con (.int 0))) .no (.yes (.con (.int 1))))) (.cons (.tup .nil) .nil))) .nil)) (.lst (.cons (.con (.int 0)) (.cons (.con (.int 2)) .nil)))))) .nil)))))
abbrev N_law_k14 : List Str := ["script", "k", "source", "turn", "fair", "due", "stand", "less", "have", "want", "found", "plain", "two"]
def F_law_k14 : Fd := ⟨1, 13, B_law_k14⟩
def B_idle_stands : Ss := (.cons (.expr (.call j_need_fair (.cons (.var 0) .nil))) (.cons (.set 1 (.b .len (.cons (.op2 .ix (.var 0) (.con (.int 0))) .nil))) (.cons (.set 2 (.ite (.cmp .gt (.var 1) (.con (.int 1))) (.lc (.nm 3) (.rng (.var 1)) (.con (.bl true)) (.tup (.cons (.op2 .add (.slc (.op2 .ix (.var 0) (.con (.int 0))) .no (.yes (.var 3))) (.slc (.op2 .ix (.var 0) (.con (.int 0))) (.yes (.op2 .add (.var 3) (.con (.int 1)))) .no)) (.cons (.op2 .ix (.var 0) (.con (.int 1))) .nil))) [3]) (.lst .nil))) (.cons (.ret (.lc (.tup (.cons (.nm 3) (.cons (.nm 4) .nil))) (.enum (.var 2)) (.cmp .is_ (.call j_first_parting (.cons (.var 0) (.cons (.var 4) .nil))) (.con .non)) (.var 3) [3, 4])) .nil))))
abbrev N_idle_stands : List Str := ["fair", "many", "some", "stand", "other"]
def F_idle_stands : Fd := ⟨1, 5, B_idle_stands⟩
def FDS : List Fd := [F_law_k01, F__law_bent, F__law_deeds, F__law_fair, F__law_is_fair, F__law_is_lot, F__law_lot, F__law_source, F__law_stranded, F_deeds, F_is_fair, F_is_lot, F_stranded, F__law_choice, F__law_draw, F__law_stand, F__law_from, F__law_is_stand, F__law_is_thing, F__law_tuple, F__law_done, F_every_deed, F_need_fair, F_is_shop, F_is_stand, F_is_tuple, F_has_lot, F_is_from, F_is_sort, F_is_thing, F_law_k03, F__law_arcs, F__law_costs, F__law_fewest, F__law_led, F_is_sound, F_pump, F__law_free, F__law_step, F_edges_of, F_ways_of, F_fewest_pump, F_in_turn, F_chip_node, F_cup_node, F_longer, F_thrown, F_law_k04, F__law_back, F__law_pumped, F__law_row, F_is_row, F_money, F_has_row, F_need_lot, F_led, F_need_row, F_done, F_is_deed, F_parts_of, F_without, F_law_k05, F__law_right, F_price_tags, F__law_price, F_law_k06, F__law_due, F__law_unsound, F_cost, F__law_cost, F_cost_by, F_need_three, F_sound_ways, F_best_way, F_ends_of, F_matched, F_both, F_cheaper, F_law_k07, F__law_comes, F_cheap_row, F_law_k08, F__law_joined, F__law_some, F_things_behind, F_law_k09, F__law_right_v2, F__law_told, F__law_sound_with, F_least_deposit, F_edges_without, F_need_stand, F_law_k10, F__law_right_v3, F__law_told_v2, F__law_sound_with_v2, F_greatest_refund, F_least_of, F_law_k11, F__law_drain, F__law_row_so, F__law_told_v3, F_drain, F_law_k12, F__law_least, F_least_stands, F__law_lots, F__law_mended, F_is_mended, F_is_give, F_law_k13, F__law_other, F__law_parting, F_alike, F_parting, F__law_pairs, F_first_parting, F_every_pair, F_law_k14, F_idle_stands]
theorem fds_law_k01 : FDS[0]? = some F_law_k01 := rfl
theorem fds__law_bent : FDS[1]? = some F__law_bent := rfl
theorem fds__law_deeds : FDS[2]? = some F__law_deeds := rfl
theorem fds__law_fair : FDS[3]? = some F__law_fair := rfl
theorem fds__law_is_fair : FDS[4]? = some F__law_is_fair := rfl
theorem fds__law_is_lot : FDS[5]? = some F__law_is_lot := rfl
theorem fds__law_lot : FDS[6]? = some F__law_lot := rfl
theorem fds__law_source : FDS[7]? = some F__law_source := rfl
theorem fds__law_stranded : FDS[8]? = some F__law_stranded := rfl
theorem fds_deeds : FDS[9]? = some F_deeds := rfl
theorem fds_is_fair : FDS[10]? = some F_is_fair := rfl
theorem fds_is_lot : FDS[11]? = some F_is_lot := rfl
theorem fds_stranded : FDS[12]? = some F_stranded := rfl
theorem fds__law_choice : FDS[13]? = some F__law_choice := rfl
theorem fds__law_draw : FDS[14]? = some F__law_draw := rfl
theorem fds__law_stand : FDS[15]? = some F__law_stand := rfl
theorem fds__law_from : FDS[16]? = some F__law_from := rfl
theorem fds__law_is_stand : FDS[17]? = some F__law_is_stand := rfl
theorem fds__law_is_thing : FDS[18]? = some F__law_is_thing := rfl
theorem fds__law_tuple : FDS[19]? = some F__law_tuple := rfl
theorem fds__law_done : FDS[20]? = some F__law_done := rfl
theorem fds_every_deed : FDS[21]? = some F_every_deed := rfl
theorem fds_need_fair : FDS[22]? = some F_need_fair := rfl
theorem fds_is_shop : FDS[23]? = some F_is_shop := rfl
theorem fds_is_stand : FDS[24]? = some F_is_stand := rfl
theorem fds_is_tuple : FDS[25]? = some F_is_tuple := rfl
theorem fds_has_lot : FDS[26]? = some F_has_lot := rfl
theorem fds_is_from : FDS[27]? = some F_is_from := rfl
theorem fds_is_sort : FDS[28]? = some F_is_sort := rfl
theorem fds_is_thing : FDS[29]? = some F_is_thing := rfl
theorem fds_law_k03 : FDS[30]? = some F_law_k03 := rfl
theorem fds__law_arcs : FDS[31]? = some F__law_arcs := rfl
theorem fds__law_costs : FDS[32]? = some F__law_costs := rfl
theorem fds__law_fewest : FDS[33]? = some F__law_fewest := rfl
theorem fds__law_led : FDS[34]? = some F__law_led := rfl
theorem fds_is_sound : FDS[35]? = some F_is_sound := rfl
theorem fds_pump : FDS[36]? = some F_pump := rfl
theorem fds__law_free : FDS[37]? = some F__law_free := rfl
theorem fds__law_step : FDS[38]? = some F__law_step := rfl
theorem fds_edges_of : FDS[39]? = some F_edges_of := rfl
theorem fds_ways_of : FDS[40]? = some F_ways_of := rfl
theorem fds_fewest_pump : FDS[41]? = some F_fewest_pump := rfl
theorem fds_in_turn : FDS[42]? = some F_in_turn := rfl
theorem fds_chip_node : FDS[43]? = some F_chip_node := rfl
theorem fds_cup_node : FDS[44]? = some F_cup_node := rfl
theorem fds_longer : FDS[45]? = some F_longer := rfl
theorem fds_thrown : FDS[46]? = some F_thrown := rfl
theorem fds_law_k04 : FDS[47]? = some F_law_k04 := rfl
theorem fds__law_back : FDS[48]? = some F__law_back := rfl
theorem fds__law_pumped : FDS[49]? = some F__law_pumped := rfl
theorem fds__law_row : FDS[50]? = some F__law_row := rfl
theorem fds_is_row : FDS[51]? = some F_is_row := rfl
theorem fds_money : FDS[52]? = some F_money := rfl
theorem fds_has_row : FDS[53]? = some F_has_row := rfl
theorem fds_need_lot : FDS[54]? = some F_need_lot := rfl
theorem fds_led : FDS[55]? = some F_led := rfl
theorem fds_need_row : FDS[56]? = some F_need_row := rfl
theorem fds_done : FDS[57]? = some F_done := rfl
theorem fds_is_deed : FDS[58]? = some F_is_deed := rfl
theorem fds_parts_of : FDS[59]? = some F_parts_of := rfl
theorem fds_without : FDS[60]? = some F_without := rfl
theorem fds_law_k05 : FDS[61]? = some F_law_k05 := rfl
theorem fds__law_right : FDS[62]? = some F__law_right := rfl
theorem fds_price_tags : FDS[63]? = some F_price_tags := rfl
theorem fds__law_price : FDS[64]? = some F__law_price := rfl
theorem fds_law_k06 : FDS[65]? = some F_law_k06 := rfl
theorem fds__law_due : FDS[66]? = some F__law_due := rfl
theorem fds__law_unsound : FDS[67]? = some F__law_unsound := rfl
theorem fds_cost : FDS[68]? = some F_cost := rfl
theorem fds__law_cost : FDS[69]? = some F__law_cost := rfl
theorem fds_cost_by : FDS[70]? = some F_cost_by := rfl
theorem fds_need_three : FDS[71]? = some F_need_three := rfl
theorem fds_sound_ways : FDS[72]? = some F_sound_ways := rfl
theorem fds_best_way : FDS[73]? = some F_best_way := rfl
theorem fds_ends_of : FDS[74]? = some F_ends_of := rfl
theorem fds_matched : FDS[75]? = some F_matched := rfl
theorem fds_both : FDS[76]? = some F_both := rfl
theorem fds_cheaper : FDS[77]? = some F_cheaper := rfl
theorem fds_law_k07 : FDS[78]? = some F_law_k07 := rfl
theorem fds__law_comes : FDS[79]? = some F__law_comes := rfl
theorem fds_cheap_row : FDS[80]? = some F_cheap_row := rfl
theorem fds_law_k08 : FDS[81]? = some F_law_k08 := rfl
theorem fds__law_joined : FDS[82]? = some F__law_joined := rfl
theorem fds__law_some : FDS[83]? = some F__law_some := rfl
theorem fds_things_behind : FDS[84]? = some F_things_behind := rfl
theorem fds_law_k09 : FDS[85]? = some F_law_k09 := rfl
theorem fds__law_right_v2 : FDS[86]? = some F__law_right_v2 := rfl
theorem fds__law_told : FDS[87]? = some F__law_told := rfl
theorem fds__law_sound_with : FDS[88]? = some F__law_sound_with := rfl
theorem fds_least_deposit : FDS[89]? = some F_least_deposit := rfl
theorem fds_edges_without : FDS[90]? = some F_edges_without := rfl
theorem fds_need_stand : FDS[91]? = some F_need_stand := rfl
theorem fds_law_k10 : FDS[92]? = some F_law_k10 := rfl
theorem fds__law_right_v3 : FDS[93]? = some F__law_right_v3 := rfl
theorem fds__law_told_v2 : FDS[94]? = some F__law_told_v2 := rfl
theorem fds__law_sound_with_v2 : FDS[95]? = some F__law_sound_with_v2 := rfl
theorem fds_greatest_refund : FDS[96]? = some F_greatest_refund := rfl
theorem fds_least_of : FDS[97]? = some F_least_of := rfl
theorem fds_law_k11 : FDS[98]? = some F_law_k11 := rfl
theorem fds__law_drain : FDS[99]? = some F__law_drain := rfl
theorem fds__law_row_so : FDS[100]? = some F__law_row_so := rfl
theorem fds__law_told_v3 : FDS[101]? = some F__law_told_v3 := rfl
theorem fds_drain : FDS[102]? = some F_drain := rfl
theorem fds_law_k12 : FDS[103]? = some F_law_k12 := rfl
theorem fds__law_least : FDS[104]? = some F__law_least := rfl
theorem fds_least_stands : FDS[105]? = some F_least_stands := rfl
theorem fds__law_lots : FDS[106]? = some F__law_lots := rfl
theorem fds__law_mended : FDS[107]? = some F__law_mended := rfl
theorem fds_is_mended : FDS[108]? = some F_is_mended := rfl
theorem fds_is_give : FDS[109]? = some F_is_give := rfl
theorem fds_law_k13 : FDS[110]? = some F_law_k13 := rfl
theorem fds__law_other : FDS[111]? = some F__law_other := rfl
theorem fds__law_parting : FDS[112]? = some F__law_parting := rfl
theorem fds_alike : FDS[113]? = some F_alike := rfl
theorem fds_parting : FDS[114]? = some F_parting := rfl
theorem fds__law_pairs : FDS[115]? = some F__law_pairs := rfl
theorem fds_first_parting : FDS[116]? = some F_first_parting := rfl
theorem fds_every_pair : FDS[117]? = some F_every_pair := rfl
theorem fds_law_k14 : FDS[118]? = some F_law_k14 := rfl
theorem fds_idle_stands : FDS[119]? = some F_idle_stands := rfl
end CB
end
section
set_option maxHeartbeats 1000000
/-! P01: what the checks compute. -/
namespace CB
open PySem
/-- plain data -/
def Pl : D → Bool
  | .non => true
  | .bl _ => true
  | .int _ => true
  | .str _ => true
  | .tup _ => true
  | .lst _ => true
  | _ => false
theorem callF_at {tb : List Fd} {k j : Nat} {args : List D} {M : Mem} {fd : Fd} (h : tb[j]? = some fd) (hl : args.length = fd.npar) : callF tb (k + 1) j args M = fin M.length (exs (callF tb k) fd.body (args.map some ++ List.replicate (fd.nsl - fd.npar) none) M) := by
  conv => lhs; unfold callF
  rw [h]
  simp only [hl, if_true]
@[simp] theorem fin_ret_same (d : D) (M : Mem) : fin M.length (.ret d M) = .ok d M := by
  unfold fin finD
  simp
@[simp] theorem fin_nx_same (δ : Env) (M : Mem) : fin M.length (.nx δ M) = .ok .non M := by
  unfold fin finD
  simp
@[simp] theorem fin_exc_same (x : Ex) (δ : Env) (M : Mem) : fin M.length (.exc x δ M) = .exc x M := by
  unfold fin cutM
  simp
def isFrom (v : D) (lo hi : Int) : Bool := match v with
  | .int i => decide (lo ≤ i) && decide (i ≤ hi)
  | _ => false
theorem is_from_spec (k : Nat) (v : D) (lo hi : Int) (M : Mem) (hv : Pl v = true) : callF FDS (k + 1) j_is_from [v, .int lo, .int hi] M = .ok (.bl (isFrom v lo hi)) M := by
  rw [callF_at fds_is_from rfl]
  cases v with
  | int i =>
    simp [F_is_from, B_is_from, exs, ex, ev, getVar, isOf, cmp2, leD, leN, isFrom, Rs.test, Rs.run, List.replicate]
    by_cases h : lo ≤ i <;> simp [h]
  | non => simp [F_is_from, B_is_from, exs, ex, ev, getVar, isOf, cmp2, leD, leN, isFrom, Rs.test, Rs.run, List.replicate]
  | bl b => simp [F_is_from, B_is_from, exs, ex, ev, getVar, isOf, cmp2, leD, leN, isFrom, Rs.test, Rs.run, List.replicate]
  | str b => simp [F_is_from, B_is_from, exs, ex, ev, getVar, isOf, cmp2, leD, leN, isFrom, Rs.test, Rs.run, List.replicate]
  | tup b => simp [F_is_from, B_is_from, exs, ex, ev, getVar, isOf, cmp2, leD, leN, isFrom, Rs.test, Rs.run, List.replicate]
  | lst b => simp [F_is_from, B_is_from, exs, ex, ev, getVar, isOf, cmp2, leD, leN, isFrom, Rs.test, Rs.run, List.replicate]
  | _ => cases hv
example : callF FDS 5 j_is_stand [.tup [.int 2, .int 0, .non, .tup [.int 0, .int 2], .int 1, .int 9]] [] = .ok (.bl true) [] := by rfl
example : callF FDS 6 j_is_fair [.tup [.tup [.tup [.int 2, .int 0, .non, .tup [.int 0, .int 2], .int 1, .int 9]], .tup []]] [] = .ok (.bl true) [] := by rfl
end CB
end
section
set_option maxHeartbeats 1000000
/-! P02: good data; equality with the empty list; the checks of the program. -/
namespace CB
open PySem
section
variable {m : Nat}
mutual
/-- plain data, no deeper than n, no longer than m -/
def good (m : Nat) : Nat → D → Bool
  | _, .non => true
  | _, .bl _ => true
  | _, .int _ => true
  | _, .str x => PyData.strOk x
  | n, .tup l => match n with | 0 => false | n + 1 => decide (l.length ≤ m) && goodL m n l
  | n, .lst l => match n with | 0 => false | n + 1 => decide (l.length ≤ m) && goodL m n l
  | _, _ => false
def goodL (m : Nat) : Nat → List D → Bool
  | _, [] => true
  | n, d :: ds => good m n d && goodL m n ds
end
theorem goodL_iff {n : Nat} : ∀ {l : List D}, goodL m n l = true ↔ ∀ d ∈ l, good m n d = true
  | [] => by simp [goodL]
  | d :: ds => by simp [goodL, goodL_iff (l := ds)]
mutual
theorem good_mono {n n' m' : Nat} (h : n ≤ n') (hm : m ≤ m') : ∀ {d : D}, good m n d = true → good m' n' d = true
  | .non, _ => rfl
  | .bl _, _ => rfl
  | .int _, _ => rfl
  | .str _, e => by unfold good at e ⊢; exact e
  | .tup l, e => by
    cases n with
    | zero => cases e
    | succ n =>
      cases n' with
      | zero => omega
      | succ n' =>
        unfold good at e ⊢
        simp only [Bool.and_eq_true, decide_eq_true_eq] at e ⊢
        exact ⟨by omega, goodL_mono (by omega) hm e.2⟩
  | .lst l, e => by
    cases n with
    | zero => cases e
    | succ n =>
      cases n' with
      | zero => omega
      | succ n' =>
        unfold good at e ⊢
        simp only [Bool.and_eq_true, decide_eq_true_eq] at e ⊢
        exact ⟨by omega, goodL_mono (by omega) hm e.2⟩
  | .dct _, e => by cases e
  | .scr _, e => by cases e
  | .loc _, e => by cases e
  | .fn _, e => by cases e
  | .key _, e => by cases e
theorem goodL_mono {n n' m' : Nat} (h : n ≤ n') (hm : m ≤ m') : ∀ {d : List D}, goodL m n d = true → goodL m' n' d = true
  | [], _ => rfl
  | d :: ds, e => by
    unfold goodL at e ⊢
    rw [Bool.and_eq_true] at e ⊢
    exact ⟨good_mono h hm e.1, goodL_mono h hm e.2⟩
end
theorem good_Pl {n : Nat} {d : D} (h : good m n d = true) : Pl d = true := by
  cases d <;> first | rfl | cases h
mutual
theorem good_pd : ∀ {n : Nat} {d : D}, good m n d = true → ∃ p, d.pd = some p ∧ p.canLay0 = true ∧ p.depth ≤ n
  | _, .non, _ => ⟨_, rfl, rfl, Nat.zero_le _⟩
  | _, .bl b, _ => ⟨_, rfl, rfl, Nat.zero_le _⟩
  | _, .int b, _ => ⟨_, rfl, rfl, Nat.zero_le _⟩
  | _, .str b, e => ⟨_, rfl, by unfold good at e; unfold PyData.canLay0; exact e, Nat.zero_le _⟩
  | n, .tup l, e => by
    cases n with
    | zero => cases e
    | succ n =>
      unfold good at e
      rw [Bool.and_eq_true] at e
      obtain ⟨ps, h1, h2, h3⟩ := goodL_pd e.2
      exact ⟨.tuple ps, by unfold D.pd; rw [h1]; rfl, by unfold PyData.canLay0; exact h2, by unfold PyData.depth; omega⟩
  | n, .lst l, e => by
    cases n with
    | zero => cases e
    | succ n =>
      unfold good at e
      rw [Bool.and_eq_true] at e
      obtain ⟨ps, h1, h2, h3⟩ := goodL_pd e.2
      exact ⟨.list ps, by unfold D.pd; rw [h1]; rfl, by unfold PyData.canLay0; exact h2, by unfold PyData.depth; omega⟩
  | _, .dct _, e => by cases e
  | _, .scr _, e => by cases e
  | _, .loc _, e => by cases e
  | _, .fn _, e => by cases e
  | _, .key _, e => by cases e
theorem goodL_pd : ∀ {n : Nat} {d : List D}, goodL m n d = true → ∃ p, pdL d = some p ∧ PyData.canLayAll0 p = true ∧ PyData.depthAll p ≤ n
  | _, [], _ => ⟨[], rfl, rfl, Nat.zero_le _⟩
  | n, d :: ds, e => by
    unfold goodL at e
    rw [Bool.and_eq_true] at e
    obtain ⟨p, h1, h2, h3⟩ := good_pd e.1
    obtain ⟨ps, g1, g2, g3⟩ := goodL_pd e.2
    exact ⟨p :: ps, by unfold pdL; rw [h1, g1], by unfold PyData.canLayAll0; rw [h2, g2]; rfl, by unfold PyData.depthAll; omega⟩
end
theorem good_pdM {n : Nat} {d : D} (M : Mem) (h : good m n d = true) (hn : n ≤ 64) : ∃ p, d.pd = some p ∧ pdM M d = some p := by
  obtain ⟨p, h1, h2, h3⟩ := good_pd h
  refine ⟨p, h1, ?_⟩
  have hd : deref M d = d := by cases d <;> first | rfl | cases h
  have hs : SeqAt.shaped p = true := by unfold SeqAt.shaped; rw [h2, decide_eq_true (by omega : p.depth ≤ 64)]; rfl
  unfold pdM
  rw [hd, h1]
  simp [hs]
theorem pdL_len : ∀ {l : List D} {ps : List PyData}, pdL l = some ps → ps.length = l.length
  | [], ps, h => by unfold pdL at h; cases h; rfl
  | d :: ds, ps, h => by
    unfold pdL at h
    split at h
    · rename_i h1 h2
      cases h
      rw [List.length_cons, List.length_cons, pdL_len h2]
    · cases h
/-- l == [] -/
theorem eq_nil {n : Nat} {l : List D} (M : Mem) (h : goodL m n l = true) (hn : n ≤ 60) : eq2 M (.lst l) (.lst []) = some l.isEmpty := by
  obtain ⟨p, h1, h2⟩ := good_pdM (m := max m l.length) (n := n + 1) (d := .lst l) M (by unfold good; rw [Bool.and_eq_true]; exact ⟨decide_eq_true (by omega), goodL_mono (Nat.le_refl _) (by omega) h⟩) (by omega)
  unfold eq2
  rw [h2]
  have e0 : pdM M (.lst []) = some (.list []) := rfl
  rw [e0]
  unfold D.pd at h1
  cases q : pdL l with
  | none => rw [q] at h1; cases h1
  | some ps =>
    rw [q] at h1
    cases h1
    have := pdL_len q
    cases l with
    | nil => cases ps with
      | nil => rfl
      | cons _ _ => simp at this
    | cons d ds => cases ps with
      | nil => simp at this
      | cons _ _ => rfl
end
def isTup (v : D) (lo hi : Nat) : Bool := match v with
  | .tup l => decide (lo ≤ l.length) && decide (l.length ≤ hi)
  | _ => false
theorem is_tuple_spec (k : Nat) (v : D) (lo hi : Nat) (M : Mem) (hv : Pl v = true) : callF FDS (k + 1) j_is_tuple [v, .int lo, .int hi] M = .ok (.bl (isTup v lo hi)) M := by
  rw [callF_at fds_is_tuple rfl]
  cases v with
  | tup l =>
    simp [F_is_tuple, B_is_tuple, exs, ex, ev, evs, getVar, isOf, cmp2, leD, leN, isTup, Rs.test, Rs.run, List.replicate, callB, lenD]
    by_cases h : lo ≤ l.length <;> simp [h]
  | non => simp [F_is_tuple, B_is_tuple, exs, ex, ev, getVar, isOf, cmp2, leD, leN, isTup, Rs.test, Rs.run, List.replicate]
  | bl b => simp [F_is_tuple, B_is_tuple, exs, ex, ev, getVar, isOf, cmp2, leD, leN, isTup, Rs.test, Rs.run, List.replicate]
  | str b => simp [F_is_tuple, B_is_tuple, exs, ex, ev, getVar, isOf, cmp2, leD, leN, isTup, Rs.test, Rs.run, List.replicate]
  | int b => simp [F_is_tuple, B_is_tuple, exs, ex, ev, getVar, isOf, cmp2, leD, leN, isTup, Rs.test, Rs.run, List.replicate]
  | lst b => simp [F_is_tuple, B_is_tuple, exs, ex, ev, getVar, isOf, cmp2, leD, leN, isTup, Rs.test, Rs.run, List.replicate]
  | _ => cases hv
theorem is_sort_spec (k : Nat) (v : D) (M : Mem) (hv : Pl v = true) : callF FDS (k + 2) j_is_sort [v] M = .ok (.bl (isFrom v 0 2)) M := by
  rw [callF_at fds_is_sort rfl]
  simp [F_is_sort, B_is_sort, exs, ex, ev, evs, getVar, Rs.run, List.replicate, op2, is_from_spec, hv]
/-- all([f(x) for x in l]) and such: a comprehension of pure items -/
theorem lcGo_map (f : D → Mem → Rs (List D)) (g : D → List D) (M : Mem) : ∀ l : List D, (∀ d ∈ l, f d M = .ok (g d) M) → lcGo f l M = .ok (l.flatMap g) M
  | [], _ => rfl
  | d :: ds, h => by
    unfold lcGo
    rw [h d (List.mem_cons_self)]
    simp only [Rs.noexc_ok, Rs.bind_ok]
    rw [lcGo_map f g M ds fun x hx => h x (List.mem_cons_of_mem _ hx)]
    simp
/-- a comprehension of pure parts -/
theorem ev_lc {Φ : Nat → List D → Mem → Rs D} {p : Pt} {it : I} {c e : T} {own : List Nat} {δ : Env} {M : Mem} {ds : List D} (t : D → Bool) (g : D → D) (h1 : evi Φ it δ M = .ok ds M) (h2 : ds.length ≤ 100000)
    (h3 : ∀ d ∈ ds, ∃ δ', asgP p d (wipeD δ own) = some δ' ∧ ev Φ c δ' M = .ok (.bl (t d)) M ∧ (t d = true → ev Φ e δ' M = .ok (g d) M)) : ev Φ (.lc p it c e own) δ M = .ok (.lst ((ds.filter t).map g)) M := by
  conv => lhs; unfold ev
  rw [h1]
  simp only [Rs.bind_ok, if_pos h2]
  rw [lcGo_map _ (fun d => if t d = true then [g d] else []) M ds fun d hd => ?_]
  · simp only [Rs.bind_ok]
    congr 2
    clear h1 h2 h3
    induction ds with
    | nil => rfl
    | cons d ds ih =>
      rw [List.flatMap_cons, List.filter_cons, ih]
      split <;> simp
  · obtain ⟨δ', a1, a2, a3⟩ := h3 d hd
    rw [a1]
    simp only [a2, Rs.test_ok]
    by_cases ht : t d = true
    · rw [if_pos ht, if_pos ht, a3 ht]; rfl
    · rw [if_neg ht, if_neg ht]
theorem ev_lc1 {Φ : Nat → List D → Mem → Rs D} {p : Pt} {it : I} {e : T} {own : List Nat} {δ : Env} {M : Mem} {ds : List D} (g : D → D) (h1 : evi Φ it δ M = .ok ds M) (h2 : ds.length ≤ 100000)
    (h3 : ∀ d ∈ ds, ∃ δ', asgP p d (wipeD δ own) = some δ' ∧ ev Φ e δ' M = .ok (g d) M) : ev Φ (.lc p it (.con (.bl true)) e own) δ M = .ok (.lst (ds.map g)) M := by
  have := ev_lc (c := .con (.bl true)) (fun _ => true) g h1 h2 fun d hd => by
    obtain ⟨δ', a1, a2⟩ := h3 d hd
    exact ⟨δ', a1, by unfold ev; rfl, fun _ => a2⟩
  rw [this, List.filter_eq_self.mpr fun _ _ => rfl]
theorem dBools_map {α : Type} (f : α → Bool) : ∀ l : List α, dBools (l.map fun x => D.bl (f x)) = some (l.map f)
  | [] => rfl
  | x :: r => by
    rw [List.map_cons]
    unfold dBools
    rw [dBools_map f r]; rfl
theorem all_map {α : Type} (f : α → Bool) (l : List α) (M : Mem) : callB M .all [.lst (l.map fun x => D.bl (f x))] = some (.bl (l.all f)) := by
  unfold callB
  simp only [asL, Option.bind_some, dBools_map, Option.map_some]
  simp [List.all_map]
theorem any_map {α : Type} (f : α → Bool) (l : List α) (M : Mem) : callB M .any [.lst (l.map fun x => D.bl (f x))] = some (.bl (l.any f)) := by
  unfold callB
  simp only [asL, Option.bind_some, dBools_map, Option.map_some]
  simp [List.any_map]
theorem cut1 (l : List D) : cutD l (some 1) none = l.drop 1 := by
  unfold cutD
  rw [show HT.sIx l.length 0 (some 1) = min 1 l.length from HT.sIx_nat l.length 0 1, HT.sIx_none]
  cases l with
  | nil => rfl
  | cons x r =>
    rw [show min 1 (x :: r).length = 1 by rw [List.length_cons]; omega]
    exact List.take_of_length_le (by simp)
end CB
end
section
set_option maxHeartbeats 1000000
/-! P02b: steps. -/
namespace CB
open PySem
theorem fin_step {n : Nat} {r r' : Rf} {x : Rs D} (h : r = r') (g : fin n r' = x) : fin n r = x := by rw [h]; exact g
section
variable {Φ : Nat → List D → Mem → Rs D} {δ : Env} {M M' : Mem}
theorem s_ite_ret {c : T} {d : D} {ss : Ss} {b : Bool} (h : ev Φ c δ M = .ok (.bl b) M') : exs Φ (.cons (.ite c (.cons (.ret (.con d)) .nil) .nil) ss) δ M = if b = true then .ret d M' else exs Φ ss δ M' := by
  conv => lhs; unfold exs
  unfold ex
  rw [h]
  simp only [Rs.runT_ok]
  cases b with
  | true => simp [exs, ex, ev]
  | false => simp [exs]
theorem s_set {i : Nat} {e : T} {d : D} {ss : Ss} (h : ev Φ e δ M = .ok d M') : exs Φ (.cons (.set i e) ss) δ M = exs Φ ss (δ.set i (some d)) M' := by
  conv => lhs; unfold exs
  unfold ex
  rw [h]; rfl
theorem s_ret {e : T} {d : D} {ss : Ss} (h : ev Φ e δ M = .ok d M') : exs Φ (.cons (.ret e) ss) δ M = .ret d M' := by
  conv => lhs; unfold exs
  unfold ex
  rw [h]; rfl
theorem s_asg {p : Pt} {e : T} {d : D} {ss : Ss} {δ' : Env} (h : ev Φ e δ M = .ok d M') (ha : asgP p d δ = some δ') : exs Φ (.cons (.asg p e) ss) δ M = exs Φ ss δ' M' := by
  conv => lhs; unfold exs
  unfold ex
  rw [h]
  simp only [Rs.run_ok, ha, liftE_some, Rf.next_nx]
theorem s_par2 {i j : Nat} {a b : T} {x y : D} {ss : Ss} {M2 : Mem} (h : ev Φ a δ M = .ok x M') (h2 : ev Φ b δ M' = .ok y M2) : exs Φ (.cons (.par2 i j a b) ss) δ M = exs Φ ss ((δ.set i (some x)).set j (some y)) M2 := by
  conv => lhs; unfold exs
  unfold ex
  rw [h]
  simp only [Rs.run_ok, h2, Rf.next_nx]
theorem s_expr {e : T} {d : D} {ss : Ss} (h : ev Φ e δ M = .ok d M') : exs Φ (.cons (.expr e) ss) δ M = exs Φ ss δ M' := by
  conv => lhs; unfold exs
  unfold ex
  rw [h]; rfl
theorem s_ite {c : T} {a b : Ss} {ss : Ss} {t : Bool} (h : ev Φ c δ M = .ok (.bl t) M') : exs Φ (.cons (.ite c a b) ss) δ M = (if t = true then exs Φ a δ M' else exs Φ b δ M').next fun δ' M' => exs Φ ss δ' M' := by
  conv => lhs; unfold exs
  unfold ex
  rw [h]; rfl
theorem s_for {p : Pt} {it : I} {body ss : Ss} {ds : List D} (h : evi Φ it δ M = .ok ds M') : exs Φ (.cons (.for_ p it body) ss) δ M = (forGo (fun d δ M => match asgP p d δ with | some δ' => exs Φ body δ' M | none => .stuck) ds δ M').next fun δ' M' => exs Φ ss δ' M' := by
  conv => lhs; unfold exs
  unfold ex
  rw [h] <;> rfl
theorem e_not {a : T} {x : Bool} (h : ev Φ a δ M = .ok (.bl x) M') : ev Φ (.not a) δ M = .ok (.bl (!x)) M' := by
  conv => lhs; unfold ev
  rw [h]; rfl
theorem e_and {a b : T} {x y : Bool} (h : ev Φ a δ M = .ok (.bl x) M) (h2 : x = true → ev Φ b δ M = .ok (.bl y) M) : ev Φ (.and a b) δ M = .ok (.bl (x && y)) M := by
  conv => lhs; unfold ev
  rw [h]
  cases x with
  | true => simp [h2 rfl]
  | false => simp
theorem e_or {a b : T} {x y : Bool} (h : ev Φ a δ M = .ok (.bl x) M) (h2 : x = false → ev Φ b δ M = .ok (.bl y) M) : ev Φ (.or a b) δ M = .ok (.bl (x || y)) M := by
  conv => lhs; unfold ev
  rw [h]
  cases x with
  | true => simp
  | false => simp [h2 rfl]
theorem e_ite {c a b : T} {x : Bool} {d : D} (h : ev Φ c δ M = .ok (.bl x) M) (h1 : x = true → ev Φ a δ M = .ok d M') (h2 : x = false → ev Φ b δ M = .ok d M') : ev Φ (.ite c a b) δ M = .ok d M' := by
  conv => lhs; unfold ev
  rw [h]
  cases x with
  | true => simp [h1 rfl]
  | false => simp [h2 rfl]
theorem e_var {i : Nat} {d : D} (h : getVar δ i = some d) : ev Φ (.var i) δ M = .ok d M := by
  conv => lhs; unfold ev
  rw [h]; rfl
theorem e_con {d : D} : ev Φ (.con d) δ M = .ok d M := by
  conv => lhs; unfold ev
theorem es_nil : evs Φ .nil δ M = .ok [] M := by conv => lhs; unfold evs
theorem es_cons {e : T} {es : Ts} {d : D} {ds : List D} {M2 : Mem} (h : ev Φ e δ M = .ok d M') (h2 : evs Φ es δ M' = .ok ds M2) : evs Φ (.cons e es) δ M = .ok (d :: ds) M2 := by
  conv => lhs; unfold evs
  rw [h]
  simp [h2]
theorem e_call {f : Nat} {es : Ts} {ds : List D} {d : D} {M2 : Mem} (h : evs Φ es δ M = .ok ds M') (h2 : Φ f ds M' = .ok d M2) : ev Φ (.call f es) δ M = .ok d M2 := by
  conv => lhs; unfold ev
  rw [h]
  simp [h2]
theorem e_b {o : OB} {es : Ts} {ds : List D} {d : D} (h : evs Φ es δ M = .ok ds M') (h2 : callB M' o ds = some d) : ev Φ (.b o es) δ M = .ok d M' := by
  conv => lhs; unfold ev
  rw [h]
  simp [h2]
theorem e_op2 {o : O2} {a b : T} {x y d : D} {M2 : Mem} (h : ev Φ a δ M = .ok x M') (h2 : ev Φ b δ M' = .ok y M2) (h3 : op2 M2 o x y = some d) : ev Φ (.op2 o a b) δ M = .ok d M2 := by
  conv => lhs; unfold ev
  rw [h]
  simp [h2, h3]
theorem e_cmp {o : OC} {a b : T} {x y : D} {t : Bool} {M2 : Mem} (h : ev Φ a δ M = .ok x M') (h2 : ev Φ b δ M' = .ok y M2) (h3 : cmp2 M2 o x y = some t) : ev Φ (.cmp o a b) δ M = .ok (.bl t) M2 := by
  conv => lhs; unfold ev
  rw [h]
  simp [h2, h3]
theorem e_isi {a : T} {ty : Ty} {x : D} {t : Bool} (h : ev Φ a δ M = .ok x M') (h2 : isOf M' ty x = some t) : ev Φ (.isi a ty) δ M = .ok (.bl t) M' := by
  conv => lhs; unfold ev
  rw [h]
  simp [h2]
theorem e_tup {es : Ts} {ds : List D} (h : evs Φ es δ M = .ok ds M') (hl : ds.length ≤ 1000) : ev Φ (.tup es) δ M = .ok (.tup ds) M' := by
  conv => lhs; unfold ev
  rw [h]
  simp [hl]
theorem e_lst {es : Ts} {ds : List D} (h : evs Φ es δ M = .ok ds M') (hl : ds.length ≤ 1000) : ev Φ (.lst es) δ M = .ok (.lst ds) M' := by
  conv => lhs; unfold ev
  rw [h]
  simp [hl]
theorem i_seq {e : T} {d : D} {l : List D} (h : ev Φ e δ M = .ok d M') (h2 : seqs d = some l) : evi Φ (.seq e) δ M = .ok l M' := by
  conv => lhs; unfold evi
  rw [h]
  simp [h2]
theorem i_zip {a b : T} {x y : D} {l : List D} {M2 : Mem} (h : ev Φ a δ M = .ok x M') (h2 : ev Φ b δ M' = .ok y M2) (h3 : zip2 x y = some l) : evi Φ (.zip a b) δ M = .ok l M2 := by
  conv => lhs; unfold evi
  rw [h]
  simp [h2, h3]
theorem i_enum {e : T} {d : D} {l : List D} (h : ev Φ e δ M = .ok d M') (h2 : seqs d = some l) : evi Φ (.enum e) δ M = .ok (enumL l) M' := by
  conv => lhs; unfold evi
  rw [h]
  simp [h2]
theorem small62_nat {n : Nat} (h : n ≤ 100000) : small62 (n : Int) = true := by
  unfold small62
  have h1 : -(2 ^ 62 : Int) ≤ (n : Int) := by
    have : (2 ^ 62 : Int) = 4611686018427387904 := by decide
    omega
  have h2 : (n : Int) < (2 ^ 62 : Int) := by
    have : (2 ^ 62 : Int) = 4611686018427387904 := by decide
    omega
  rw [decide_eq_true h1, decide_eq_true h2]; rfl
theorem i_rng {e : T} {n : Nat} (h : ev Φ e δ M = .ok (.int (n : Int)) M') (hn : n ≤ 100000) : evi Φ (.rng e) δ M = .ok (rngL 0 n) M' := by
  conv => lhs; unfold evi
  rw [h]
  have : rng2L (.int 0) (.int (n : Int)) = some (rngL 0 n) := by
    show (if (small62 0 && small62 (n : Int)) = true then some (rngL 0 ((n : Int) - 0).toNat) else none) = _
    rw [small62_nat hn, show small62 0 = true from small62_nat (n := 0) (by omega), Int.sub_zero, Int.toNat_natCast]
    rfl
  rw [Rs.bind_ok, this]; rfl
theorem e_slc {a : T} {lo hi : To} {x d : D} {l h : Option Int} {M2 M3 : Mem} (h1 : ev Φ a δ M = .ok x M') (h2 : evo Φ lo δ M' = .ok l M2) (h3 : evo Φ hi δ M2 = .ok h M3) (h4 : slc3 M3 x l h = some d) : ev Φ (.slc a lo hi) δ M = .ok d M3 := by
  conv => lhs; unfold ev
  rw [h1]
  simp [h2, h3, h4]
theorem o_no : evo Φ .no δ M = .ok none M := by conv => lhs; unfold evo
theorem o_yes {t : T} {i : Int} (h : ev Φ t δ M = .ok (.int i) M') : evo Φ (.yes t) δ M = .ok (some i) M' := by
  conv => lhs; unfold evo
  rw [h]; rfl
end
end CB
end
section
set_option maxHeartbeats 1000000
/-! P03: the checks of the program. -/
namespace CB
open PySem
def ascB : List D → Bool
  | .int a :: .int b :: r => decide (a < b) && ascB (.int b :: r)
  | _ => true
def takesB (v : D) : Bool := match v with
  | .tup l => decide (l.length ≤ 3) && l.all (fun d => isFrom d 0 2) && ascB l
  | _ => false
def optB (v : D) : Bool := v.isNon || isFrom v 0 2
def standB (v : D) : Bool := match v with
  | .tup [dep, cup, chip, takes, needs, ref] => isFrom dep 0 9 && isFrom ref 0 9 && isFrom cup 0 2 && optB chip && optB needs && takesB takes
  | _ => false
theorem isFrom_int {v : D} {lo hi : Int} (h : isFrom v lo hi = true) : ∃ i, v = .int i ∧ lo ≤ i ∧ i ≤ hi := by
  cases v with
  | int i =>
    unfold isFrom at h
    simp only [Bool.and_eq_true, decide_eq_true_eq] at h
    exact ⟨i, rfl, h.1, h.2⟩
  | _ => cases h
theorem zipL_cons (x y : D) (a b : List D) : zipL (x :: a) (y :: b) = .tup [x, y] :: zipL a b := rfl
/-- all([one < other for one, other in zip(l, l[1:])]) over whole numbers -/
theorem asc_zip {Φ : Nat → List D → Mem → Rs D} {δ : Env} {M : Mem} : ∀ (l : List D), (∀ d ∈ l, isFrom d 0 2 = true) →
    ((zipL l (l.drop 1)).all fun d => match d with | .tup [.int a, .int b] => decide (a < b) | _ => true) = ascB l
  | [], _ => rfl
  | [x], h => by
    obtain ⟨i, rfl, _⟩ := isFrom_int (h x (by simp))
    rfl
  | x :: y :: r, h => by
    obtain ⟨i, rfl, _⟩ := isFrom_int (h x (by simp))
    obtain ⟨j, rfl, _⟩ := isFrom_int (h y (by simp))
    have ih := asc_zip (Φ := Φ) (δ := δ) (M := M) (.int j :: r) fun d hd => h d (List.mem_cons_of_mem _ hd)
    show (decide (i < j) && (zipL (.int j :: r) r).all _) = _
    rw [show (zipL (.int j :: r) r) = zipL (.int j :: r) ((D.int j :: r).drop 1) from rfl, ih]
    rfl
theorem pl_of {m n : Nat} {l : List D} (h : goodL m n l = true) {d : D} (hd : d ∈ l) : Pl d = true := good_Pl (goodL_iff.mp h d hd)
theorem good_tup {m n : Nat} {l : List D} (h : good m n (.tup l) = true) : ∃ n', n = n' + 1 ∧ l.length ≤ m ∧ goodL m n' l = true := by
  cases n with
  | zero => cases h
  | succ n =>
    unfold good at h
    simp only [Bool.and_eq_true, decide_eq_true_eq] at h
    exact ⟨n, rfl, h.1, h.2⟩
theorem isTup_of {v : D} {lo hi : Nat} (h : isTup v lo hi = true) : ∃ l, v = .tup l ∧ lo ≤ l.length ∧ l.length ≤ hi := by
  cases v with
  | tup l =>
    unfold isTup at h
    simp only [Bool.and_eq_true, decide_eq_true_eq] at h
    exact ⟨l, rfl, h.1, h.2⟩
  | _ => cases h
theorem isNon_is (M : Mem) (v : D) : cmp2 M .is_ v .non = some v.isNon := by cases v <;> rfl
section
variable {Φ : Nat → List D → Mem → Rs D} {δ : Env} {M : Mem}
theorem e_isnon {e : T} {v : D} (h : ev Φ e δ M = .ok v M) : ev Φ (.cmp .is_ e (.con .non)) δ M = .ok (.bl v.isNon) M := e_cmp h e_con (isNon_is M v)
/-- all([f(x) for x in l]) -/
theorem e_all {i : Nat} {e : T} {c : T} {own : List Nat} {d : D} {l : List D} {g : D → Bool} (h : ev Φ e δ M = .ok d M) (h2 : seqs d = some l) (hl : l.length ≤ 100000)
    (h3 : ∀ x ∈ l, ev Φ c ((wipeD δ own).set i (some x)) M = .ok (.bl (g x)) M) : ev Φ (.b .all (.cons (.lc (.nm i) (.seq e) (.con (.bl true)) c own) .nil)) δ M = .ok (.bl (l.all g)) M :=
  e_b (es_cons (ev_lc1 (fun x => .bl (g x)) (i_seq h h2) hl fun x hx => ⟨_, rfl, h3 x hx⟩) es_nil) (all_map g l M)
end
theorem is_stand_spec (k : Nat) {m n : Nat} (v : D) (M : Mem) (hv : good m n v = true) : callF FDS (k + 3) j_is_stand [v] M = .ok (.bl (standB v)) M := by
  have hp := good_Pl hv
  rw [callF_at fds_is_stand rfl]
  have t1 := is_tuple_spec (k + 1) v 6 6 M hp
  show fin M.length (exs _ B_is_stand ([some v] ++ List.replicate 9 none) M) = _
  unfold B_is_stand
  refine fin_step (s_ite_ret (e_not (e_call (es_cons (e_var rfl) (es_cons e_con (es_cons e_con es_nil))) t1))) ?_
  by_cases h6 : isTup v 6 6 = true
  · rw [h6, if_neg (by decide)]
    obtain ⟨l, rfl, a1, a2⟩ := isTup_of h6
    match l, a1, a2 with
    | [dep, cup, chip, takes, needs, ref], _, _ =>
      obtain ⟨n', rfl, _, hg⟩ := good_tup hv
      have p1 : Pl dep = true := pl_of hg (by simp)
      have p2 : Pl cup = true := pl_of hg (by simp)
      have p3 : Pl chip = true := pl_of hg (by simp)
      have p4 : Pl takes = true := pl_of hg (by simp)
      have p5 : Pl needs = true := pl_of hg (by simp)
      have p6 : Pl ref = true := pl_of hg (by simp)
      have g4 : good m n' takes = true := goodL_iff.mp hg takes (by simp)
      refine fin_step (s_asg (e_var rfl) rfl) ?_
      refine fin_step (s_ite_ret (e_or (e_not (e_call (es_cons (e_var rfl) (es_cons e_con (es_cons e_con es_nil))) (is_from_spec (k + 1) dep 0 9 M p1)))
        fun _ => e_or (e_not (e_call (es_cons (e_var rfl) (es_cons e_con (es_cons e_con es_nil))) (is_from_spec (k + 1) ref 0 9 M p6)))
          fun _ => e_not (e_call (es_cons (e_var rfl) es_nil) (is_sort_spec k cup M p2)))) ?_
      have es : standB (.tup [dep, cup, chip, takes, needs, ref]) = (isFrom dep 0 9 && isFrom ref 0 9 && isFrom cup 0 2 && (chip.isNon || isFrom chip 0 2) && (needs.isNon || isFrom needs 0 2) && takesB takes) := rfl
      rw [es]
      by_cases hb : (!isFrom dep 0 9 || (!isFrom ref 0 9 || !isFrom cup 0 2)) = true
      · rw [if_pos hb]
        simp only [fin_ret_same]
        revert hb
        cases isFrom dep 0 9 <;> cases isFrom ref 0 9 <;> cases isFrom cup 0 2 <;> intro hb <;> first | rfl | exact absurd hb (by decide)
      rw [if_neg hb]
      have hb' : (isFrom dep 0 9 && isFrom ref 0 9 && isFrom cup 0 2) = true := by
        cases q1 : isFrom dep 0 9 <;> cases q2 : isFrom ref 0 9 <;> cases q3 : isFrom cup 0 2 <;> first | rfl | (rw [q1, q2, q3] at hb; exact absurd rfl hb)
      rw [hb', Bool.true_and]
      refine fin_step (s_ite_ret (e_or (e_not (e_or (e_isnon (e_var rfl)) fun _ => e_call (es_cons (e_var rfl) es_nil) (is_sort_spec k chip M p3)))
        fun _ => e_not (e_or (e_isnon (e_var rfl)) fun _ => e_call (es_cons (e_var rfl) es_nil) (is_sort_spec k needs M p5)))) ?_
      generalize hx : (chip.isNon || isFrom chip 0 2) = x
      generalize hy : (needs.isNon || isFrom needs 0 2) = y
      by_cases hxy : (!x || !y) = true
      · rw [if_pos hxy]
        simp only [fin_ret_same]
        revert hxy
        cases x <;> cases y <;> intro hxy <;> first | rfl | exact absurd hxy (by decide)
      rw [if_neg hxy]
      have hxy' : (x && y) = true := by cases x <;> cases y <;> first | rfl | exact absurd rfl hxy
      rw [hxy', Bool.true_and]
      have t3 := is_tuple_spec (k + 1) takes 0 3 M p4
      by_cases ht : isTup takes 0 3 = true
      · obtain ⟨l, rfl, _, c2⟩ := isTup_of ht
        obtain ⟨n'', rfl, _, hg4⟩ := good_tup g4
        refine fin_step (s_ite_ret (e_or (e_not (e_call (es_cons (e_var rfl) (es_cons e_con (es_cons e_con es_nil))) t3)) fun _ => e_not (e_all (g := fun d => isFrom d 0 2) (e_var rfl) rfl (by omega) fun x hx => e_call (es_cons (e_var rfl) es_nil) (is_sort_spec k x M (pl_of hg4 hx))))) ?_
        rw [ht]
        show fin M.length (if (!(l.all fun d => isFrom d 0 2)) = true then _ else _) = .ok (.bl (decide (l.length ≤ 3) && l.all (fun d => isFrom d 0 2) && ascB l)) M
        rw [decide_eq_true c2, Bool.true_and]
        by_cases ha : (l.all fun d => isFrom d 0 2) = true
        · rw [ha, if_neg (by decide), Bool.true_and]
          have hal : ∀ d ∈ l, isFrom d 0 2 = true := List.all_eq_true.mp ha
          have hz : ∀ d ∈ zipL l (l.drop 1), ∃ a b : Int, d = .tup [.int a, .int b] := fun d hd => by
            obtain ⟨i, hi⟩ := List.getElem?_of_mem hd
            have : ∃ x y, l[i]? = some x ∧ (l.drop 1)[i]? = some y ∧ d = .tup [x, y] := by
              unfold zipL at hi
              rw [List.getElem?_zipWith] at hi
              cases h1 : l[i]? with
              | none => rw [h1] at hi; cases hi
              | some x =>
                cases h2 : (l.drop 1)[i]? with
                | none => rw [h1, h2] at hi; cases hi
                | some y => rw [h1, h2] at hi; cases hi; exact ⟨x, y, rfl, rfl, rfl⟩
            obtain ⟨x, y, h1, h2, rfl⟩ := this
            obtain ⟨a, rfl, _⟩ := isFrom_int (hal x (List.mem_of_getElem? h1))
            obtain ⟨b, rfl, _⟩ := isFrom_int (hal y (List.mem_of_mem_drop (List.mem_of_getElem? h2)))
            exact ⟨a, b, rfl⟩
          have hlc := ev_lc1 (Φ := callF FDS (k + 2)) (p := .tup (.cons (.nm 7) (.cons (.nm 8) .nil))) (it := .zip (.var 4) (.slc (.var 4) (.yes (.con (.int 1))) .no)) (e := .cmp .lt (.var 7) (.var 8)) (own := [7, 8]) (M := M)
            (δ := ((((((([some (.tup [dep, cup, chip, .tup l, needs, ref])] ++ List.replicate 9 none : Env).set 1 (some dep)).set 2 (some cup)).set 3 (some chip)).set 4 (some (.tup l))).set 5 (some needs)).set 6 (some ref)))
            (fun d => D.bl (match d with | .tup [.int a, .int b] => decide (a < b) | _ => true)) (ds := zipL l (l.drop 1)) (i_zip (e_var rfl) (e_slc (e_var rfl) (o_yes e_con) o_no rfl) (by rw [cut1]; rfl)) (by unfold zipL; simp; omega) fun d hd => by
              obtain ⟨a, b, rfl⟩ := hz d hd
              exact ⟨_, rfl, e_cmp (e_var rfl) (e_var rfl) rfl⟩
          refine fin_step (s_ret (e_b (es_cons hlc es_nil) (all_map _ _ M))) ?_
          rw [fin_ret_same, asc_zip (Φ := callF FDS 0) (δ := []) (M := M) l hal]
        · rw [Bool.not_eq_true] at ha
          rw [ha, if_pos (by decide)]
          simp only [fin_ret_same, Bool.false_and]
      · rw [Bool.not_eq_true] at ht
        refine fin_step (s_ite_ret (e_or (y := false) (e_not (e_call (es_cons (e_var rfl) (es_cons e_con (es_cons e_con es_nil))) t3)) fun h => by rw [ht] at h; cases h)) ?_
        rw [ht, if_pos (by decide)]
        simp only [fin_ret_same]
        have : takesB takes = false := by
          cases takes with
          | tup l =>
            have ht : (decide (0 ≤ l.length) && decide (l.length ≤ 3)) = false := ht
            have c : ¬ l.length ≤ 3 := by
              intro c
              rw [decide_eq_true c] at ht
              simp at ht
            show (decide (l.length ≤ 3) && _ && _) = false
            rw [decide_eq_false c]; rfl
          | _ => rfl
        rw [this]
  · rw [Bool.not_eq_true] at h6
    rw [h6, if_pos (by decide)]
    simp only [fin_ret_same]
    have : standB v = false := by
      unfold standB
      split
      · exact absurd h6 (by simp [isTup])
      · rfl
    rw [this]
end CB
end
section
set_option maxHeartbeats 1000000
/-! P04: shops, fairs, things, lots. -/
namespace CB
open PySem
def wordB (v : D) : Bool := match v with
  | .str x => x == ("chip" : Str) || x == ("cup" : Str)
  | _ => false
def shopB (v : D) : Bool := match v with
  | .tup [w, s, p] => wordB w && isFrom s 0 2 && isFrom p 0 9
  | _ => false
theorem in2_tup (M : Mem) (a : D) (ys : List D) : in2 M a (.tup ys) = (match pdM M a, pdM M (.tup ys) with | some x, some (.tuple l) => some (l.any fun z => PyData.eqv z x) | _, _ => none) := by cases a <;> rfl
theorem in2_lst (M : Mem) (a : D) (ys : List D) : in2 M a (.lst ys) = (match pdM M a, pdM M (.lst ys) with | some x, some (.list l) => some (l.any fun z => PyData.eqv z x) | _, _ => none) := by cases a <;> rfl
theorem words_in (M : Mem) (x : Str) (h : PyData.strOk x = true) : in2 M (.str x) (.tup [.str "chip", .str "cup"]) = some (wordB (.str x)) := by
  have h1 : pdM M (.str x) = some (.str x) := by
    obtain ⟨p, a, b⟩ := good_pdM (m := 0) (n := 0) (d := .str x) M (by unfold good; exact h) (by omega)
    cases a
    exact b
  have h2 : pdM M (.tup [.str "chip", .str "cup"]) = some (.tuple [.str "chip", .str "cup"]) := by
    obtain ⟨p, a, b⟩ := good_pdM (m := 2) (n := 1) (d := .tup [.str "chip", .str "cup"]) M (by decide +kernel) (by omega)
    have : p = .tuple [.str "chip", .str "cup"] := by
      have e : D.pd (.tup [.str "chip", .str "cup"]) = some (.tuple [.str "chip", .str "cup"]) := by simp [D.pd, pdL]
      rw [e] at a; exact (Option.some.inj a).symm
    rw [← this]; exact b
  rw [in2_tup, h1, h2]
  show some ((("chip" : Str) == x) || ((("cup" : Str) == x) || false)) = some (x == ("chip" : Str) || x == ("cup" : Str))
  rw [Bool.or_false, Bool.beq_comm (a := ("chip" : Str)), Bool.beq_comm (a := ("cup" : Str))]
theorem e_ix0 {Φ : Nat → List D → Mem → Rs D} {δ : Env} {M : Mem} {e : T} {i : Int} {l : List D} {d : D} (h : ev Φ e δ M = .ok (.tup l) M) (h2 : atL l i = some d) : ev Φ (.op2 .ix e (.con (.int i))) δ M = .ok d M := e_op2 h e_con h2
def isStr : D → Bool
  | .str _ => true
  | _ => false
theorem isStr_of (M : Mem) {v : D} (hv : Pl v = true) : isOf M .str v = some (isStr v) := by
  cases v <;> first | rfl | cases hv
theorem is_shop_spec (k : Nat) {m n : Nat} (v : D) (M : Mem) (hv : good m n v = true) : callF FDS (k + 3) j_is_shop [v] M = .ok (.bl (shopB v)) M := by
  have hp := good_Pl hv
  rw [callF_at fds_is_shop rfl]
  have t1 := is_tuple_spec (k + 1) v 3 3 M hp
  show fin M.length (exs _ B_is_shop ([some v] ++ List.replicate 0 none) M) = _
  unfold B_is_shop
  by_cases h3 : isTup v 3 3 = true
  · obtain ⟨l, rfl, a1, a2⟩ := isTup_of h3
    match l, a1, a2 with
    | [w, s, p], _, _ =>
      obtain ⟨n', rfl, _, hg⟩ := good_tup hv
      have p1 : Pl w = true := pl_of hg (by simp)
      have p2 : Pl s = true := pl_of hg (by simp)
      have p3 : Pl p = true := pl_of hg (by simp)
      have gw : good m n' w = true := goodL_iff.mp hg w (by simp)
      have hw : cmp2 M .notin w (.tup [.str "chip", .str "cup"]) = some (!wordB w) ∨ isStr w = false := by
        cases w with
        | str x =>
          left
          show (in2 M _ _).map _ = _
          rw [words_in M x (by unfold good at gw; exact gw)]; rfl
        | _ => exact .inr rfl
      have hb : (!isStr w || !wordB w) = !wordB w := by
        cases w <;> rfl
      refine fin_step (s_ite_ret (b := !wordB w) (by
        rw [← hb]
        refine e_or (x := false) (e_not (e_call (es_cons (e_var rfl) (es_cons e_con (es_cons e_con es_nil))) t1)) fun _ => ?_
        refine e_or (e_not (e_isi (e_ix0 (e_var rfl) rfl) (isStr_of M p1))) fun hq => e_cmp (e_ix0 (e_var rfl) rfl) e_con ?_
        rcases hw with hw | hw
        · exact hw
        · rw [hw] at hq; cases hq)) ?_
      show fin M.length (if (!wordB w) = true then _ else _) = .ok (.bl (wordB w && isFrom s 0 2 && isFrom p 0 9)) M
      by_cases hx : wordB w = true
      · rw [hx, if_neg (by decide)]
        refine fin_step (s_ret (e_and (e_call (es_cons (e_ix0 (e_var rfl) rfl) es_nil) (is_sort_spec k s M p2)) fun _ => e_call (es_cons (e_ix0 (e_var rfl) rfl) (es_cons e_con (es_cons e_con es_nil))) (is_from_spec (k + 1) p 0 9 M p3))) ?_
        rw [fin_ret_same, Bool.true_and]
      · rw [Bool.not_eq_true] at hx
        rw [hx, if_pos (by decide)]
        rw [fin_ret_same]; rfl
  · rw [Bool.not_eq_true] at h3
    rw [h3] at t1
    refine fin_step (s_ite_ret (b := true) (e_or (x := true) (y := true) (e_not (e_call (es_cons (e_var rfl) (es_cons e_con (es_cons e_con es_nil))) t1)) fun h => by cases h)) ?_
    rw [if_pos rfl, fin_ret_same]
    have : shopB v = false := by
      unfold shopB
      split
      · exact absurd h3 (by simp [isTup])
      · rfl
    rw [this]
end CB
end
section
set_option maxHeartbeats 1000000
/-! P05: fairs, things, lots. -/
namespace CB
open PySem
def tupAll (v : D) (lo hi : Nat) (f : D → Bool) : Bool := match v with
  | .tup l => decide (lo ≤ l.length) && decide (l.length ≤ hi) && l.all f
  | _ => false
def fairB (v : D) : Bool := match v with
  | .tup [a, b] => tupAll a 1 4 standB && tupAll b 0 3 shopB
  | _ => false
theorem tupAll_not {v : D} {lo hi : Nat} {f : D → Bool} (h : isTup v lo hi = false) : tupAll v lo hi f = false := by
  cases v with
  | tup l =>
    show (decide (lo ≤ l.length) && decide (l.length ≤ hi) && l.all f) = false
    have h : (decide (lo ≤ l.length) && decide (l.length ≤ hi)) = false := h
    rw [h]; rfl
  | _ => rfl
theorem tupAll_yes {l : List D} {lo hi : Nat} {f : D → Bool} (h : isTup (.tup l) lo hi = true) : tupAll (.tup l) lo hi f = l.all f := by
  show (decide (lo ≤ l.length) && decide (l.length ≤ hi) && l.all f) = _
  have h : (decide (lo ≤ l.length) && decide (l.length ≤ hi)) = true := h
  rw [h]; rfl
theorem is_fair_spec (k : Nat) {m n : Nat} (v : D) (M : Mem) (hv : good m n v = true) : callF FDS (k + 4) j_is_fair [v] M = .ok (.bl (fairB v)) M := by
  have hp := good_Pl hv
  rw [callF_at fds_is_fair rfl]
  have t1 := is_tuple_spec (k + 2) v 2 2 M hp
  show fin M.length (exs _ B_is_fair ([some v] ++ List.replicate 2 none) M) = _
  unfold B_is_fair
  by_cases h2 : isTup v 2 2 = true
  · obtain ⟨l, rfl, a1, a2⟩ := isTup_of h2
    match l, a1, a2 with
    | [a, b], _, _ =>
      obtain ⟨n', rfl, _, hg⟩ := good_tup hv
      have p1 : Pl a = true := pl_of hg (by simp)
      have p2 : Pl b = true := pl_of hg (by simp)
      have g1 : good m n' a = true := goodL_iff.mp hg a (by simp)
      have g2 : good m n' b = true := goodL_iff.mp hg b (by simp)
      have q1 := is_tuple_spec (k + 2) a 1 4 M p1
      have q2 := is_tuple_spec (k + 2) b 0 3 M p2
      refine fin_step (s_ite_ret (e_or (e_not (e_call (es_cons (e_var rfl) (es_cons e_con (es_cons e_con es_nil))) t1)) fun _ =>
        e_or (e_not (e_call (es_cons (e_ix0 (e_var rfl) rfl) (es_cons e_con (es_cons e_con es_nil))) q1)) fun _ => e_not (e_call (es_cons (e_ix0 (e_var rfl) rfl) (es_cons e_con (es_cons e_con es_nil))) q2))) ?_
      show fin M.length (if (!isTup (.tup [a, b]) 2 2 || (!isTup a 1 4 || !isTup b 0 3)) = true then _ else _) = .ok (.bl (tupAll a 1 4 standB && tupAll b 0 3 shopB)) M
      rw [h2]
      by_cases ha : isTup a 1 4 = true
      · by_cases hb : isTup b 0 3 = true
        · rw [ha, hb, if_neg (by decide)]
          obtain ⟨la, rfl, c1, c2⟩ := isTup_of ha
          obtain ⟨lb, rfl, c3, c4⟩ := isTup_of hb
          obtain ⟨n1, rfl, _, ga⟩ := good_tup g1
          obtain ⟨n2, e2, _, gb⟩ := good_tup g2
          refine fin_step (s_ret (e_and (e_all (g := standB) (e_ix0 (e_var rfl) rfl) rfl (by omega) fun x hx => e_call (es_cons (e_var rfl) es_nil) (is_stand_spec k x M (goodL_iff.mp ga x hx)))
            fun _ => e_all (g := shopB) (e_ix0 (e_var rfl) rfl) rfl (by omega) fun x hx => e_call (es_cons (e_var rfl) es_nil) (is_shop_spec k x M (goodL_iff.mp gb x hx)))) ?_
          rw [fin_ret_same, tupAll_yes ha, tupAll_yes hb]
        · rw [Bool.not_eq_true] at hb
          rw [ha, hb, if_pos (by decide), fin_ret_same, tupAll_not hb, Bool.and_false]
      · rw [Bool.not_eq_true] at ha
        rw [ha, tupAll_not ha, if_pos (by cases isTup b 0 3 <;> decide), fin_ret_same, Bool.false_and]
  · rw [Bool.not_eq_true] at h2
    rw [h2] at t1
    refine fin_step (s_ite_ret (b := true) (e_or (x := true) (y := true) (e_not (e_call (es_cons (e_var rfl) (es_cons e_con (es_cons e_con es_nil))) t1)) fun h => by cases h)) ?_
    rw [if_pos rfl, fin_ret_same]
    have : fairB v = false := by
      unfold fairB
      split
      · exact absurd h2 (by simp [isTup])
      · rfl
    rw [this]
theorem need_fair_spec (k : Nat) {m n : Nat} (v : D) (M : Mem) (hv : good m n v = true) (hf : fairB v = true) : callF FDS (k + 5) j_need_fair [v] M = .ok .non M := by
  rw [callF_at fds_need_fair rfl]
  have t1 := is_fair_spec k v M hv
  rw [hf] at t1
  show fin M.length (exs _ B_need_fair ([some v] ++ List.replicate 0 none) M) = _
  unfold B_need_fair
  refine fin_step (s_ite (t := false) (e_not (x := true) (e_call (es_cons (e_var rfl) es_nil) t1))) ?_
  simp [exs]
def thingB (v : D) : Bool := match v with
  | .tup [w, s] => wordB w && isFrom s 0 2
  | _ => false
theorem is_thing_spec (k : Nat) {m n : Nat} (v : D) (M : Mem) (hv : good m n v = true) : callF FDS (k + 3) j_is_thing [v] M = .ok (.bl (thingB v)) M := by
  have hp := good_Pl hv
  rw [callF_at fds_is_thing rfl]
  have t1 := is_tuple_spec (k + 1) v 2 2 M hp
  show fin M.length (exs _ B_is_thing ([some v] ++ List.replicate 0 none) M) = _
  unfold B_is_thing
  by_cases h2 : isTup v 2 2 = true
  · obtain ⟨l, rfl, a1, a2⟩ := isTup_of h2
    match l, a1, a2 with
    | [w, s], _, _ =>
      obtain ⟨n', rfl, _, hg⟩ := good_tup hv
      have p1 : Pl w = true := pl_of hg (by simp)
      have p2 : Pl s = true := pl_of hg (by simp)
      have gw : good m n' w = true := goodL_iff.mp hg w (by simp)
      refine fin_step (s_ret (e_and (y := wordB w && isFrom s 0 2) (e_call (es_cons (e_var rfl) (es_cons e_con (es_cons e_con es_nil))) t1) fun _ => ?_)) ?_
      · have hb : (isStr w && (wordB w && isFrom s 0 2)) = (wordB w && isFrom s 0 2) := by cases w <;> rfl
        rw [← hb]
        refine e_and (e_isi (e_ix0 (e_var rfl) rfl) (isStr_of M p1)) fun hq => ?_
        refine e_and (e_cmp (e_ix0 (e_var rfl) rfl) e_con ?_) fun _ => e_call (es_cons (e_ix0 (e_var rfl) rfl) es_nil) (is_sort_spec k s M p2)
        cases w with
        | str x => exact words_in M x (by unfold good at gw; exact gw)
        | _ => cases hq
      · rw [h2, fin_ret_same]; rfl
  · rw [Bool.not_eq_true] at h2
    rw [h2] at t1
    refine fin_step (s_ret (e_and (y := true) (e_call (es_cons (e_var rfl) (es_cons e_con (es_cons e_con es_nil))) t1) fun h => by cases h)) ?_
    rw [fin_ret_same]
    have : thingB v = false := by
      unfold thingB
      split
      · exact absurd h2 (by simp [isTup])
      · rfl
    rw [this]; rfl
/-- things in order: at most two -/
def thLe (a b : D) : Bool := match a, b with
  | .tup [.str x, .int i], .tup [.str y, .int j] => if x == y then decide (i ≤ j) else !decide (y.cps.toList < x.cps.toList)
  | _, _ => false
def lotB (v : D) : Bool := match v with
  | .tup [] => true
  | .tup [a] => thingB a
  | .tup [a, b] => thingB a && thingB b && thLe a b
  | _ => false
theorem wordB_str {w : D} (h : wordB w = true) : w = .str "chip" ∨ w = .str "cup" := by
  cases w with
  | str x =>
    have h : (x == ("chip" : Str) || x == ("cup" : Str)) = true := h
    rw [Bool.or_eq_true, beq_iff_eq, beq_iff_eq] at h
    rcases h with rfl | rfl
    · exact .inl rfl
    · exact .inr rfl
  | _ => cases h
theorem thingB_of {v : D} (h : thingB v = true) : ∃ w i, v = .tup [.str w, .int i] ∧ (w = "chip" ∨ w = "cup") ∧ 0 ≤ i ∧ i ≤ 2 := by
  unfold thingB at h
  split at h
  · rename_i w s
    rw [Bool.and_eq_true] at h
    obtain ⟨i, rfl, h1, h2⟩ := isFrom_int h.2
    rcases wordB_str h.1 with rfl | rfl
    · exact ⟨_, i, rfl, .inl rfl, h1, h2⟩
    · exact ⟨_, i, rfl, .inr rfl, h1, h2⟩
  · cases h
theorem eq2_str (a b : Str) (ha : PyData.strOk a = true) (hb : PyData.strOk b = true) : eq2 [] (.str a) (.str b) = some (a == b) := by
  obtain ⟨p, h1, h2⟩ := good_pdM (m := 0) (n := 0) (d := .str a) [] (by unfold good; exact ha) (by omega)
  obtain ⟨q, h3, h4⟩ := good_pdM (m := 0) (n := 0) (d := .str b) [] (by unfold good; exact hb) (by omega)
  unfold eq2
  rw [h2, h4]
  cases h1; cases h3
  rfl
theorem le_thing {w w' : Str} {i j : Int} (hw : w = "chip" ∨ w = "cup") (hw' : w' = "chip" ∨ w' = "cup") : leD (.tup [.str w, .int i]) (.tup [.str w', .int j]) = some (thLe (.tup [.str w, .int i]) (.tup [.str w', .int j])) := by
  have o1 : PyData.strOk "chip" = true := by decide +kernel
  have o2 : PyData.strOk "cup" = true := by decide +kernel
  have h1 : PyData.strOk w = true := by rcases hw with rfl | rfl <;> assumption
  have h2 : PyData.strOk w' = true := by rcases hw' with rfl | rfl <;> assumption
  have e1 := eq2_str w w' h1 h2
  have e2 : eq2 [] (.int i) (.int j) = some (i == j) := rfl
  show leL (leN 5) [.str w, .int i] [.str w', .int j] = _
  simp only [leL, e1, e2]
  have f1 : leN 5 (.str w) (.str w') = some (!decide (w'.cps.toList < w.cps.toList)) := rfl
  have f2 : leN 5 (.int i) (.int j) = some (decide (i ≤ j)) := rfl
  rw [f1, f2]
  show _ = some (if (w == w') = true then decide (i ≤ j) else (!decide (w'.cps.toList < w.cps.toList)))
  generalize (w == w') = b
  generalize (!decide (w'.cps.toList < w.cps.toList)) = c
  by_cases hij : i = j
  · subst hij
    cases b <;> simp
  · have : (i == j) = false := by simp [hij]
    rw [this]
    cases b <;> simp
end CB
end
section
set_option maxHeartbeats 1000000
/-! P06: lots. -/
namespace CB
open PySem
theorem lotB_not {v : D} (h : isTup v 0 2 = false) : lotB v = false := by
  unfold lotB
  split
  · exact absurd h (by simp [isTup])
  · exact absurd h (by simp [isTup])
  · exact absurd h (by simp [isTup])
  · rfl
theorem lotB_all {l : List D} (hl : l.length ≤ 2) (h : l.all thingB = false) : lotB (.tup l) = false := by
  match l, hl with
  | [], _ => cases h
  | [a], _ =>
    have h : (thingB a && true) = false := h
    rw [Bool.and_true] at h
    exact h
  | [a, b], _ =>
    have h : (thingB a && (thingB b && true)) = false := h
    show (thingB a && thingB b && thLe a b) = false
    rw [Bool.and_true] at h
    rw [h]; rfl
theorem has_lot_spec (k : Nat) {m n : Nat} (v : D) (M : Mem) (hv : good m n v = true) : callF FDS (k + 4) j_has_lot [v] M = .ok (.bl (lotB v)) M := by
  have hp := good_Pl hv
  rw [callF_at fds_has_lot rfl]
  have t1 := is_tuple_spec (k + 2) v 0 2 M hp
  show fin M.length (exs _ B_has_lot ([some v] ++ List.replicate 3 none) M) = _
  unfold B_has_lot
  by_cases h2 : isTup v 0 2 = true
  · obtain ⟨l, rfl, _, a2⟩ := isTup_of h2
    obtain ⟨n', rfl, _, hg⟩ := good_tup hv
    refine fin_step (s_ite_ret (e_or (e_not (e_call (es_cons (e_var rfl) (es_cons e_con (es_cons e_con es_nil))) t1)) fun _ =>
      e_not (e_all (g := thingB) (e_var rfl) rfl (by omega) fun x hx => e_call (es_cons (e_var rfl) es_nil) (is_thing_spec k x M (goodL_iff.mp hg x hx))))) ?_
    rw [h2]
    by_cases ha : l.all thingB = true
    · rw [ha, if_neg (by decide)]
      have hs : ∀ (ds : List D) (g : D → Bool), zipL l (cutD l (some 1) none) = ds → (∀ d ∈ ds, ∃ a b, d = .tup [a, b] ∧ leD a b = some (g d)) → ds.length ≤ 10 →
          fin M.length (exs (callF FDS (k + 3)) (.cons (.ret (.b .all (.cons (.lc (.tup (.cons (.nm 1) (.cons (.nm 2) .nil))) (.zip (.var 0) (.slc (.var 0) (.yes (.con (.int 1))) .no)) (.con (.bl true)) (.cmp .le (.var 1) (.var 2)) [1, 2]) .nil))) .nil) ([some (.tup l)] ++ List.replicate 3 none) M) = .ok (.bl (ds.all g)) M := fun ds g hz hd hl => by
        have hlc := ev_lc1 (Φ := callF FDS (k + 3)) (p := .tup (.cons (.nm 1) (.cons (.nm 2) .nil))) (it := .zip (.var 0) (.slc (.var 0) (.yes (.con (.int 1))) .no)) (e := .cmp .le (.var 1) (.var 2)) (own := [1, 2]) (M := M) (δ := [some (.tup l)] ++ List.replicate 3 none)
          (fun d => D.bl (g d)) (ds := ds) (i_zip (e_var rfl) (e_slc (e_var rfl) (o_yes e_con) o_no rfl) (by rw [← hz]; rfl)) (by omega) fun d hdm => by
            obtain ⟨a, b, rfl, h⟩ := hd d hdm
            exact ⟨_, rfl, e_cmp (e_var rfl) (e_var rfl) h⟩
        refine fin_step (s_ret (e_b (es_cons hlc es_nil) (all_map _ _ M))) ?_
        rw [fin_ret_same]
      rw [cut1] at hs
      match l, a2 with
      | [], _ => exact hs [] (fun _ => true) rfl (by simp) (by simp)
      | [a], _ =>
        have ha : (thingB a && true) = true := ha
        rw [Bool.and_true] at ha
        rw [show lotB (.tup [a]) = true from ha]
        exact hs [] (fun _ => true) rfl (by simp) (by simp)
      | [a, b], _ =>
        have ha : (thingB a && (thingB b && true)) = true := ha
        simp only [Bool.and_true, Bool.and_eq_true] at ha
        have e : lotB (.tup [a, b]) = thLe a b := by
          show (thingB a && thingB b && thLe a b) = _
          rw [ha.1, ha.2]; rfl
        rw [e]
        obtain ⟨w, i, rfl, hw, _⟩ := thingB_of ha.1
        obtain ⟨w', j, rfl, hw', _⟩ := thingB_of ha.2
        have := hs [.tup [.tup [.str w, .int i], .tup [.str w', .int j]]] (fun _ => thLe (.tup [.str w, .int i]) (.tup [.str w', .int j])) rfl (fun d hd => by
          simp only [List.mem_cons, List.not_mem_nil, or_false] at hd
          subst hd
          exact ⟨_, _, rfl, le_thing hw hw'⟩) (by simp)
        rw [this]
        simp
    · rw [Bool.not_eq_true] at ha
      rw [ha, if_pos (by decide), fin_ret_same, lotB_all a2 ha]
  · rw [Bool.not_eq_true] at h2
    rw [h2] at t1
    refine fin_step (s_ite_ret (b := true) (e_or (x := true) (y := true) (e_not (e_call (es_cons (e_var rfl) (es_cons e_con (es_cons e_con es_nil))) t1)) fun h => by cases h)) ?_
    rw [if_pos rfl, fin_ret_same, lotB_not h2]
theorem is_lot_spec (k : Nat) {m n : Nat} (v : D) (M : Mem) (hv : good m n v = true) : callF FDS (k + 5) j_is_lot [v] M = .ok (.bl (lotB v)) M := by
  rw [callF_at fds_is_lot rfl]
  show fin M.length (exs _ B_is_lot ([some v] ++ List.replicate 0 none) M) = _
  unfold B_is_lot
  refine fin_step (s_ret (e_call (es_cons (e_var rfl) es_nil) (has_lot_spec k v M hv))) ?_
  rw [fin_ret_same]
end CB
end
section
set_option maxHeartbeats 1000000
/-! P07: the law's own checks of stands. -/
namespace CB
open PySem
theorem law_from_spec (k : Nat) (v : D) (lo hi : Int) (M : Mem) (hv : Pl v = true) : callF FDS (k + 1) j__law_from [v, .int lo, .int hi] M = .ok (.bl (isFrom v lo hi)) M := by
  rw [callF_at fds__law_from rfl]
  cases v with
  | int i =>
    simp [F__law_from, B__law_from, exs, ex, ev, getVar, isOf, cmp2, leD, leN, isFrom, Rs.test, Rs.run, List.replicate]
    by_cases h : lo ≤ i <;> simp [h]
  | non => simp [F__law_from, B__law_from, exs, ex, ev, getVar, isOf, cmp2, leD, leN, isFrom, Rs.test, Rs.run, List.replicate]
  | bl b => simp [F__law_from, B__law_from, exs, ex, ev, getVar, isOf, cmp2, leD, leN, isFrom, Rs.test, Rs.run, List.replicate]
  | str b => simp [F__law_from, B__law_from, exs, ex, ev, getVar, isOf, cmp2, leD, leN, isFrom, Rs.test, Rs.run, List.replicate]
  | tup b => simp [F__law_from, B__law_from, exs, ex, ev, getVar, isOf, cmp2, leD, leN, isFrom, Rs.test, Rs.run, List.replicate]
  | lst b => simp [F__law_from, B__law_from, exs, ex, ev, getVar, isOf, cmp2, leD, leN, isFrom, Rs.test, Rs.run, List.replicate]
  | _ => cases hv
theorem law_tuple_spec (k : Nat) (v : D) (lo hi : Nat) (M : Mem) (hv : Pl v = true) : callF FDS (k + 1) j__law_tuple [v, .int lo, .int hi] M = .ok (.bl (isTup v lo hi)) M := by
  rw [callF_at fds__law_tuple rfl]
  cases v with
  | tup l =>
    simp [F__law_tuple, B__law_tuple, exs, ex, ev, evs, getVar, isOf, cmp2, leD, leN, isTup, Rs.test, Rs.run, List.replicate, callB, lenD]
    by_cases h : lo ≤ l.length <;> simp [h]
  | non => simp [F__law_tuple, B__law_tuple, exs, ex, ev, getVar, isOf, cmp2, leD, leN, isTup, Rs.test, Rs.run, List.replicate]
  | bl b => simp [F__law_tuple, B__law_tuple, exs, ex, ev, getVar, isOf, cmp2, leD, leN, isTup, Rs.test, Rs.run, List.replicate]
  | str b => simp [F__law_tuple, B__law_tuple, exs, ex, ev, getVar, isOf, cmp2, leD, leN, isTup, Rs.test, Rs.run, List.replicate]
  | int b => simp [F__law_tuple, B__law_tuple, exs, ex, ev, getVar, isOf, cmp2, leD, leN, isTup, Rs.test, Rs.run, List.replicate]
  | lst b => simp [F__law_tuple, B__law_tuple, exs, ex, ev, getVar, isOf, cmp2, leD, leN, isTup, Rs.test, Rs.run, List.replicate]
  | _ => cases hv
/-! ### ascending whole numbers -/
theorem ascB_iff : ∀ ns : List Int, ascB (ns.map D.int) = true ↔ ns.Pairwise (· < ·)
  | [] => by simp [ascB]
  | [a] => by simp [ascB]
  | a :: b :: r => by
    have ih := ascB_iff (b :: r)
    show (decide (a < b) && ascB ((b :: r).map D.int)) = true ↔ _
    rw [Bool.and_eq_true, decide_eq_true_eq, ih]
    constructor
    · rintro ⟨h1, h2⟩
      refine List.pairwise_cons.mpr ⟨fun x hx => ?_, h2⟩
      rcases List.mem_cons.mp hx with e | e
      · rw [e]; exact h1
      · have := (List.pairwise_cons.mp h2).1 x e
        omega
    · intro h
      exact ⟨(List.pairwise_cons.mp h).1 b (by simp), (List.pairwise_cons.mp h).2⟩
theorem asc_len : ∀ (ns : List Int) (a b : Int), ns.Pairwise (· < ·) → (∀ x ∈ ns, a ≤ x ∧ x ≤ b) → a ≤ b + 1 → (ns.length : Int) ≤ b + 1 - a
  | [], a, b, _, _, h => by simp; omega
  | x :: r, a, b, hp, hb, h => by
    obtain ⟨h1, h2⟩ := List.pairwise_cons.mp hp
    have hx := hb x (by simp)
    have := asc_len r (x + 1) b h2 (fun y hy => ⟨by have := h1 y hy; omega, (hb y (List.mem_cons_of_mem _ hy)).2⟩) (by omega)
    rw [List.length_cons]
    omega
theorem setS_asc {ns : List Int} (h : ns.Pairwise (· < ·)) : setS ns = ns := asc_uniq (setS_spec ns).1 h (setS_spec ns).2
theorem takes_eq {ns : List Int} (h : ∀ x ∈ ns, 0 ≤ x ∧ x ≤ 2) : decide (ns = setS ns) = (decide ((ns.map D.int).length ≤ 3) && ascB (ns.map D.int)) := by
  by_cases hp : ns.Pairwise (· < ·)
  · have h1 := (ascB_iff ns).mpr hp
    have h2 := asc_len ns 0 2 hp h (by omega)
    have h3 : (ns.map D.int).length ≤ 3 := by rw [List.length_map]; omega
    rw [h1, decide_eq_true h3, setS_asc hp, decide_eq_true rfl]; rfl
  · have h1 : ascB (ns.map D.int) = false := by
      rw [← Bool.not_eq_true]
      exact fun q => hp ((ascB_iff ns).mp q)
    have h2 : ns ≠ setS ns := fun e => hp (by rw [e]; exact (setS_spec ns).1)
    rw [h1, decide_eq_false h2, Bool.and_false]
theorem pdL_ints : ∀ ns : List Int, pdL (ns.map D.int) = some (ns.map PyData.int)
  | [] => rfl
  | n :: r => by
    rw [List.map_cons]
    unfold pdL
    rw [pdL_ints r]; rfl
theorem eqvAll_ints : ∀ a b : List Int, PyData.eqvAll (a.map PyData.int) (b.map PyData.int) = decide (a = b)
  | [], [] => rfl
  | [], _ :: _ => by simp [PyData.eqvAll]
  | _ :: _, [] => by simp [PyData.eqvAll]
  | x :: a, y :: b => by
    rw [List.map_cons, List.map_cons]
    unfold PyData.eqvAll
    rw [eqvAll_ints a b]
    show ((x == y) && decide (a = b)) = _
    by_cases h : x = y <;> by_cases h2 : a = b <;> simp [h, h2]
theorem goodL_ints {m n : Nat} (ns : List Int) : goodL m n (ns.map D.int) = true := goodL_iff.mpr fun d hd => by
  obtain ⟨x, _, rfl⟩ := List.mem_map.mp hd
  unfold good; rfl
theorem eq2_ints (M : Mem) (a b : List Int) : eq2 M (.lst (a.map D.int)) (.lst (b.map D.int)) = some (decide (a = b)) := by
  have key : ∀ ns : List Int, pdM M (.lst (ns.map D.int)) = some (.list (ns.map PyData.int)) := fun ns => by
    obtain ⟨p, h1, h2⟩ := good_pdM (m := ns.length) (n := 1) (d := .lst (ns.map D.int)) M (by
      show (decide ((ns.map D.int).length ≤ ns.length) && goodL ns.length 0 (ns.map D.int)) = true
      rw [List.length_map, goodL_ints]
      simp) (by omega)
    have : p = .list (ns.map PyData.int) := by
      unfold D.pd at h1
      rw [pdL_ints] at h1
      exact (Option.some.inj h1).symm
    rw [← this]; exact h2
  unfold eq2
  rw [key a, key b]
  show some (PyData.eqvAll _ _) = _
  rw [eqvAll_ints]
theorem dInts_map : ∀ ns : List Int, dInts (ns.map D.int) = some ns
  | [] => rfl
  | n :: r => by
    rw [List.map_cons]
    unfold dInts
    rw [dInts_map r]; rfl
theorem ints_of_from {l : List D} (h : ∀ d ∈ l, isFrom d 0 2 = true) : ∃ ns : List Int, l = ns.map D.int ∧ ∀ x ∈ ns, 0 ≤ x ∧ x ≤ 2 := by
  induction l with
  | nil => exact ⟨[], rfl, by simp⟩
  | cons d r ih =>
    obtain ⟨i, rfl, h1, h2⟩ := isFrom_int (h d (by simp))
    obtain ⟨ns, rfl, hn⟩ := ih fun x hx => h x (List.mem_cons_of_mem _ hx)
    refine ⟨i :: ns, rfl, fun x hx => ?_⟩
    rcases List.mem_cons.mp hx with e | e
    · rw [e]; exact ⟨h1, h2⟩
    · exact hn x e
/-! ### [x for x in l if not f(x)] against [] -/
section
variable {Φ : Nat → List D → Mem → Rs D} {δ : Env} {M : Mem}
theorem e_bad {i : Nat} {e c : T} {own : List Nat} {d : D} {l : List D} {g : D → Bool} (h : ev Φ e δ M = .ok d M) (h2 : seqs d = some l) (hl : l.length ≤ 100000) (hi : getVar ((wipeD δ own).set i (some .non)) i = some .non)
    (h3 : ∀ x ∈ l, ev Φ c ((wipeD δ own).set i (some x)) M = .ok (.bl (!g x)) M) : ev Φ (.lc (.nm i) (.seq e) c (.var i) own) δ M = .ok (.lst (l.filter fun x => !g x)) M := by
  have hlen : i < (wipeD δ own).length := by
    by_cases q : i < (wipeD δ own).length
    · exact q
    · unfold getVar at hi
      rw [List.getElem?_eq_none (by simpa using q)] at hi; cases hi
  have := ev_lc (Φ := Φ) (p := .nm i) (it := .seq e) (c := c) (e := .var i) (own := own) (δ := δ) (M := M) (fun x => !g x) (fun x => x) (i_seq h h2) hl fun x hx => ⟨_, rfl, h3 x hx, fun _ => e_var (by unfold getVar; rw [List.getElem?_set_self hlen]; rfl)⟩
  rw [this, List.map_id']
theorem filter_isEmpty (l : List D) (g : D → Bool) : (l.filter fun x => !g x).isEmpty = l.all g := by
  induction l with
  | nil => rfl
  | cons x r ih =>
    rw [List.filter_cons, List.all_cons]
    cases h : g x with
    | true => simpa using ih
    | false => rfl
theorem goodL_filter {m n : Nat} {l : List D} (h : goodL m n l = true) (p : D → Bool) : goodL m n (l.filter p) = true := goodL_iff.mpr fun d hd => goodL_iff.mp h d (List.mem_filter.mp hd).1
/-- .. != [] -/
theorem e_anybad {m n : Nat} {e : T} {l : List D} {g : D → Bool} (h : ev Φ e δ M = .ok (.lst (l.filter fun x => !g x)) M) (hg : goodL m n l = true) (hn : n ≤ 60) : ev Φ (.cmp .ne e (.lst .nil)) δ M = .ok (.bl (!l.all g)) M :=
  e_cmp h (e_lst es_nil (by simp)) (by
    show (eq2 M _ (.lst [])).map (!·) = _
    rw [eq_nil M (goodL_filter hg _) hn, filter_isEmpty]; rfl)
theorem e_nobad {m n : Nat} {e : T} {l : List D} {g : D → Bool} (h : ev Φ e δ M = .ok (.lst (l.filter fun x => !g x)) M) (hg : goodL m n l = true) (hn : n ≤ 60) : ev Φ (.cmp .eq e (.lst .nil)) δ M = .ok (.bl (l.all g)) M :=
  e_cmp h (e_lst es_nil (by simp)) (by
    show eq2 M _ (.lst []) = _
    rw [eq_nil M (goodL_filter hg _) hn, filter_isEmpty])
end
end CB
end
section
set_option maxHeartbeats 1000000
/-! P08: the law's own checks. -/
namespace CB
open PySem
theorem isTuple_of (M : Mem) {v : D} (hv : Pl v = true) : isOf M .tuple v = some (match v with | .tup _ => true | _ => false) := by
  cases v <;> first | rfl | cases hv
def isTupD : D → Bool
  | .tup _ => true
  | _ => false
theorem isTupD_of (M : Mem) {v : D} (hv : Pl v = true) : isOf M .tuple v = some (isTupD v) := by
  cases v <;> first | rfl | cases hv
theorem isnot_non (M : Mem) (v : D) : cmp2 M .isnot v .non = some (!v.isNon) := by cases v <;> rfl
theorem takesB_tup {v : D} (h : isTupD v = false) : takesB v = false := by cases v <;> first | rfl | cases h
def forK (f : D → Env → Mem → Rf) (ds : List D) : Rf → Rf
  | .nx δ M => forGo f ds δ M
  | .ct δ M => forGo f ds δ M
  | r => r
theorem forK_nx {f : D → Env → Mem → Rf} {ds : List D} {δ : Env} {M : Mem} : forK f ds (.nx δ M) = forGo f ds δ M := rfl
theorem forGo_cons {f : D → Env → Mem → Rf} {d : D} {ds : List D} {δ : Env} {M : Mem} {r : Rf} (h : f d δ M = r) : forGo f (d :: ds) δ M = forK f ds r := by
  subst h
  conv => lhs; unfold forGo
  unfold forK
  cases f d δ M <;> rfl
/-- for part in [a, b]: if part is not None and not from(part): return False -/
theorem two_parts {k : Nat} {a b : D} {δ : Env} {M : Mem} (pa : Pl a = true) (pb : Pl b = true) (h1 : δ.length = 3) :
    ∃ δ', forGo (fun d δ M => match asgP (.nm 1) d δ with
      | some δ' => exs (callF FDS (k + 1)) (.cons (.ite (.and (.cmp .isnot (.var 1) (.con .non)) (.not (.call j__law_from (.cons (.var 1) (.cons (.con (.int 0)) (.cons (.con (.int 2)) .nil)))))) (.cons (.ret (.con (.bl false))) .nil) .nil) .nil) δ' M
      | none => .stuck) [a, b] δ M = (if (optB a && optB b) = true then .nx δ' M else .ret (.bl false) M) ∧ δ'[0]? = δ[0]? ∧ δ'.length = 3 := by
  refine ⟨(δ.set 1 (some a)).set 1 (some b), ?_, ?_, by simp [h1]⟩
  · have step : ∀ (x : D) (δ : Env), δ.length = 3 → Pl x = true → exs (callF FDS (k + 1)) (.cons (.ite (.and (.cmp .isnot (.var 1) (.con .non)) (.not (.call j__law_from (.cons (.var 1) (.cons (.con (.int 0)) (.cons (.con (.int 2)) .nil)))))) (.cons (.ret (.con (.bl false))) .nil) .nil) .nil) (δ.set 1 (some x)) M =
        (if optB x = true then .nx (δ.set 1 (some x)) M else .ret (.bl false) M) := fun x δ hl px => by
      have g : getVar (δ.set 1 (some x)) 1 = some x := by unfold getVar; rw [List.getElem?_set_self (by omega)]; rfl
      rw [s_ite_ret (e_and (e_cmp (e_var g) e_con (isnot_non M x)) fun _ => e_not (e_call (es_cons (e_var g) (es_cons e_con (es_cons e_con es_nil))) (law_from_spec k x 0 2 M px)))]
      unfold optB
      cases x.isNon <;> cases isFrom x 0 2 <;> simp [exs]
    refine (forGo_cons (δ := δ) (M := M) (r := if optB a = true then .nx (δ.set 1 (some a)) M else .ret (.bl false) M) (step a δ h1 pa)).trans ?_
    cases ha : optB a with
    | false => rfl
    | true =>
      rw [if_pos rfl, forK_nx]
      refine (forGo_cons (r := if optB b = true then .nx ((δ.set 1 (some a)).set 1 (some b)) M else .ret (.bl false) M) (step b (δ.set 1 (some a)) (by rw [List.length_set]; exact h1) pb)).trans ?_
      cases hb : optB b <;> rfl
  · rw [List.getElem?_set_ne (by decide), List.getElem?_set_ne (by decide)]
theorem getVar0 {δ : Env} {v : D} (h : δ[0]? = some (some v)) : getVar δ 0 = some v := by unfold getVar; rw [h]; rfl
theorem law_is_stand_spec (k : Nat) {m n : Nat} (v : D) (M : Mem) (hv : good m n v = true) (hm : m ≤ 60) (hn : n ≤ 60) : callF FDS (k + 2) j__law_is_stand [v] M = .ok (.bl (standB v)) M := by
  have hp := good_Pl hv
  rw [callF_at fds__law_is_stand rfl]
  have t1 := law_tuple_spec k v 6 6 M hp
  show fin M.length (exs _ B__law_is_stand ([some v] ++ List.replicate 2 none) M) = _
  unfold B__law_is_stand
  by_cases h6 : isTup v 6 6 = true
  · obtain ⟨l, rfl, a1, a2⟩ := isTup_of h6
    match l, a1, a2 with
    | [dep, cup, chip, takes, needs, ref], _, _ =>
      obtain ⟨n', rfl, _, hg⟩ := good_tup hv
      have p1 : Pl dep = true := pl_of hg (by simp)
      have p2 : Pl cup = true := pl_of hg (by simp)
      have p3 : Pl chip = true := pl_of hg (by simp)
      have p4 : Pl takes = true := pl_of hg (by simp)
      have p5 : Pl needs = true := pl_of hg (by simp)
      have p6 : Pl ref = true := pl_of hg (by simp)
      have g4 : good m n' takes = true := goodL_iff.mp hg takes (by simp)
      have es : standB (.tup [dep, cup, chip, takes, needs, ref]) = (isFrom dep 0 9 && isFrom ref 0 9 && isFrom cup 0 2 && optB chip && optB needs && takesB takes) := rfl
      rw [es]
      refine fin_step (s_ite_ret (e_or (e_not (e_call (es_cons (e_var rfl) (es_cons e_con (es_cons e_con es_nil))) t1)) fun _ =>
        e_or (e_not (e_call (es_cons (e_ix0 (e_var rfl) rfl) (es_cons e_con (es_cons e_con es_nil))) (law_from_spec k dep 0 9 M p1)))
          fun _ => e_not (e_call (es_cons (e_ix0 (e_var rfl) rfl) (es_cons e_con (es_cons e_con es_nil))) (law_from_spec k ref 0 9 M p6)))) ?_
      rw [h6]
      by_cases hb : (isFrom dep 0 9 && isFrom ref 0 9) = false
      · rw [if_pos (by revert hb; cases isFrom dep 0 9 <;> cases isFrom ref 0 9 <;> decide), fin_ret_same, hb]; rfl
      rw [Bool.not_eq_false] at hb
      rw [if_neg (by revert hb; cases isFrom dep 0 9 <;> cases isFrom ref 0 9 <;> decide), hb, Bool.true_and]
      refine fin_step (s_for (i_seq (e_lst (es_cons (e_ix0 (e_var rfl) rfl) (es_cons (e_ix0 (e_var rfl) rfl) es_nil)) (by simp)) rfl)) ?_
      obtain ⟨δ', e1, e2, e3⟩ := two_parts (k := k) (a := chip) (b := needs) (δ := [some (.tup [dep, cup, chip, takes, needs, ref])] ++ List.replicate 2 none) (M := M) p3 p5 rfl
      refine fin_step (congrArg (fun r => Rf.next r _) e1) ?_
      by_cases hq : (optB chip && optB needs) = false
      · rw [hq, if_neg (by decide)]
        show fin M.length (.ret (.bl false) M) = _
        rw [fin_ret_same]
        have : (isFrom cup 0 2 && optB chip && optB needs && takesB takes) = false := by rw [Bool.and_assoc (isFrom cup 0 2), hq, Bool.and_false, Bool.false_and]
        rw [this]
      rw [Bool.not_eq_false] at hq
      rw [hq, if_pos rfl]
      have e4 : (isFrom cup 0 2 && optB chip && optB needs && takesB takes) = (isFrom cup 0 2 && takesB takes) := by rw [Bool.and_assoc (isFrom cup 0 2), hq, Bool.and_true]
      rw [e4]
      have v0 : getVar δ' 0 = some (.tup [dep, cup, chip, takes, needs, ref]) := getVar0 (by rw [e2]; rfl)
      refine fin_step (s_ite_ret (e_or (e_not (e_call (es_cons (e_ix0 (e_var v0) rfl) (es_cons e_con (es_cons e_con es_nil))) (law_from_spec k cup 0 2 M p2))) fun _ => e_not (e_isi (e_ix0 (e_var v0) rfl) (isTupD_of M p4)))) ?_
      by_cases hc : isFrom cup 0 2 = false
      · rw [hc, if_pos (by cases isTupD takes <;> decide), fin_ret_same]; rfl
      rw [Bool.not_eq_false] at hc
      by_cases ht : isTupD takes = false
      · rw [hc, ht, if_pos (by decide), fin_ret_same, takesB_tup ht]; rfl
      rw [Bool.not_eq_false] at ht
      rw [hc, ht, if_neg (by decide), Bool.true_and]
      cases takes with
      | tup l =>
        obtain ⟨n'', rfl, c1, hg4⟩ := good_tup g4
        have hb2 : ∀ x ∈ l, ev (callF FDS (k + 1)) (.not (.call j__law_from (.cons (.var 2) (.cons (.con (.int 0)) (.cons (.con (.int 2)) .nil))))) ((wipeD δ' [2]).set 2 (some x)) M = .ok (.bl (!isFrom x 0 2)) M := fun x hx => by
          have g2 : getVar ((wipeD δ' [2]).set 2 (some x)) 2 = some x := by unfold getVar; rw [List.getElem?_set_self (by simp [wipeD, e3])]; rfl
          exact e_not (e_call (es_cons (e_var g2) (es_cons e_con (es_cons e_con es_nil))) (law_from_spec k x 0 2 M (pl_of hg4 hx)))
        have hbad := e_bad (Φ := callF FDS (k + 1)) (δ := δ') (M := M) (i := 2) (own := [2]) (g := fun x => isFrom x 0 2) (e := .op2 .ix (.var 0) (.con (.int 3))) (e_ix0 (e_var v0) rfl) rfl (by omega) (by unfold getVar; rw [List.getElem?_set_self (by simp [wipeD, e3])]; rfl) hb2
        refine fin_step (s_ite_ret (e_anybad hbad hg4 (by omega))) ?_
        by_cases ha : (l.all fun x => isFrom x 0 2) = true
        · rw [ha, if_neg (by decide)]
          obtain ⟨ns, rfl, hns⟩ := ints_of_from (List.all_eq_true.mp ha)
          rw [List.length_map] at c1
          refine fin_step (s_ret (e_cmp (e_b (es_cons (e_ix0 (e_var v0) rfl) es_nil) rfl) (e_b (d := .lst ((setS ns).map D.int)) (es_cons (e_ix0 (e_var v0) rfl) es_nil) (by
            show (dInts (ns.map D.int)).bind _ = _
            rw [dInts_map]
            show (if (ns.map D.int).length ≤ 60 then _ else _) = _
            rw [if_pos (by rw [List.length_map]; omega)])) (eq2_ints M ns (setS ns)))) ?_
          rw [fin_ret_same, takes_eq hns]
          show _ = Rs.ok (D.bl (decide ((ns.map D.int).length ≤ 3) && (ns.map D.int).all (fun d => isFrom d 0 2) && ascB (ns.map D.int))) M
          rw [ha, Bool.and_true]
        · rw [Bool.not_eq_true] at ha
          rw [ha, if_pos (by decide), fin_ret_same]
          show _ = Rs.ok (D.bl (decide (l.length ≤ 3) && l.all (fun d => isFrom d 0 2) && ascB l)) M
          rw [ha, Bool.and_false, Bool.false_and]
      | _ => cases ht
  · rw [Bool.not_eq_true] at h6
    rw [h6] at t1
    refine fin_step (s_ite_ret (b := true) (e_or (x := true) (y := true) (e_not (e_call (es_cons (e_var rfl) (es_cons e_con (es_cons e_con es_nil))) t1)) fun h => by cases h)) ?_
    rw [if_pos rfl, fin_ret_same]
    have : standB v = false := by
      unfold standB
      split
      · exact absurd h6 (by simp [isTup])
      · rfl
    rw [this]
end CB
end
section
set_option maxHeartbeats 1000000
/-! P09: the law's own checks of things, fairs, lots. -/
namespace CB
open PySem
theorem words_in_lst (M : Mem) (x : Str) (h : PyData.strOk x = true) : in2 M (.str x) (.lst [.str "chip", .str "cup"]) = some (wordB (.str x)) := by
  have h1 : pdM M (.str x) = some (.str x) := by
    obtain ⟨p, a, b⟩ := good_pdM (m := 0) (n := 0) (d := .str x) M (by unfold good; exact h) (by omega)
    cases a
    exact b
  have h2 : pdM M (.lst [.str "chip", .str "cup"]) = some (.list [.str "chip", .str "cup"]) := by
    obtain ⟨p, a, b⟩ := good_pdM (m := 2) (n := 1) (d := .lst [.str "chip", .str "cup"]) M (by decide +kernel) (by omega)
    have : p = .list [.str "chip", .str "cup"] := by
      have e : D.pd (.lst [.str "chip", .str "cup"]) = some (.list [.str "chip", .str "cup"]) := by simp [D.pd, pdL]
      rw [e] at a; exact (Option.some.inj a).symm
    rw [← this]; exact b
  rw [in2_lst, h1, h2]
  show some ((("chip" : Str) == x) || ((("cup" : Str) == x) || false)) = some (x == ("chip" : Str) || x == ("cup" : Str))
  rw [Bool.or_false, Bool.beq_comm (a := ("chip" : Str)), Bool.beq_comm (a := ("cup" : Str))]
theorem law_is_thing_yes (k : Nat) {m n : Nat} (w s : D) (r : List D) (M : Mem) (hv : good m n (.tup (w :: s :: r)) = true) : callF FDS (k + 2) j__law_is_thing [.tup (w :: s :: r), .int ((r.length + 2 : Nat) : Int)] M = .ok (.bl (wordB w && isFrom s 0 2)) M := by
  have hp := good_Pl hv
  rw [callF_at fds__law_is_thing rfl]
  have t1 := law_tuple_spec k (.tup (w :: s :: r)) (r.length + 2) (r.length + 2) M hp
  have ht : isTup (.tup (w :: s :: r)) (r.length + 2) (r.length + 2) = true := by simp [isTup]
  rw [ht] at t1
  obtain ⟨n', rfl, _, hg⟩ := good_tup hv
  have p1 : Pl w = true := pl_of hg (by simp)
  have p2 : Pl s = true := pl_of hg (by simp)
  have gw : good m n' w = true := goodL_iff.mp hg w (by simp)
  show fin M.length (exs _ B__law_is_thing ([some (.tup (w :: s :: r)), some (.int ((r.length + 2 : Nat) : Int))] ++ List.replicate 0 none) M) = _
  unfold B__law_is_thing
  have i0 : atL (w :: s :: r) 0 = some w := by
    unfold atL
    have : L2.ixN (w :: s :: r).length 0 = some 0 := by unfold L2.ixN; simp; omega
    rw [this]; rfl
  have i1 : atL (w :: s :: r) 1 = some s := by
    unfold atL
    have : L2.ixN (w :: s :: r).length 1 = some 1 := by unfold L2.ixN; simp; omega
    rw [this]; rfl
  have hw : cmp2 M .notin w (.lst [.str "chip", .str "cup"]) = some (!wordB w) ∨ isStr w = false := by
    cases w with
    | str x =>
      left
      show (in2 M _ _).map _ = _
      rw [words_in_lst M x (by unfold good at gw; exact gw)]; rfl
    | _ => exact .inr rfl
  have hb : (!isStr w || !wordB w) = !wordB w := by cases w <;> rfl
  refine fin_step (s_ite_ret (b := !wordB w) (by
    rw [← hb]
    refine e_or (x := false) (e_not (e_call (es_cons (e_var rfl) (es_cons (e_var rfl) (es_cons (e_var rfl) es_nil))) t1)) fun _ => ?_
    refine e_or (e_not (e_isi (e_ix0 (e_var rfl) i0) (isStr_of M p1))) fun hq => e_cmp (e_ix0 (e_var rfl) i0) (e_lst (es_cons e_con (es_cons e_con es_nil)) (by simp)) ?_
    rcases hw with hw | hw
    · exact hw
    · rw [hw] at hq; cases hq)) ?_
  by_cases hx : wordB w = true
  · rw [hx, if_neg (by decide)]
    refine fin_step (s_ret (e_call (es_cons (e_ix0 (e_var rfl) i1) (es_cons e_con (es_cons e_con es_nil))) (law_from_spec k s 0 2 M p2))) ?_
    rw [fin_ret_same, Bool.true_and]
  · rw [Bool.not_eq_true] at hx
    rw [hx, if_pos (by decide), fin_ret_same]; rfl
theorem law_is_thing_not (k : Nat) (v : D) (N : Nat) (M : Mem) (hp : Pl v = true) (h : isTup v N N = false) : callF FDS (k + 2) j__law_is_thing [v, .int (N : Int)] M = .ok (.bl false) M := by
  rw [callF_at fds__law_is_thing rfl]
  have t1 := law_tuple_spec k v N N M hp
  rw [h] at t1
  show fin M.length (exs _ B__law_is_thing ([some v, some (.int (N : Int))] ++ List.replicate 0 none) M) = _
  unfold B__law_is_thing
  refine fin_step (s_ite_ret (b := true) (e_or (x := true) (y := true) (e_not (e_call (es_cons (e_var rfl) (es_cons (e_var rfl) (es_cons (e_var rfl) es_nil))) t1)) fun h => by cases h)) ?_
  rw [if_pos rfl, fin_ret_same]
theorem law_is_thing2 (k : Nat) {m n : Nat} (v : D) (M : Mem) (hv : good m n v = true) : callF FDS (k + 2) j__law_is_thing [v, .int 2] M = .ok (.bl (thingB v)) M := by
  by_cases h : isTup v 2 2 = true
  · obtain ⟨l, rfl, a1, a2⟩ := isTup_of h
    match l, a1, a2 with
    | [w, s], _, _ => exact law_is_thing_yes k w s [] M hv
  · rw [Bool.not_eq_true] at h
    have : thingB v = false := by
      unfold thingB
      split
      · exact absurd h (by simp [isTup])
      · rfl
    rw [this]
    exact law_is_thing_not k v 2 M (good_Pl hv) h
/-- the law's condition on a shop -/
theorem law_shop (k : Nat) {m n : Nat} (v : D) (M : Mem) (hv : good m n v = true) {δ : Env} (h : getVar δ 2 = some v) :
    ev (callF FDS (k + 2)) (.or (.not (.call j__law_is_thing (.cons (.var 2) (.cons (.con (.int 3)) .nil)))) (.not (.call j__law_from (.cons (.op2 .ix (.var 2) (.con (.int 2))) (.cons (.con (.int 0)) (.cons (.con (.int 9)) .nil)))))) δ M = .ok (.bl (!shopB v)) M := by
  by_cases h3 : isTup v 3 3 = true
  · obtain ⟨l, rfl, a1, a2⟩ := isTup_of h3
    match l, a1, a2 with
    | [w, s, p], _, _ =>
      obtain ⟨n', rfl, _, hg⟩ := good_tup hv
      have p3 : Pl p = true := pl_of hg (by simp)
      have e : (!shopB (.tup [w, s, p])) = (!(wordB w && isFrom s 0 2) || !isFrom p 0 9) := by
        show (!(wordB w && isFrom s 0 2 && isFrom p 0 9)) = _
        cases wordB w <;> cases isFrom s 0 2 <;> cases isFrom p 0 9 <;> rfl
      rw [e]
      exact e_or (e_not (e_call (es_cons (e_var h) (es_cons e_con es_nil)) (law_is_thing_yes k w s [p] M hv))) fun _ => e_not (e_call (es_cons (e_ix0 (e_var h) rfl) (es_cons e_con (es_cons e_con es_nil))) (law_from_spec (k + 1) p 0 9 M p3))
  · rw [Bool.not_eq_true] at h3
    have : shopB v = false := by
      unfold shopB
      split
      · exact absurd h3 (by simp [isTup])
      · rfl
    rw [this]
    exact e_or (x := true) (y := true) (e_not (e_call (es_cons (e_var h) (es_cons e_con es_nil)) (law_is_thing_not k v 3 M (good_Pl hv) h3))) fun h => by cases h
theorem law_is_fair_spec (k : Nat) {m n : Nat} (v : D) (M : Mem) (hv : good m n v = true) (hm : m ≤ 60) (hn : n ≤ 60) : callF FDS (k + 3) j__law_is_fair [v] M = .ok (.bl (fairB v)) M := by
  have hp := good_Pl hv
  rw [callF_at fds__law_is_fair rfl]
  have t1 := law_tuple_spec (k + 1) v 2 2 M hp
  show fin M.length (exs _ B__law_is_fair ([some v] ++ List.replicate 2 none) M) = _
  unfold B__law_is_fair
  by_cases h2 : isTup v 2 2 = true
  · obtain ⟨l, rfl, a1, a2⟩ := isTup_of h2
    match l, a1, a2 with
    | [a, b], _, _ =>
      obtain ⟨n', rfl, _, hg⟩ := good_tup hv
      have p1 : Pl a = true := pl_of hg (by simp)
      have p2 : Pl b = true := pl_of hg (by simp)
      have g1 : good m n' a = true := goodL_iff.mp hg a (by simp)
      have g2 : good m n' b = true := goodL_iff.mp hg b (by simp)
      have q1 := law_tuple_spec (k + 1) a 1 4 M p1
      have q2 := law_tuple_spec (k + 1) b 0 3 M p2
      refine fin_step (s_ite_ret (e_or (e_not (e_call (es_cons (e_var rfl) (es_cons e_con (es_cons e_con es_nil))) t1)) fun _ =>
        e_or (e_not (e_call (es_cons (e_ix0 (e_var rfl) rfl) (es_cons e_con (es_cons e_con es_nil))) q1)) fun _ => e_not (e_call (es_cons (e_ix0 (e_var rfl) rfl) (es_cons e_con (es_cons e_con es_nil))) q2))) ?_
      show fin M.length (if (!isTup (.tup [a, b]) 2 2 || (!isTup a 1 4 || !isTup b 0 3)) = true then _ else _) = .ok (.bl (tupAll a 1 4 standB && tupAll b 0 3 shopB)) M
      rw [h2]
      by_cases ha : isTup a 1 4 = true
      · by_cases hb : isTup b 0 3 = true
        · rw [ha, hb, if_neg (by decide)]
          obtain ⟨la, rfl, c1, c2⟩ := isTup_of ha
          obtain ⟨lb, rfl, c3, c4⟩ := isTup_of hb
          obtain ⟨n1, rfl, _, ga⟩ := good_tup g1
          obtain ⟨n2, e2, _, gb⟩ := good_tup g2
          have b1 := e_bad (Φ := callF FDS (k + 2)) (δ := [some (.tup [.tup la, .tup lb])] ++ List.replicate 2 none) (M := M) (i := 1) (own := [1]) (g := standB) (e := .op2 .ix (.var 0) (.con (.int 0))) (c := .not (.call j__law_is_stand (.cons (.var 1) .nil))) (e_ix0 (e_var rfl) rfl) rfl (by omega) rfl
            fun x hx => e_not (e_call (es_cons (e_var rfl) es_nil) (law_is_stand_spec k x M (goodL_iff.mp ga x hx) hm (by omega)))
          refine fin_step (s_ite_ret (e_anybad b1 ga (by omega))) ?_
          rw [tupAll_yes ha, tupAll_yes hb]
          by_cases hs : la.all standB = true
          · rw [hs, if_neg (by decide), Bool.true_and]
            have b2 := e_bad (Φ := callF FDS (k + 2)) (δ := [some (.tup [.tup la, .tup lb])] ++ List.replicate 2 none) (M := M) (i := 2) (own := [2]) (g := shopB) (e := .op2 .ix (.var 0) (.con (.int 1))) (c := .or (.not (.call j__law_is_thing (.cons (.var 2) (.cons (.con (.int 3)) .nil)))) (.not (.call j__law_from (.cons (.op2 .ix (.var 2) (.con (.int 2))) (.cons (.con (.int 0)) (.cons (.con (.int 9)) .nil)))))) (e_ix0 (e_var rfl) rfl) rfl (by omega) rfl
              fun x hx => law_shop k x M (goodL_iff.mp gb x hx) rfl
            refine fin_step (s_ret (e_nobad b2 gb (by omega))) ?_
            rw [fin_ret_same]
          · rw [Bool.not_eq_true] at hs
            rw [hs, if_pos (by decide), fin_ret_same, Bool.false_and]
        · rw [Bool.not_eq_true] at hb
          rw [ha, hb, if_pos (by decide), fin_ret_same, tupAll_not hb, Bool.and_false]
      · rw [Bool.not_eq_true] at ha
        rw [ha, tupAll_not ha, if_pos (by cases isTup b 0 3 <;> decide), fin_ret_same, Bool.false_and]
  · rw [Bool.not_eq_true] at h2
    rw [h2] at t1
    refine fin_step (s_ite_ret (b := true) (e_or (x := true) (y := true) (e_not (e_call (es_cons (e_var rfl) (es_cons e_con (es_cons e_con es_nil))) t1)) fun h => by cases h)) ?_
    rw [if_pos rfl, fin_ret_same]
    have : fairB v = false := by
      unfold fairB
      split
      · exact absurd h2 (by simp [isTup])
      · rfl
    rw [this]
/-- two things against their sorted list -/
theorem sort_things : ∀ w ∈ [("chip" : Str), "cup"], ∀ w' ∈ [("chip" : Str), "cup"], ∀ i ∈ [(0 : Int), 1, 2], ∀ j ∈ [(0 : Int), 1, 2],
    (match sortD [.tup [.str w, .int i], .tup [.str w', .int j]] with | some l => eq2 [] (.lst [.tup [.str w, .int i], .tup [.str w', .int j]]) (.lst l) | none => none) = some (thLe (.tup [.str w, .int i]) (.tup [.str w', .int j])) := by
  decide +kernel
theorem sort_thing : ∀ w ∈ [("chip" : Str), "cup"], ∀ i ∈ [(0 : Int), 1, 2],
    (match sortD [.tup [.str w, .int i]] with | some l => eq2 [] (.lst [.tup [.str w, .int i]]) (.lst l) | none => none) = some true := by
  decide +kernel
theorem eq2_free (M : Mem) (a b : List D) : eq2 M (.lst a) (.lst b) = eq2 [] (.lst a) (.lst b) := rfl
theorem law_is_lot_spec (k : Nat) {m n : Nat} (v : D) (M : Mem) (hv : good m n v = true) (hn : n ≤ 60) : callF FDS (k + 3) j__law_is_lot [v] M = .ok (.bl (lotB v)) M := by
  have hp := good_Pl hv
  rw [callF_at fds__law_is_lot rfl]
  have t1 := law_tuple_spec (k + 1) v 0 2 M hp
  show fin M.length (exs _ B__law_is_lot ([some v] ++ List.replicate 1 none) M) = _
  unfold B__law_is_lot
  by_cases h2 : isTup v 0 2 = true
  · obtain ⟨l, rfl, _, a2⟩ := isTup_of h2
    obtain ⟨n', rfl, _, hg⟩ := good_tup hv
    have b1 := e_bad (Φ := callF FDS (k + 2)) (δ := [some (.tup l)] ++ List.replicate 1 none) (M := M) (i := 1) (own := [1]) (g := thingB) (e := .var 0) (c := .not (.call j__law_is_thing (.cons (.var 1) (.cons (.con (.int 2)) .nil)))) (e_var rfl) rfl (by omega) rfl
      fun x hx => e_not (e_call (es_cons (e_var rfl) (es_cons e_con es_nil)) (law_is_thing2 k x M (goodL_iff.mp hg x hx)))
    refine fin_step (s_ite_ret (e_or (e_not (e_call (es_cons (e_var rfl) (es_cons e_con (es_cons e_con es_nil))) t1)) fun _ => e_anybad b1 hg (by omega))) ?_
    rw [h2]
    by_cases ha : l.all thingB = true
    · rw [ha, if_neg (by decide)]
      have fin2 : ∀ l' b, sortD l = some l' → eq2 [] (.lst l) (.lst l') = some b → fin M.length (exs (callF FDS (k + 2)) (.cons (.ret (.cmp .eq (.b .list (.cons (.var 0) .nil)) (.b .sorted (.cons (.var 0) .nil)))) .nil) ([some (.tup l)] ++ List.replicate 1 none) M) = .ok (.bl b) M := fun l' b h1 h2 => by
        refine fin_step (s_ret (e_cmp (e_b (es_cons (e_var rfl) es_nil) rfl) (e_b (d := .lst l') (es_cons (e_var rfl) es_nil) (by
          show (if l.length ≤ 1000 then (sortD l).map D.lst else none) = _
          rw [if_pos (by omega), h1]; rfl)) (by show eq2 M _ _ = _; rw [eq2_free]; exact h2))) ?_
        rw [fin_ret_same]
      have wm : ∀ {w : Str}, w = "chip" ∨ w = "cup" → w ∈ [("chip" : Str), "cup"] := fun h => by rcases h with rfl | rfl <;> simp
      have im : ∀ {i : Int}, 0 ≤ i → i ≤ 2 → i ∈ [(0 : Int), 1, 2] := fun h1 h2 => by
        simp only [List.mem_cons, List.not_mem_nil, or_false]; omega
      match l, a2, ha, fin2 with
      | [], _, _, fin2 => exact fin2 [] true rfl (by decide +kernel)
      | [a], _, ha, fin2 =>
        have ha : (thingB a && true) = true := ha
        rw [Bool.and_true] at ha
        rw [show lotB (.tup [a]) = true from ha]
        obtain ⟨w, i, rfl, hw, y1, y2⟩ := thingB_of ha
        have q := sort_thing w (wm hw) i (im y1 y2)
        split at q
        · rename_i l' hl; exact fin2 l' true hl q
        · cases q
      | [a, b], _, ha, fin2 =>
        have ha : (thingB a && (thingB b && true)) = true := ha
        simp only [Bool.and_true, Bool.and_eq_true] at ha
        have e : lotB (.tup [a, b]) = thLe a b := by
          show (thingB a && thingB b && thLe a b) = _
          rw [ha.1, ha.2]; rfl
        rw [e]
        obtain ⟨w, i, rfl, hw, y1, y2⟩ := thingB_of ha.1
        obtain ⟨w', j, rfl, hw', y3, y4⟩ := thingB_of ha.2
        have q := sort_things w (wm hw) w' (wm hw') i (im y1 y2) j (im y3 y4)
        split at q
        · rename_i l' hl; exact fin2 l' _ hl q
        · cases q
    · rw [Bool.not_eq_true] at ha
      rw [ha, if_pos (by decide), fin_ret_same, lotB_all a2 ha]
  · rw [Bool.not_eq_true] at h2
    rw [h2] at t1
    refine fin_step (s_ite_ret (b := true) (e_or (x := true) (y := true) (e_not (e_call (es_cons (e_var rfl) (es_cons e_con (es_cons e_con es_nil))) t1)) fun h => by cases h)) ?_
    rw [if_pos rfl, fin_ret_same, lotB_not h2]
end CB
end
section
set_option maxHeartbeats 1000000
/-! P10: what is drawn. -/
namespace CB
open PySem
/-- the n-th cell is what is drawn from -/
def SrcM (M : Mem) (n : Nat) : Prop := ∃ x y : Int, M[n]? = some (.lst [.int x, .int y]) ∧ 0 ≤ y ∧ y < 2147483489
/-- draws took place -/
structure Drw (n : Nat) (M M' : Mem) : Prop where
  len : M'.length = M.length
  oth : ∀ i, i ≠ n → M'[i]? = M[i]?
  src : SrcM M' n
theorem Drw.refl {n : Nat} {M : Mem} (h : SrcM M n) : Drw n M M := ⟨rfl, fun _ _ => rfl, h⟩
theorem Drw.trans {n : Nat} {M M' M2 : Mem} (a : Drw n M M') (b : Drw n M' M2) : Drw n M M2 := ⟨b.len.trans a.len, fun i h => (b.oth i h).trans (a.oth i h), b.src⟩
theorem fin_ret_len {n : Nat} {d : D} {M : Mem} (h : M.length = n) : fin n (.ret d M) = .ok d M := by subst h; exact fin_ret_same d M
section
variable {Φ : Nat → List D → Mem → Rs D} {δ : Env} {M M1 M2 M3 M4 : Mem}
theorem s_put {o i v : T} {x y z : D} {ss : Ss} (h1 : ev Φ v δ M = .ok y M1) (h2 : ev Φ o δ M1 = .ok x M2) (h3 : ev Φ i δ M2 = .ok z M3) (h4 : putD M3 x z y = some M4) : exs Φ (.cons (.put o i v) ss) δ M = exs Φ ss δ M4 := by
  conv => lhs; unfold exs
  unfold ex
  rw [h1]
  simp only [Rs.run_ok, h2, h3, h4, liftM_some, Rf.next_nx]
end
theorem ix_cell {M : Mem} {n : Nat} {l : List D} {i : Int} {d : D} (h : M[n]? = some (.lst l)) (h2 : atL l i = some d) : op2 M .ix (.loc n) (.int i) = some d := by
  show (match M[n]? with | some (.lst xs) => atL xs i | _ => none) = _
  rw [h]; exact h2
theorem put0 {M : Mem} {n : Nat} {x y : Int} {v : D} (h : M[n]? = some (.lst [.int x, .int y])) : putD M (.loc n) (.int 0) v = some (M.set n (.lst [v, .int y])) := by
  unfold putD
  simp only [h]
  rfl
theorem put1 {M : Mem} {n : Nat} {x y : Int} {v : D} (h : M[n]? = some (.lst [.int x, .int y])) : putD M (.loc n) (.int 1) v = some (M.set n (.lst [.int x, v])) := by
  unfold putD
  simp only [h]
  rfl
theorem drw_set {M : Mem} {n : Nat} {x y : Int} {o : MO} (h : M[n]? = some o) (h0 : 0 ≤ y) (h1 : y < 2147483489) : Drw n M (M.set n (.lst [.int x, .int y])) :=
  ⟨List.length_set, fun i hi => List.getElem?_set_ne (fun e => hi e.symm), x, y, List.getElem?_set_self (List.getElem?_eq_some_iff.mp h).1, h0, h1⟩
theorem small64_of {i : Int} (h : -18446744073709551616 < i) (h2 : i < 18446744073709551616) : small64 i = true := by
  unfold small64
  have e : (2 : Int) ^ 64 = 18446744073709551616 := by decide
  rw [e, decide_eq_true h, decide_eq_true h2]; rfl
theorem mul_ok {M : Mem} {a b : Int} (h : -18446744073709551616 < b) (h2 : b < 18446744073709551616) : op2 M .mul (.int a) (.int b) = some (.int (a * b)) := by
  show (if (small64 a || small64 b) = true then some (D.int (a * b)) else none) = _
  rw [if_pos (by rw [small64_of h h2, Bool.or_true])]
theorem mod_ok {M : Mem} {a b : Int} (h : 0 < b) : op2 M .mod (.int a) (.int b) = some (.int (a % b)) := by
  show (if 0 < b then some (D.int (a % b)) else none) = _
  rw [if_pos h]
theorem fdiv_ok {M : Mem} {a b : Int} (h : 0 < b) (h2 : b < 1073741824) : op2 M .fdiv (.int a) (.int b) = some (.int (a / b)) := by
  show (if 0 < b ∧ b < 1073741824 then some (D.int (a / b)) else none) = _
  rw [if_pos ⟨h, h2⟩]
theorem draw_spec (k n : Nat) (many : Int) (M : Mem) (hs : SrcM M n) (h1 : 0 < many) (h2 : many < 1073741824) :
    ∃ r M', callF FDS (k + 1) j__law_draw [.loc n, .int many] M = .ok (.int r) M' ∧ 0 ≤ r ∧ r < many ∧ Drw n M M' := by
  obtain ⟨x, y, hM, y0, y1⟩ := hs
  rw [callF_at fds__law_draw rfl]
  show ∃ r M', fin M.length (exs _ B__law_draw ([some (.loc n), some (.int many)] ++ List.replicate 2 none) M) = _ ∧ _
  unfold B__law_draw
  have hc : ev (callF FDS k) (.cmp .gt (.op2 .ix (.var 0) (.con (.int 0))) (.con (.int 0))) ([some (.loc n), some (.int many)] ++ List.replicate 2 none) M = .ok (.bl (decide (0 < x))) M :=
    e_cmp (e_op2 (e_var rfl) e_con (ix_cell hM rfl)) e_con rfl
  by_cases hx : 0 < x
  · rw [decide_eq_true hx] at hc
    refine ⟨x % many, _, fin_step (s_ite hc) ?_, Int.emod_nonneg _ (by omega), Int.emod_lt_of_pos _ h1, drw_set (x := x / many) hM y0 y1⟩
    rw [if_pos rfl]
    refine fin_step (congrArg (fun r => Rf.next r _) ((s_set (e_op2 (e_b (es_cons (e_op2 (e_var rfl) e_con (ix_cell hM rfl)) es_nil) rfl) (e_var rfl) (mod_ok h1))).trans
      ((s_put (e_op2 (e_op2 (e_var rfl) e_con (ix_cell hM rfl)) (e_var rfl) (fdiv_ok h1 h2)) (e_var rfl) e_con (put0 hM)).trans (s_ret (e_var rfl))))) ?_
    exact fin_ret_len List.length_set
  · rw [decide_eq_false hx] at hc
    have yb := y1
    let y2 := (y * 48271 + 53) % 2147483489
    have z0 : 0 ≤ y2 := Int.emod_nonneg _ (by decide)
    have z1 : y2 < 2147483489 := Int.emod_lt_of_pos _ (by decide)
    let M1 := M.set n (.lst [.int x, .int y2])
    have hd : Drw n M M1 := drw_set hM z0 z1
    have hM1 : M1[n]? = some (.lst [.int x, .int y2]) := List.getElem?_set_self (List.getElem?_eq_some_iff.mp hM).1
    have zq : 0 ≤ y2 / 13 + 8 := by
      have : 0 ≤ y2 / 13 := Int.ediv_nonneg z0 (by decide)
      omega
    have zr : y2 / 13 + 8 < 18446744073709551616 := by
      have : y2 / 13 ≤ y2 := Int.ediv_le_self _ z0
      omega
    refine ⟨_, M1, fin_step (s_ite hc) ?_, Int.emod_nonneg (((y2 * (y2 / 13 + 8)) % 2147483399) / 32) (by omega), Int.emod_lt_of_pos _ h1, hd⟩
    rw [if_neg (by decide)]
    refine fin_step (congrArg (fun r => Rf.next r _) (show exs _ .nil _ _ = Rf.nx _ _ by unfold exs; rfl)) ?_
    refine fin_step ((s_put (e_op2 (e_b (es_cons (e_op2 (e_op2 (e_op2 (e_var rfl) e_con (ix_cell hM rfl)) e_con (mul_ok (by decide) (by decide))) e_con rfl) es_nil) rfl) e_con (mod_ok (by decide))) (e_var rfl) e_con (put1 hM)).trans
      ((s_set (e_op2 (e_b (es_cons (e_op2 (e_op2 (e_var rfl) e_con (ix_cell hM1 rfl)) (e_op2 (e_op2 (e_op2 (e_var rfl) e_con (ix_cell hM1 rfl)) e_con (fdiv_ok (by decide) (by decide))) e_con rfl) (mul_ok (by omega) zr)) es_nil) rfl) e_con (mod_ok (by decide)))).trans
        (s_ret (e_op2 (e_b (es_cons (e_op2 (e_var rfl) e_con (fdiv_ok (by decide) (by decide))) es_nil) rfl) (e_var rfl) (mod_ok h1))))) ?_
    exact fin_ret_len hd.len
end CB
end
section
set_option maxHeartbeats 1000000
/-! P11: random stands. -/
namespace CB
open PySem
theorem isFrom_mk {j lo hi : Int} (h1 : lo ≤ j) (h2 : j ≤ hi) : isFrom (.int j) lo hi = true := by
  show (decide (lo ≤ j) && decide (j ≤ hi)) = true
  rw [decide_eq_true h1, decide_eq_true h2]; rfl
theorem atL_nat {l : List D} {r : Int} (h0 : 0 ≤ r) (h1 : r < (l.length : Int)) (hl : l.length < 1073741824) : ∃ d, atL l r = some d ∧ d ∈ l := by
  obtain ⟨i, rfl⟩ := Int.eq_ofNat_of_zero_le h0
  have hi : i < l.length := by omega
  refine ⟨l[i], ?_, List.getElem_mem hi⟩
  unfold atL
  rw [show L2.ixN l.length (i : Int) = some i from by unfold L2.ixN; simp; omega]
  exact List.getElem?_eq_getElem hi
theorem choice_spec (k n : Nat) (l : List D) (M : Mem) (hs : SrcM M n) (h1 : l ≠ []) (h2 : l.length < 1073741824) :
    ∃ d M', callF FDS (k + 2) j__law_choice [.loc n, .lst l] M = .ok d M' ∧ d ∈ l ∧ Drw n M M' := by
  have hl : 0 < l.length := List.length_pos_iff.mpr h1
  obtain ⟨r, M', e1, e2, e3, e4⟩ := draw_spec k n (l.length : Int) M hs (by omega) (by omega)
  obtain ⟨d, a1, a2⟩ := atL_nat e2 e3 h2
  refine ⟨d, M', ?_, a2, e4⟩
  rw [callF_at fds__law_choice rfl]
  show fin M.length (exs _ B__law_choice ([some (.loc n), some (.lst l)] ++ List.replicate 0 none) M) = _
  unfold B__law_choice
  refine fin_step (s_ret (e_op2 (e_var rfl) (e_call (es_cons (e_var rfl) (es_cons (e_b (es_cons (e_var rfl) es_nil) rfl) es_nil)) e1) a1)) ?_
  exact fin_ret_len e4.len
/-! ### comprehensions that draw -/
theorem lcGo_sub {f : D → Mem → Rs (List D)} {n : Nat} : ∀ (ds : List D), (∀ d ∈ ds, ∀ M, SrcM M n → ∃ ys M', f d M = .ok ys M' ∧ (ys = [] ∨ ys = [d]) ∧ Drw n M M') → ∀ M, SrcM M n → ∃ l M', lcGo f ds M = .ok l M' ∧ l.Sublist ds ∧ Drw n M M'
  | [], _, M, hs => ⟨[], M, rfl, List.Sublist.refl _, Drw.refl hs⟩
  | d :: ds, h, M, hs => by
    obtain ⟨ys, M1, e1, e2, e3⟩ := h d (by simp) M hs
    obtain ⟨l, M2, g1, g2, g3⟩ := lcGo_sub ds (fun x hx => h x (List.mem_cons_of_mem _ hx)) M1 e3.src
    refine ⟨ys ++ l, M2, ?_, ?_, e3.trans g3⟩
    · unfold lcGo
      rw [e1, Rs.noexc_ok, Rs.bind_ok, g1]; rfl
    · rcases e2 with rfl | rfl
      · exact g2.cons d
      · exact g2.cons_cons d
theorem lcGo_each {f : D → Mem → Rs (List D)} {n : Nat} {Q : D → Prop} : ∀ (ds : List D), (∀ d ∈ ds, ∀ M, SrcM M n → ∃ y M', f d M = .ok [y] M' ∧ Q y ∧ Drw n M M') → ∀ M, SrcM M n → ∃ l M', lcGo f ds M = .ok l M' ∧ l.length = ds.length ∧ (∀ y ∈ l, Q y) ∧ Drw n M M'
  | [], _, M, hs => ⟨[], M, rfl, rfl, by simp, Drw.refl hs⟩
  | d :: ds, h, M, hs => by
    obtain ⟨y, M1, e1, e2, e3⟩ := h d (by simp) M hs
    obtain ⟨l, M2, g1, g2, g3, g4⟩ := lcGo_each ds (fun x hx => h x (List.mem_cons_of_mem _ hx)) M1 e3.src
    refine ⟨y :: l, M2, ?_, by simp [g2], fun z hz => ?_, e3.trans g4⟩
    · unfold lcGo
      rw [e1, Rs.noexc_ok, Rs.bind_ok, g1]; rfl
    · rcases List.mem_cons.mp hz with e | e
      · rw [e]; exact e2
      · exact g3 z e
section
variable {Φ : Nat → List D → Mem → Rs D} {δ : Env} {M M1 : Mem} {n : Nat}
/-- [d for d in it if c(d)], c draws -/
theorem ev_lc_sub {i : Nat} {it : I} {c : T} {own : List Nat} {ds : List D} (h1 : evi Φ it δ M = .ok ds M1) (hs : SrcM M1 n) (h2 : ds.length ≤ 100000) (hi : i < (wipeD δ own).length)
    (h3 : ∀ d ∈ ds, ∀ M, SrcM M n → ∃ t M', ev Φ c ((wipeD δ own).set i (some d)) M = .ok (.bl t) M' ∧ Drw n M M') : ∃ l M', ev Φ (.lc (.nm i) it c (.var i) own) δ M = .ok (.lst l) M' ∧ l.Sublist ds ∧ Drw n M1 M' := by
  obtain ⟨l, M', e1, e2, e3⟩ := lcGo_sub (f := lcF Φ (.nm i) own c (.var i) δ) ds (fun d hd M hs => by
    obtain ⟨t, M', a1, a2⟩ := h3 d hd M hs
    refine ⟨if t = true then [d] else [], M', ?_, by cases t <;> simp, a2⟩
    show (ev Φ c ((wipeD δ own).set i (some d)) M).test _ = _
    rw [a1]
    cases t with
    | true =>
      have g : getVar ((wipeD δ own).set i (some d)) i = some d := by unfold getVar; rw [List.getElem?_set_self hi]; rfl
      simp [e_var g]
    | false => simp) M1 hs
  refine ⟨l, M', ?_, e2, e3⟩
  conv => lhs; unfold ev
  rw [h1, Rs.bind_ok, if_pos h2]
  show (lcGo (lcF Φ (.nm i) own c (.var i) δ) ds M1).bind _ = _
  rw [e1]; rfl
/-- [e for d in it], e draws -/
theorem ev_lc_each {i : Nat} {it : I} {e : T} {own : List Nat} {ds : List D} {Q : D → Prop} (h1 : evi Φ it δ M = .ok ds M1) (hs : SrcM M1 n) (h2 : ds.length ≤ 100000)
    (h3 : ∀ d ∈ ds, ∀ M, SrcM M n → ∃ y M', ev Φ e ((wipeD δ own).set i (some d)) M = .ok y M' ∧ Q y ∧ Drw n M M') : ∃ l M', ev Φ (.lc (.nm i) it (.con (.bl true)) e own) δ M = .ok (.lst l) M' ∧ l.length = ds.length ∧ (∀ y ∈ l, Q y) ∧ Drw n M1 M' := by
  obtain ⟨l, M', e1, e2, e3, e4⟩ := lcGo_each (f := lcF Φ (.nm i) own (.con (.bl true)) e δ) (Q := Q) ds (fun d hd M hs => by
    obtain ⟨y, M', a1, a2, a3⟩ := h3 d hd M hs
    refine ⟨y, M', ?_, a2, a3⟩
    show (ev Φ (.con (.bl true)) ((wipeD δ own).set i (some d)) M).test _ = _
    rw [e_con]
    simp [a1]) M1 hs
  refine ⟨l, M', ?_, e2, e3, e4⟩
  conv => lhs; unfold ev
  rw [h1, Rs.bind_ok, if_pos h2]
  show (lcGo (lcF Φ (.nm i) own (.con (.bl true)) e δ) ds M1).bind _ = _
  rw [e1]; rfl
end
theorem rngL_sub {l : List D} (h : l.Sublist (rngL 0 3)) : takesB (.tup l) = true := by
  have e : rngL 0 3 = [.int 0, .int 1, .int 2] := rfl
  rw [e] at h
  have hl := h.length_le
  obtain ⟨ns, rfl, hn⟩ : ∃ ns : List Int, l = ns.map D.int ∧ ns.Sublist [0, 1, 2] := by
    have : ([.int 0, .int 1, .int 2] : List D) = ([0, 1, 2] : List Int).map D.int := rfl
    rw [this] at h
    obtain ⟨ns, h1, h2⟩ := List.sublist_map_iff.mp h
    exact ⟨ns, h2, h1⟩
  have hp : ns.Pairwise (· < ·) := List.Pairwise.sublist hn (by decide)
  have hall : (ns.map D.int).all (fun d => isFrom d 0 2) = true := by
    rw [List.all_eq_true]
    intro d hd
    obtain ⟨x, hx, rfl⟩ := List.mem_map.mp hd
    have := hn.subset hx
    simp only [List.mem_cons, List.not_mem_nil, or_false] at this
    unfold isFrom
    rcases this with rfl | rfl | rfl <;> decide
  show (decide ((ns.map D.int).length ≤ 3) && (ns.map D.int).all (fun d => isFrom d 0 2) && ascB (ns.map D.int)) = true
  rw [hall, (ascB_iff ns).mpr hp, decide_eq_true (by simpa using hl)]; rfl
theorem stand_spec (k n : Nat) (M : Mem) (hs : SrcM M n) : ∃ d M', callF FDS (k + 3) j__law_stand [.loc n] M = .ok d M' ∧ standB d = true ∧ Drw n M M' := by
  obtain ⟨dep, M1, a1, a2, a3⟩ := choice_spec k n [.int 0, .int 1, .int 2, .int 3, .int 4, .int 5, .int 9] M hs (by simp) (by simp)
  obtain ⟨cup, M2, b1, b2, b3, b4⟩ := draw_spec (k + 1) n 3 M1 a3.src (by decide) (by decide)
  obtain ⟨chip, M3, c1, c2, c3⟩ := choice_spec k n [.non, .non, .int 0, .int 1, .int 2] M2 b4.src (by simp) (by simp)
  have hdep : ∃ i : Int, dep = .int i ∧ 0 ≤ i ∧ i ≤ 9 := by
    simp only [List.mem_cons, List.not_mem_nil, or_false] at a2
    rcases a2 with rfl | rfl | rfl | rfl | rfl | rfl | rfl <;> exact ⟨_, rfl, by decide, by decide⟩
  obtain ⟨i, rfl, i0, i9⟩ := hdep
  have hchip : optB chip = true := by
    simp only [List.mem_cons, List.not_mem_nil, or_false] at c2
    rcases c2 with rfl | rfl | rfl | rfl | rfl <;> rfl
  let δ : Env := ([some (.loc n)] ++ List.replicate 7 none : Env).set 1 (some (.int i)) |>.set 2 (some (.int cup)) |>.set 3 (some chip)
  obtain ⟨l, M4, d1, d2, d3⟩ := ev_lc_sub (Φ := callF FDS (k + 2)) (δ := δ) (M := M3) (M1 := M3) (n := n) (i := 7) (it := .rng (.con (.int 3))) (own := [7])
    (c := .or (.cmp .eq (.call j__law_draw (.cons (.var 0) (.cons (.con (.int 3)) .nil))) (.con (.int 0))) (.and (.cmp .eq (.var 7) (.var 2)) (.cmp .gt (.call j__law_draw (.cons (.var 0) (.cons (.con (.int 5)) .nil))) (.con (.int 0)))))
    (ds := rngL 0 3) (i_rng (n := 3) e_con (by decide)) c3.src (by decide) (by simp [wipeD, δ]) fun d hd M hs => by
      obtain ⟨r, M1, e1, _, _, e4⟩ := draw_spec (k + 1) n 3 M hs (by decide) (by decide)
      obtain ⟨r2, M2, f1, _, _, f4⟩ := draw_spec (k + 1) n 5 M1 e4.src (by decide) (by decide)
      obtain ⟨j, hj⟩ : ∃ j : Int, d = .int j := by
        obtain ⟨q, hq⟩ := List.getElem?_of_mem hd
        exact ⟨_, (rngL_get hq).2⟩
      subst hj
      have x1 : ev (callF FDS (k + 2)) (.cmp .eq (.call j__law_draw (.cons (.var 0) (.cons (.con (.int 3)) .nil))) (.con (.int 0))) ((wipeD δ [7]).set 7 (some (.int j))) M = .ok (.bl (r == 0)) M1 := e_cmp (e_call (es_cons (e_var rfl) (es_cons e_con es_nil)) e1) e_con rfl
      have x2 : ev (callF FDS (k + 2)) (.cmp .eq (.var 7) (.var 2)) ((wipeD δ [7]).set 7 (some (.int j))) M1 = .ok (.bl (j == cup)) M1 := e_cmp (e_var rfl) (e_var rfl) rfl
      have x3 : ev (callF FDS (k + 2)) (.cmp .gt (.call j__law_draw (.cons (.var 0) (.cons (.con (.int 5)) .nil))) (.con (.int 0))) ((wipeD δ [7]).set 7 (some (.int j))) M1 = .ok (.bl (decide (0 < r2))) M2 := e_cmp (e_call (es_cons (e_var rfl) (es_cons e_con es_nil)) f1) e_con rfl
      by_cases q1 : (r == 0) = true
      · exact ⟨true, M1, by conv => lhs; unfold ev
                            rw [x1, q1]; rfl, e4⟩
      · rw [Bool.not_eq_true] at q1
        by_cases q2 : (j == cup) = true
        · refine ⟨decide (0 < r2), M2, ?_, e4.trans f4⟩
          conv => lhs; unfold ev
          rw [x1, q1]
          simp only [Rs.test_ok]
          rw [if_neg (by decide)]
          conv => lhs; arg 1; unfold ev
          rw [x2, q2]
          simp [x3]
        · rw [Bool.not_eq_true] at q2
          refine ⟨false, M1, ?_, e4⟩
          conv => lhs; unfold ev
          rw [x1, q1]
          simp only [Rs.test_ok]
          rw [if_neg (by decide)]
          conv => lhs; arg 1; unfold ev
          rw [x2, q2]
          simp
  obtain ⟨needs, M5, g1, g2, g3⟩ := choice_spec k n [chip, chip, .non, .int 0, .int 1] M4 d3.src (by simp) (by simp)
  have hneeds : optB needs = true := by
    simp only [List.mem_cons, List.not_mem_nil, or_false] at g2
    rcases g2 with rfl | rfl | rfl | rfl | rfl <;> first | rfl | exact hchip
  obtain ⟨ref, M6, p1, p2, p3⟩ := choice_spec k n [.int i, .int i, .int (i / 2), .int (if i - 1 > 0 then i - 1 else 0), .int (if i + 1 < 9 then i + 1 else 9), .int 0] M5 g3.src (by simp) (by simp)
  have href : isFrom ref 0 9 = true := by
    simp only [List.mem_cons, List.not_mem_nil, or_false] at p2
    have q : ∀ j : Int, 0 ≤ j → j ≤ 9 → isFrom (.int j) 0 9 = true := fun j h1 h2 => isFrom_mk h1 h2
    rcases p2 with rfl | rfl | rfl | rfl | rfl | rfl
    · exact q _ i0 i9
    · exact q _ i0 i9
    · exact q _ (Int.ediv_nonneg i0 (by decide)) (by have := Int.ediv_le_self 2 i0; omega)
    · split <;> exact q _ (by omega) (by omega)
    · split <;> exact q _ (by omega) (by omega)
    · exact q _ (by decide) (by decide)
  refine ⟨.tup [.int i, .int cup, chip, .tup l, needs, ref], M6, ?_, ?_, ((((a3.trans b4).trans c3).trans d3).trans g3).trans p3⟩
  · rw [callF_at fds__law_stand rfl]
    show fin M.length (exs _ B__law_stand ([some (.loc n)] ++ List.replicate 7 none) M) = _
    unfold B__law_stand
    refine fin_step (s_set (e_call (es_cons (e_var rfl) (es_cons (e_lst (es_cons e_con (es_cons e_con (es_cons e_con (es_cons e_con (es_cons e_con (es_cons e_con (es_cons e_con es_nil))))))) (by simp)) es_nil)) a1)) ?_
    refine fin_step (s_asg (e_tup (es_cons (e_call (es_cons (e_var rfl) (es_cons e_con es_nil)) b1) (es_cons (e_call (es_cons (e_var rfl) (es_cons (e_lst (es_cons e_con (es_cons e_con (es_cons e_con (es_cons e_con (es_cons e_con es_nil))))) (by simp)) es_nil)) c1) es_nil)) (by simp)) rfl) ?_
    refine fin_step (s_set d1) ?_
    refine fin_step (s_set (e_call (es_cons (e_var rfl) (es_cons (e_lst (es_cons (e_var rfl) (es_cons (e_var rfl) (es_cons e_con (es_cons e_con (es_cons e_con es_nil))))) (by simp)) es_nil)) g1)) ?_
    refine fin_step (s_set (e_call (es_cons (e_var rfl) (es_cons (e_lst (es_cons (e_var rfl) (es_cons (e_var rfl) (es_cons (e_op2 (e_var rfl) e_con (fdiv_ok (by decide) (by decide))) (es_cons (e_b (es_cons e_con (es_cons (e_op2 (e_var rfl) e_con rfl) es_nil)) rfl) (es_cons (e_b (es_cons e_con (es_cons (e_op2 (e_var rfl) e_con rfl) es_nil)) rfl) (es_cons e_con es_nil)))))) (by simp)) es_nil)) p1)) ?_
    refine fin_step (s_ret (e_tup (es_cons (e_var rfl) (es_cons (e_var rfl) (es_cons (e_var rfl) (es_cons (e_b (es_cons (e_var rfl) es_nil) rfl) (es_cons (e_var rfl) (es_cons (e_var rfl) es_nil)))))) (by simp))) ?_
    exact fin_ret_len (((((a3.trans b4).trans c3).trans d3).trans g3).trans p3).len
  · show (isFrom (.int i) 0 9 && isFrom ref 0 9 && isFrom (.int cup) 0 2 && optB chip && optB needs && takesB (.tup l)) = true
    have q1 : isFrom (.int i) 0 9 = true := isFrom_mk i0 i9
    have q2 : isFrom (.int cup) 0 2 = true := isFrom_mk b2 (by omega)
    rw [q1, href, q2, hchip, hneeds, rngL_sub d2]; rfl
end CB
end
section
set_option maxHeartbeats 1000000
/-! P12: random fairs, lots; what they are drawn from. -/
namespace CB
open PySem
def AllSrc (M : Mem) : Prop := ∀ o ∈ M, ∃ x y : Int, o = .lst [.int x, .int y]
theorem AllSrc.drw {n : Nat} {M M' : Mem} (h : AllSrc M) (d : Drw n M M') : AllSrc M' := fun o ho => by
  obtain ⟨i, hi⟩ := List.getElem?_of_mem ho
  by_cases e : i = n
  · subst e
    obtain ⟨x, y, h1, _⟩ := d.src
    rw [h1] at hi
    exact ⟨x, y, (Option.some.inj hi).symm⟩
  · rw [d.oth i e] at hi
    exact h o (List.mem_of_getElem? hi)
theorem AllSrc.ok {M : Mem} (h : AllSrc M) (n : Nat) : M.all (okMO n) = true := by
  rw [List.all_eq_true]
  intro o ho
  obtain ⟨x, y, rfl⟩ := h o ho
  rfl
mutual
theorem good_okB {m : Nat} (j : Nat) : ∀ {n : Nat} {d : D}, good m n d = true → okB j d = true
  | _, .non, _ => rfl
  | _, .bl _, _ => rfl
  | _, .int _, _ => rfl
  | _, .str _, _ => rfl
  | n, .tup l, e => by
    cases n with
    | zero => cases e
    | succ n =>
      unfold good at e
      rw [Bool.and_eq_true] at e
      unfold okB
      exact goodL_okB j e.2
  | n, .lst l, e => by
    cases n with
    | zero => cases e
    | succ n =>
      unfold good at e
      rw [Bool.and_eq_true] at e
      unfold okB
      exact goodL_okB j e.2
  | _, .dct _, e => by cases e
  | _, .scr _, e => by cases e
  | _, .loc _, e => by cases e
  | _, .fn _, e => by cases e
  | _, .key _, e => by cases e
theorem goodL_okB {m : Nat} (j : Nat) : ∀ {n : Nat} {d : List D}, goodL m n d = true → okBs j d = true
  | _, [], _ => rfl
  | n, d :: ds, e => by
    unfold goodL at e
    rw [Bool.and_eq_true] at e
    unfold okBs
    rw [good_okB j e.1, goodL_okB j e.2]; rfl
end
/-- the frame's own cell is gone -/
theorem fin_cut {n : Nat} {l : List D} {B : Mem} {o : MO} (hB : B.length = n) (ha : AllSrc B) (hd : okB n (.tup l) = true) : fin n (.ret (.tup l) (B ++ [o])) = .ok (.tup l) B := by
  have ht : (B ++ [o]).take n = B := by rw [← hB, List.take_left]
  show finD n (.tup l) (B ++ [o]) = _
  unfold finD
  rw [if_neg (by simp; omega), if_pos ⟨by simp; omega, by rw [ht]; exact ha.ok n⟩]
  show (if okB n (.tup l) = true then Rs.ok (D.tup l) ((B ++ [o]).take n) else .stuck) = _
  rw [if_pos hd, ht]
theorem drw_app {n : Nat} {B : Mem} {o : MO} {M' : Mem} (d : Drw n (B ++ [o]) M') (hn : n < B.length) : ∃ B', M' = B' ++ [o] ∧ B'.length = B.length ∧ Drw n B B' := by
  have hl := d.len
  rw [List.length_append, List.length_singleton] at hl
  have hlast : M'[B.length]? = some o := by
    rw [d.oth _ (by omega), List.getElem?_append_right (Nat.le_refl _)]; simp
  have hM : M' = M'.take B.length ++ [o] := by
    apply List.ext_getElem?
    intro i
    by_cases hi : i < B.length
    · rw [List.getElem?_append_left (by rw [List.length_take]; omega), List.getElem?_take_of_lt hi]
    · rw [List.getElem?_append_right (by rw [List.length_take]; omega)]
      have e : (M'.take B.length).length = B.length := by rw [List.length_take]; omega
      rw [e]
      by_cases h2 : i = B.length
      · subst h2; rw [hlast]; simp
      · rw [List.getElem?_eq_none (by omega), List.getElem?_eq_none (by simp; omega)]
  refine ⟨M'.take B.length, hM, by rw [List.length_take]; omega, by rw [List.length_take]; omega, fun i hi => ?_, ?_⟩
  · by_cases h : i < B.length
    · rw [List.getElem?_take_of_lt h, d.oth i hi, List.getElem?_append_left h]
    · rw [List.getElem?_eq_none (by rw [List.length_take]; omega), List.getElem?_eq_none (by omega)]
  · obtain ⟨x, y, h1, h2⟩ := d.src
    exact ⟨x, y, by rw [List.getElem?_take_of_lt hn]; exact h1, h2⟩
theorem src_app {n : Nat} {B : Mem} {o : MO} (h : SrcM B n) : SrcM (B ++ [o]) n := by
  obtain ⟨x, y, h1, h2⟩ := h
  have hn := (List.getElem?_eq_some_iff.mp h1).1
  exact ⟨x, y, by rw [List.getElem?_append_left hn]; exact h1, h2⟩
theorem SrcM.lt {M : Mem} {n : Nat} (h : SrcM M n) : n < M.length := by
  obtain ⟨x, y, h1, _⟩ := h
  exact (List.getElem?_eq_some_iff.mp h1).1
theorem app_last {B : Mem} {l : List D} {v : D} (hl : l.length < 100000) : appD (B ++ [.lst l]) (.loc B.length) v = some (B ++ [.lst (l ++ [v])]) := by
  unfold appD
  have h : (B ++ [MO.lst l])[B.length]? = some (.lst l) := by rw [List.getElem?_append_right (Nat.le_refl _)]; simp
  simp only [h, if_pos hl]
  congr 1
  rw [List.set_append_right _ _ (Nat.le_refl _)]
  simp
theorem isLst_last {B : Mem} {l : List D} : isLst (B ++ [.lst l]) (.loc B.length) = true := by
  have h : (B ++ [MO.lst l])[B.length]? = some (.lst l) := by rw [List.getElem?_append_right (Nat.le_refl _)]; simp
  show (match (B ++ [MO.lst l])[B.length]? with | some (.lst _) => true | _ => false) = true
  rw [h]
section
variable {Φ : Nat → List D → Mem → Rs D} {δ : Env} {M M1 M2 M3 : Mem}
theorem s_app {o e : T} {x y : D} {ss : Ss} (h1 : ev Φ o δ M = .ok x M1) (hl : isLst M1 x = true) (h2 : ev Φ e δ M1 = .ok y M2) (h3 : appD M2 x y = some M3) : exs Φ (.cons (.app o e) ss) δ M = exs Φ ss δ M3 := by
  conv => lhs; unfold exs
  unfold ex
  rw [h1]
  simp only [Rs.run_ok, if_pos hl, h2, h3, liftM_some, Rf.next_nx]
theorem s_nil : exs Φ .nil δ M = .nx δ M := by conv => lhs; unfold exs
theorem e_mk {e : T} {l : List D} (h : ev Φ e δ M = .ok (.lst l) M1) : ev Φ (.mk e) δ M = .ok (.loc M1.length) (M1 ++ [.lst l]) := by
  conv => lhs; unfold ev
  rw [h]; rfl
end
/-! ### shops -/
theorem tup_last {B : Mem} {l : List D} : callB (B ++ [.lst l]) .tuple [.loc B.length] = some (.tup l) := by
  have h : (B ++ [MO.lst l])[B.length]? = some (.lst l) := by rw [List.getElem?_append_right (Nat.le_refl _)]; simp
  show (asLT (B ++ [.lst l]) (.loc B.length)).map D.tup = _
  unfold asLT
  simp only [h]
  rfl
theorem shop_loop (k n : Nat) (δ0 : Env) (B0 : Mem) (h0 : getVar δ0 0 = some (.loc n)) (h3 : getVar δ0 3 = some (.loc B0.length)) (hl : δ0.length = 5) : ∀ (ds : List D) (δ : Env) (B : Mem) (l : List D), getVar δ 0 = some (.loc n) → getVar δ 3 = some (.loc B.length) → δ.length = 5 → SrcM B n → l.length + ds.length ≤ 3 → (∀ s ∈ l, shopB s = true) →
    ∃ δ' B' l', forGo (fun d δ M => match asgP (.nm 4) d δ with
      | some δ' => exs (callF FDS (k + 3)) (.cons (.app (.var 3) (.tup (.cons (.call j__law_choice (.cons (.var 0) (.cons (.lst (.cons (.con (.str "chip")) (.cons (.con (.str "cup")) .nil))) .nil))) (.cons (.call j__law_draw (.cons (.var 0) (.cons (.con (.int 3)) .nil))) (.cons (.call j__law_choice (.cons (.var 0) (.cons (.lst (.cons (.con (.int 1)) (.cons (.con (.int 2)) (.cons (.con (.int 4)) (.cons (.con (.int 6)) (.cons (.con (.int 9)) .nil)))))) .nil))) .nil))))) .nil) δ' M
      | none => .stuck) ds δ (B ++ [.lst l]) = .nx δ' (B' ++ [.lst l']) ∧ getVar δ' 3 = some (.loc B.length) ∧ getVar δ' 2 = getVar δ 2 ∧ B'.length = B.length ∧ l'.length ≤ 3 ∧ (∀ s ∈ l', shopB s = true) ∧ Drw n B B'
  | [], δ, B, l, g0, g3, gl, hs, hlen, hl => ⟨δ, B, l, rfl, g3, rfl, rfl, by simp at hlen; omega, hl, Drw.refl hs⟩
  | d :: ds, δ, B, l, g0, g3, gl, hs, hlen, hall => by
    have gs : ∀ j : Nat, j ≠ 4 → getVar (δ.set 4 (some d)) j = getVar δ j := fun j hj => by unfold getVar; rw [List.getElem?_set_ne (fun e => hj e.symm)]
    obtain ⟨w, M1, a1, a2, a3⟩ := choice_spec (k + 1) n [.str "chip", .str "cup"] (B ++ [.lst l]) (src_app hs) (by simp) (by simp)
    obtain ⟨s, M2, b1, b2, b3, b4⟩ := draw_spec (k + 2) n 3 M1 a3.src (by decide) (by decide)
    obtain ⟨p, M3, c1, c2, c3⟩ := choice_spec (k + 1) n [.int 1, .int 2, .int 4, .int 6, .int 9] M2 b4.src (by simp) (by simp)
    have hw : wordB w = true := by
      simp only [List.mem_cons, List.not_mem_nil, or_false] at a2
      rcases a2 with rfl | rfl <;> decide +kernel
    have hp : isFrom p 0 9 = true := by
      simp only [List.mem_cons, List.not_mem_nil, or_false] at c2
      rcases c2 with rfl | rfl | rfl | rfl | rfl <;> rfl
    have hsh : shopB (.tup [w, .int s, p]) = true := by
      show (wordB w && isFrom (.int s) 0 2 && isFrom p 0 9) = true
      rw [hw, hp, isFrom_mk b2 (by omega)]; rfl
    obtain ⟨B', rfl, e1, e2⟩ := drw_app ((a3.trans b4).trans c3) hs.lt
    have step : exs (callF FDS (k + 3)) (.cons (.app (.var 3) (.tup (.cons (.call j__law_choice (.cons (.var 0) (.cons (.lst (.cons (.con (.str "chip")) (.cons (.con (.str "cup")) .nil))) .nil))) (.cons (.call j__law_draw (.cons (.var 0) (.cons (.con (.int 3)) .nil))) (.cons (.call j__law_choice (.cons (.var 0) (.cons (.lst (.cons (.con (.int 1)) (.cons (.con (.int 2)) (.cons (.con (.int 4)) (.cons (.con (.int 6)) (.cons (.con (.int 9)) .nil)))))) .nil))) .nil))))) .nil) (δ.set 4 (some d)) (B ++ [.lst l]) =
        .nx (δ.set 4 (some d)) (B' ++ [.lst (l ++ [.tup [w, .int s, p]])]) := by
      have g0' : getVar (δ.set 4 (some d)) 0 = some (.loc n) := (gs 0 (by decide)).trans g0
      have g3' : getVar (δ.set 4 (some d)) 3 = some (.loc B.length) := (gs 3 (by decide)).trans g3
      refine (s_app (e_var g3') isLst_last (e_tup (es_cons (e_call (es_cons (e_var g0') (es_cons (e_lst (es_cons e_con (es_cons e_con es_nil)) (by simp)) es_nil)) a1) (es_cons (e_call (es_cons (e_var g0') (es_cons e_con es_nil)) b1) (es_cons (e_call (es_cons (e_var g0') (es_cons (e_lst (es_cons e_con (es_cons e_con (es_cons e_con (es_cons e_con (es_cons e_con es_nil))))) (by simp)) es_nil)) c1) es_nil))) (by simp)) (M3 := B' ++ [.lst (l ++ [.tup [w, .int s, p]])]) ?_).trans s_nil
      rw [← e1]
      exact app_last (by simp at hlen; omega)
    simp only [List.length_cons] at hlen
    obtain ⟨δ', B2, l', r1, r2, r3, r4, r5, r6, r7⟩ := shop_loop k n δ0 B0 h0 h3 hl ds (δ.set 4 (some d)) B' (l ++ [.tup [w, .int s, p]]) ((gs 0 (by decide)).trans g0) (((gs 3 (by decide)).trans g3).trans (by rw [e1])) (by simp [gl]) e2.src (by simp; omega) (fun x hx => by
      rcases List.mem_append.mp hx with h | h
      · exact hall x h
      · have : x = .tup [w, .int s, p] := by simpa using h
        rw [this]; exact hsh)
    refine ⟨δ', B2, l', (forGo_cons step).trans ?_, ?_, r3.trans (gs 2 (by decide)), r4.trans e1, r5, r6, e2.trans r7⟩
    · rw [forK_nx]; exact r1
    · rw [r2, e1]
end CB
end
section
set_option maxHeartbeats 1000000
/-! P13: random fairs, lots; what they are drawn from. -/
namespace CB
open PySem
theorem good_from {m n : Nat} {d : D} {lo hi : Int} (h : isFrom d lo hi = true) : good m n d = true := by
  obtain ⟨i, rfl, _⟩ := isFrom_int h
  unfold good; rfl
theorem good_opt {m n : Nat} {d : D} (h : optB d = true) : good m n d = true := by
  cases d with
  | non => unfold good; rfl
  | int i => unfold good; rfl
  | _ => cases h
theorem good_takes {m n : Nat} {d : D} (hm : 3 ≤ m) (h : takesB d = true) : good m (n + 1) d = true := by
  cases d with
  | tup l =>
    have h : (decide (l.length ≤ 3) && l.all (fun d => isFrom d 0 2) && ascB l) = true := h
    simp only [Bool.and_eq_true, decide_eq_true_eq, List.all_eq_true] at h
    unfold good
    simp only [Bool.and_eq_true, decide_eq_true_eq]
    exact ⟨by omega, goodL_iff.mpr fun d hd => good_from (h.1.2 d hd)⟩
  | _ => cases h
theorem good_stand {m n : Nat} {d : D} (hm : 6 ≤ m) (h : standB d = true) : good m (n + 2) d = true := by
  unfold standB at h
  split at h
  · rename_i dep cup chip takes needs ref
    simp only [Bool.and_eq_true] at h
    obtain ⟨⟨⟨⟨⟨h1, h2⟩, h3⟩, h4⟩, h5⟩, h6⟩ := h
    unfold good
    simp only [Bool.and_eq_true, decide_eq_true_eq]
    refine ⟨by simp; omega, goodL_iff.mpr fun d hd => ?_⟩
    simp only [List.mem_cons, List.not_mem_nil, or_false] at hd
    rcases hd with rfl | rfl | rfl | rfl | rfl | rfl
    · exact good_from h1
    · exact good_from h3
    · exact good_opt h4
    · exact good_takes (by omega) h6
    · exact good_opt h5
    · exact good_from h2
  · cases h
theorem good_word {m n : Nat} {d : D} (h : wordB d = true) : good m n d = true := by
  rcases wordB_str h with rfl | rfl <;> (unfold good; decide +kernel)
theorem good_shop {m n : Nat} {d : D} (hm : 3 ≤ m) (h : shopB d = true) : good m (n + 1) d = true := by
  unfold shopB at h
  split at h
  · rename_i w s p
    simp only [Bool.and_eq_true] at h
    unfold good
    simp only [Bool.and_eq_true, decide_eq_true_eq]
    refine ⟨by simp; omega, goodL_iff.mpr fun d hd => ?_⟩
    simp only [List.mem_cons, List.not_mem_nil, or_false] at hd
    rcases hd with rfl | rfl | rfl
    · exact good_word h.1.1
    · exact good_from h.1.2
    · exact good_from h.2
  · cases h
theorem tupAll_of {v : D} {lo hi : Nat} {f : D → Bool} (h : tupAll v lo hi f = true) : ∃ l, v = .tup l ∧ lo ≤ l.length ∧ l.length ≤ hi ∧ ∀ d ∈ l, f d = true := by
  cases v with
  | tup l =>
    have h : (decide (lo ≤ l.length) && decide (l.length ≤ hi) && l.all f) = true := h
    simp only [Bool.and_eq_true, decide_eq_true_eq, List.all_eq_true] at h
    exact ⟨l, rfl, h.1.1, h.1.2, h.2⟩
  | _ => cases h
theorem fairB_of {v : D} (h : fairB v = true) : ∃ a b, v = .tup [.tup a, .tup b] ∧ 1 ≤ a.length ∧ a.length ≤ 4 ∧ (∀ d ∈ a, standB d = true) ∧ b.length ≤ 3 ∧ ∀ d ∈ b, shopB d = true := by
  unfold fairB at h
  split at h
  · rw [Bool.and_eq_true] at h
    obtain ⟨a, rfl, a1, a2, a3⟩ := tupAll_of h.1
    obtain ⟨b, rfl, b1, b2, b3⟩ := tupAll_of h.2
    exact ⟨a, b, rfl, a1, a2, a3, b2, b3⟩
  · cases h
theorem good_fair {m n : Nat} {v : D} (hm : 6 ≤ m) (h : fairB v = true) : good m (n + 4) v = true := by
  obtain ⟨a, b, rfl, a1, a2, a3, b2, b3⟩ := fairB_of h
  unfold good
  simp only [Bool.and_eq_true, decide_eq_true_eq]
  refine ⟨by simp; omega, goodL_iff.mpr fun d hd => ?_⟩
  simp only [List.mem_cons, List.not_mem_nil, or_false] at hd
  rcases hd with rfl | rfl
  · unfold good
    simp only [Bool.and_eq_true, decide_eq_true_eq]
    exact ⟨by omega, goodL_iff.mpr fun d hd => good_stand (by omega) (a3 d hd)⟩
  · unfold good
    simp only [Bool.and_eq_true, decide_eq_true_eq]
    exact ⟨by omega, goodL_iff.mpr fun d hd => good_shop (by omega) (b3 d hd)⟩
theorem fair_spec (k n : Nat) (most : Int) (M : Mem) (hs : SrcM M n) (ha : AllSrc M) (h1 : 1 ≤ most) (h4 : most ≤ 4) : ∃ d M', callF FDS (k + 4) j__law_fair [.loc n, .int most] M = .ok d M' ∧ fairB d = true ∧ Drw n M M' := by
  obtain ⟨r, M1, a1, a2, a3, a4⟩ := draw_spec (k + 2) n most M hs (by omega) (by omega)
  obtain ⟨q, rfl⟩ := Int.eq_ofNat_of_zero_le a2
  have hq : (q : Int) < most := by omega
  have hadd : ev (callF FDS (k + 3)) (.op2 .add (.con (.int 1)) (.call j__law_draw (.cons (.var 0) (.cons (.var 1) .nil)))) ([some (.loc n), some (.int most)] ++ List.replicate 3 none) M = .ok (.int ((1 + q : Nat) : Int)) M1 := by
    have e : ((1 + q : Nat) : Int) = 1 + (q : Int) := by omega
    rw [e]
    exact e_op2 e_con (e_call (es_cons (e_var rfl) (es_cons (e_var rfl) es_nil)) a1) rfl
  obtain ⟨l, M2, b1, b2, b3, b4⟩ := ev_lc_each (Φ := callF FDS (k + 3)) (δ := [some (.loc n), some (.int most)] ++ List.replicate 3 none) (M := M) (M1 := M1) (n := n) (i := 4) (it := .rng (.op2 .add (.con (.int 1)) (.call j__law_draw (.cons (.var 0) (.cons (.var 1) .nil)))))
    (e := .call j__law_stand (.cons (.var 0) .nil)) (own := [4]) (ds := rngL 0 (1 + q)) (Q := fun d => standB d = true) (i_rng hadd (by omega)) a4.src (by rw [rngL_len]; omega) fun d hd M hs => by
      obtain ⟨s, M', c1, c2, c3⟩ := stand_spec k n M hs
      exact ⟨s, M', e_call (es_cons (e_var rfl) es_nil) c1, c2, c3⟩
  rw [rngL_len] at b2
  have hd2 := a4.trans b4
  obtain ⟨c, M3, d1, d2, d3⟩ := choice_spec (k + 1) n [.int 0, .int 0, .int 1, .int 2, .int 3] (M2 ++ [.lst []]) (src_app b4.src) (by simp) (by simp)
  obtain ⟨B3, rfl, e1, e2⟩ := drw_app d3 b4.src.lt
  have hc : ∃ t : Nat, c = .int (t : Int) ∧ t ≤ 3 := by
    simp only [List.mem_cons, List.not_mem_nil, or_false] at d2
    rcases d2 with rfl | rfl | rfl | rfl | rfl
    · exact ⟨0, rfl, by omega⟩
    · exact ⟨0, rfl, by omega⟩
    · exact ⟨1, rfl, by omega⟩
    · exact ⟨2, rfl, by omega⟩
    · exact ⟨3, rfl, by omega⟩
  obtain ⟨t, rfl, ht⟩ := hc
  let δ : Env := (([some (.loc n), some (.int most)] ++ List.replicate 3 none : Env).set 2 (some (.tup l))).set 3 (some (.loc M2.length))
  obtain ⟨δ', B4, l', r1, r2, r3, r4, r5, r6, r7⟩ := shop_loop k n δ B3 rfl (by show some (D.loc M2.length) = _; rw [e1]) rfl (rngL 0 t) δ B3 [] rfl (by show some (D.loc M2.length) = _; rw [e1]) rfl e2.src (by rw [rngL_len]; simpa using ht) (by simp)
  have hall := (hd2.trans e2).trans r7
  have hf : fairB (.tup [.tup l, .tup l']) = true := by
    show (tupAll (.tup l) 1 4 standB && tupAll (.tup l') 0 3 shopB) = true
    have x1 : tupAll (.tup l) 1 4 standB = true := by
      show (decide (1 ≤ l.length) && decide (l.length ≤ 4) && l.all standB) = true
      rw [decide_eq_true (by omega), decide_eq_true (by omega), List.all_eq_true.mpr b3]; rfl
    have x2 : tupAll (.tup l') 0 3 shopB = true := by
      show (decide (0 ≤ l'.length) && decide (l'.length ≤ 3) && l'.all shopB) = true
      rw [decide_eq_true (by omega), decide_eq_true r5, List.all_eq_true.mpr r6]; rfl
    rw [x1, x2]; rfl
  refine ⟨.tup [.tup l, .tup l'], B4, ?_, hf, hall⟩
  rw [callF_at fds__law_fair rfl]
  show fin M.length (exs _ B__law_fair _ _) = _
  unfold B__law_fair
  refine fin_step (s_set (e_b (es_cons b1 es_nil) rfl)) ?_
  refine fin_step (s_set (e_mk (e_lst es_nil (by simp)))) ?_
  refine fin_step (s_for (i_rng (e_call (es_cons (e_var rfl) (es_cons (e_lst (es_cons e_con (es_cons e_con (es_cons e_con (es_cons e_con (es_cons e_con es_nil))))) (by simp)) es_nil)) d1) (by omega))) ?_
  refine fin_step (congrArg (fun r => Rf.next r _) r1) ?_
  have v3 : getVar δ' 3 = some (.loc B4.length) := by rw [r2, r4]
  have v2 : getVar δ' 2 = some (.tup l) := r3
  refine fin_step (s_ret (e_tup (es_cons (e_var v2) (es_cons (e_b (es_cons (e_var v3) es_nil) tup_last) es_nil)) (by simp))) ?_
  exact fin_cut hall.len (ha.drw hall) (good_okB _ (good_fair (m := 6) (n := 0) (by omega) hf))
/-- sorted things make a lot -/
theorem sort_lot2 : ∀ w ∈ [("chip" : Str), "cup"], ∀ w' ∈ [("chip" : Str), "cup"], ∀ i ∈ [(0 : Int), 1, 2], ∀ j ∈ [(0 : Int), 1, 2],
    (match sortD [.tup [.str w, .int i], .tup [.str w', .int j]] with | some l => lotB (.tup l) | none => false) = true := by
  decide +kernel
theorem sort_lot1 : ∀ w ∈ [("chip" : Str), "cup"], ∀ i ∈ [(0 : Int), 1, 2], (match sortD [.tup [.str w, .int i]] with | some l => lotB (.tup l) | none => false) = true := by
  decide +kernel
theorem sort_lot {l : List D} (hl : l.length ≤ 2) (h : ∀ d ∈ l, thingB d = true) : ∃ l', sortD l = some l' ∧ lotB (.tup l') = true := by
  have wm : ∀ {w : Str}, w = "chip" ∨ w = "cup" → w ∈ [("chip" : Str), "cup"] := fun h => by rcases h with rfl | rfl <;> simp
  have im : ∀ {i : Int}, 0 ≤ i → i ≤ 2 → i ∈ [(0 : Int), 1, 2] := fun h1 h2 => by
    simp only [List.mem_cons, List.not_mem_nil, or_false]; omega
  match l, hl, h with
  | [], _, _ => exact ⟨[], rfl, rfl⟩
  | [a], _, h =>
    obtain ⟨w, i, rfl, hw, y1, y2⟩ := thingB_of (h a (by simp))
    have q := sort_lot1 w (wm hw) i (im y1 y2)
    split at q
    · rename_i l' hl; exact ⟨l', hl, q⟩
    · cases q
  | [a, b], _, h =>
    obtain ⟨w, i, rfl, hw, y1, y2⟩ := thingB_of (h a (by simp))
    obtain ⟨w', j, rfl, hw', y3, y4⟩ := thingB_of (h b (by simp))
    have q := sort_lot2 w (wm hw) w' (wm hw') i (im y1 y2) j (im y3 y4)
    split at q
    · rename_i l' hl; exact ⟨l', hl, q⟩
    · cases q
theorem cut_to (l : List D) (r : Nat) : cutD l none (some (r : Int)) = l.take r := by
  unfold cutD
  rw [HT.sIx_none, show HT.sIx l.length l.length (some (r : Int)) = min r l.length from HT.sIx_nat l.length l.length r]
  rw [List.drop_zero, Nat.sub_zero]
  by_cases h : r ≤ l.length
  · rw [Nat.min_eq_left h]
  · rw [Nat.min_eq_right (by omega), List.take_of_length_le (by omega), List.take_of_length_le (by omega)]
theorem lot_spec (k n : Nat) (M : Mem) (hs : SrcM M n) : ∃ d M', callF FDS (k + 3) j__law_lot [.loc n, .int 2] M = .ok d M' ∧ lotB d = true ∧ Drw n M M' := by
  obtain ⟨l, M1, b1, b2, b3, b4⟩ := ev_lc_each (Φ := callF FDS (k + 2)) (δ := [some (.loc n), some (.int 2)] ++ List.replicate 2 none) (M := M) (M1 := M) (n := n) (i := 3) (it := .rng (.var 1)) (own := [3])
    (e := .tup (.cons (.call j__law_choice (.cons (.var 0) (.cons (.lst (.cons (.con (.str "chip")) (.cons (.con (.str "cup")) (.cons (.con (.str "cup")) .nil)))) .nil))) (.cons (.call j__law_draw (.cons (.var 0) (.cons (.con (.int 3)) .nil))) .nil)))
    (ds := rngL 0 2) (Q := fun d => thingB d = true) (i_rng (n := 2) (e_var rfl) (by omega)) hs (by rw [rngL_len]; omega) fun d hd M hs => by
      obtain ⟨w, M1, a1, a2, a3⟩ := choice_spec k n [.str "chip", .str "cup", .str "cup"] M hs (by simp) (by simp)
      obtain ⟨s, M2, c1, c2, c3, c4⟩ := draw_spec (k + 1) n 3 M1 a3.src (by decide) (by decide)
      refine ⟨.tup [w, .int s], M2, e_tup (es_cons (e_call (es_cons (e_var rfl) (es_cons (e_lst (es_cons e_con (es_cons e_con (es_cons e_con es_nil))) (by simp)) es_nil)) a1) (es_cons (e_call (es_cons (e_var rfl) (es_cons e_con es_nil)) c1) es_nil)) (by simp), ?_, a3.trans c4⟩
      show (wordB w && isFrom (.int s) 0 2) = true
      have hw : wordB w = true := by
        simp only [List.mem_cons, List.not_mem_nil, or_false] at a2
        rcases a2 with rfl | rfl | rfl <;> decide +kernel
      rw [hw, isFrom_mk c2 (by omega)]; rfl
  rw [rngL_len] at b2
  obtain ⟨r, M2, c1, c2, c3, c4⟩ := draw_spec (k + 1) n 3 M1 b4.src (by decide) (by decide)
  obtain ⟨q, rfl⟩ := Int.eq_ofNat_of_zero_le c2
  obtain ⟨l', s1, s2⟩ := sort_lot (l := l.take q) (by rw [List.length_take]; omega) fun d hd => b3 d (List.mem_of_mem_take hd)
  refine ⟨.tup l', M2, ?_, s2, b4.trans c4⟩
  rw [callF_at fds__law_lot rfl]
  show fin M.length (exs _ B__law_lot ([some (.loc n), some (.int 2)] ++ List.replicate 2 none) M) = _
  unfold B__law_lot
  refine fin_step (s_set b1) ?_
  refine fin_step (s_ret (e_b (es_cons (e_b (d := .lst l') (es_cons (e_slc (e_var rfl) o_no (o_yes (e_call (es_cons (e_var rfl) (es_cons (e_op2 (e_var rfl) e_con rfl) es_nil)) c1)) (show slc3 _ (.lst l) none (some (q : Int)) = some (.lst (l.take q)) by show some (D.lst (cutD l none (some (q : Int)))) = _; rw [cut_to])) es_nil) (by
    show (if (l.take q).length ≤ 1000 then (sortD (l.take q)).map D.lst else none) = _
    rw [if_pos (by rw [List.length_take]; omega), s1]; rfl)) es_nil) rfl)) ?_
  exact fin_ret_len (b4.trans c4).len
end CB
end
section
set_option maxHeartbeats 1000000
/-! P14: what is drawn from. -/
namespace CB
open PySem
theorem fin_own {n : Nat} {B : Mem} {l : List D} (hB : B.length = n) (ha : AllSrc B) (hd : okBs n l = true) : fin n (.ret (.loc n) (B ++ [MO.lst l])) = .ok (.loc n) (B ++ [MO.lst l]) := by
  have ht : (B ++ [MO.lst l]).take n = B := by rw [← hB, List.take_left]
  have hg : (B ++ [MO.lst l])[n]? = some (.lst l) := by rw [← hB, List.getElem?_append_right (Nat.le_refl _)]; simp
  show finD n (.loc n) (B ++ [MO.lst l]) = _
  unfold finD
  rw [if_neg (by simp; omega), if_pos ⟨by simp; omega, by rw [ht]; exact ha.ok n⟩]
  show (if n < n then Rs.ok (D.loc n) ((B ++ [MO.lst l]).take n) else match (B ++ [MO.lst l])[n]? with
    | some (.lst l') => if okBs n l' = true then .ok (.loc n) ((B ++ [MO.lst l]).take n ++ [.lst l']) else .stuck
    | _ => .stuck) = _
  rw [if_neg (Nat.lt_irrefl n), hg]
  show (if okBs n l = true then Rs.ok (D.loc n) ((B ++ [MO.lst l]).take n ++ [.lst l]) else .stuck) = _
  rw [if_pos hd, ht]
theorem source_spec (k j : Nat) (ns : List Int) (M : Mem) (ha : AllSrc M) (hj : j ≤ 1000) : ∃ x y : Int, callF FDS (k + 1) j__law_source [.scr ns, .int (j : Int)] M = .ok (.loc M.length) (M ++ [.lst [.int x, .int y]]) ∧ 0 ≤ y ∧ y < 2147483489 := by
  have hcell : ∃ c : Int, ev (callF FDS k) (.ite (.cmp .lt (.var 1) (.b .len (.cons (.var 0) .nil))) (.b .abs (.cons (.b .int (.cons (.op2 .ix (.var 0) (.var 1)) .nil)) .nil)) (.op2 .add (.op2 .mul (.con (.int 53)) (.var 1)) (.con (.int 7)))) [some (.scr ns), some (.int (j : Int)), none] M = .ok (.int c) M := by
    have hc : ev (callF FDS k) (.cmp .lt (.var 1) (.b .len (.cons (.var 0) .nil))) [some (.scr ns), some (.int (j : Int)), none] M = .ok (.bl (decide ((j : Int) < (ns.length : Int)))) M := e_cmp (e_var rfl) (e_b (d := .int (ns.length : Int)) (es_cons (e_var rfl) es_nil) rfl) rfl
    by_cases h : j < ns.length
    · have hi : op2 M .ix (.scr ns) (.int (j : Int)) = some (.int ns[j]) := by
        show ((L2.ixN ns.length (j : Int)).bind fun j => (ns[j]?).map D.int) = _
        rw [show L2.ixN ns.length (j : Int) = some j from by unfold L2.ixN; simp; omega]
        simp [h]
      refine ⟨if ns[j] < 0 then -ns[j] else ns[j], e_ite hc (fun _ => e_b (es_cons (e_b (es_cons (e_op2 (e_var rfl) (e_var rfl) hi) es_nil) rfl) es_nil) rfl) fun q => ?_⟩
      have := of_decide_eq_false q
      omega
    · refine ⟨53 * (j : Int) + 7, e_ite hc (fun q => ?_) fun _ => e_op2 (e_op2 e_con (e_var rfl) (mul_ok (by omega) (by omega))) e_con rfl⟩
      have := of_decide_eq_true q
      omega
  obtain ⟨c, hc⟩ := hcell
  refine ⟨if 10 ^ 17 < c then c else 0, (c * 16807 + 6007 * (j : Int) + 17) % 2147483489, ?_, Int.emod_nonneg _ (by decide), Int.emod_lt_of_pos _ (by decide)⟩
  rw [callF_at fds__law_source rfl]
  show fin M.length (exs _ B__law_source _ _) = _
  unfold B__law_source
  refine fin_step (s_set hc) ?_
  have h17 : ev (callF FDS k) (.cmp .gt (.var 2) (.op2 .pow (.con (.int 10)) (.con (.int 17)))) [some (.scr ns), some (.int (j : Int)), some (.int c)] M = .ok (.bl (decide ((10 : Int) ^ 17 < c))) M := e_cmp (e_var rfl) (e_op2 e_con e_con rfl) rfl
  have hx : ev (callF FDS k) (.ite (.cmp .gt (.var 2) (.op2 .pow (.con (.int 10)) (.con (.int 17)))) (.var 2) (.con (.int 0))) [some (.scr ns), some (.int (j : Int)), some (.int c)] M = .ok (.int (if (10 : Int) ^ 17 < c then c else 0)) M :=
    e_ite h17 (fun q => by rw [if_pos (of_decide_eq_true q)]; exact e_var rfl) fun q => by rw [if_neg (of_decide_eq_false q)]; exact e_con
  refine fin_step (s_ret (e_mk (e_lst (es_cons hx (es_cons (e_op2 (e_b (es_cons (e_op2 (e_op2 (e_op2 (e_var rfl) e_con (mul_ok (by decide) (by decide))) (e_op2 e_con (e_var rfl) (mul_ok (by omega) (by omega))) rfl) e_con rfl) es_nil) rfl) e_con (mod_ok (by decide))) es_nil)) (by simp)))) ?_
  exact fin_own rfl ha rfl
end CB
end
section
set_option maxHeartbeats 1000000
/-! P15: a value with one part bent. -/
namespace CB
open PySem
theorem eq_nilT {m n : Nat} {l : List D} (M : Mem) (h : goodL m n l = true) (hn : n ≤ 60) : eq2 M (.tup l) (.tup []) = some l.isEmpty := by
  obtain ⟨p, h1, h2⟩ := good_pdM (m := max m l.length) (n := n + 1) (d := .tup l) M (by unfold good; rw [Bool.and_eq_true]; exact ⟨decide_eq_true (by omega), goodL_mono (Nat.le_refl _) (by omega) h⟩) (by omega)
  unfold eq2
  rw [h2]
  have e0 : pdM M (.tup []) = some (.tuple []) := rfl
  rw [e0]
  unfold D.pd at h1
  cases q : pdL l with
  | none => rw [q] at h1; cases h1
  | some ps =>
    rw [q] at h1
    cases h1
    have := pdL_len q
    cases l with
    | nil => cases ps with
      | nil => rfl
      | cons _ _ => simp at this
    | cons d ds => cases ps with
      | nil => simp at this
      | cons _ _ => rfl
theorem cut_from (l : List D) (r : Nat) : cutD l (some (r : Int)) none = l.drop r := by
  unfold cutD
  rw [HT.sIx_none, show HT.sIx l.length 0 (some (r : Int)) = min r l.length from HT.sIx_nat l.length 0 r]
  by_cases h : r ≤ l.length
  · rw [Nat.min_eq_left h, List.take_of_length_le (by rw [List.length_drop]; omega)]
  · rw [Nat.min_eq_right (by omega), List.drop_of_length_le (Nat.le_refl _), List.drop_of_length_le (by omega), List.take_nil]
def bentSome : List D := [.non, .bl true, .bl false, .int 0, .int 1, .int 2, .int 3, .int 9, .int 10, .int (-1), .str "", .str "cup", .str "chip", .tup [], .lst [], .tup [.int 0], .tup [.int 1, .int 0], .tup [.int 2, .int 2], .tup [.str "cup", .int 0], .tup [.str "chip", .int 3], .tup [.str "Cup", .int 1], .int (10 ^ 30), .bl true, .non]
theorem bentSome_good {m n : Nat} (hm : 2 ≤ m) : ∀ d ∈ bentSome, good m (n + 1) d = true := by
  have h : bentSome.all (good 2 1) = true := by decide +kernel
  intro d hd
  exact good_mono (by omega) hm (List.all_eq_true.mp h d hd)
section
variable {Φ : Nat → List D → Mem → Rs D} {δ : Env} {M M1 : Mem}
theorem cut_lo {e t : T} {l : List D} {r : Nat} (h : ev Φ e δ M = .ok (.tup l) M) (h2 : ev Φ t δ M = .ok (.int (r : Int)) M) : ev Φ (.slc e .no (.yes t)) δ M = .ok (.tup (l.take r)) M :=
  e_slc h o_no (o_yes h2) (by show some (D.tup (cutD l none (some (r : Int)))) = _; rw [cut_to])
theorem cut_hi {e t : T} {l : List D} {r : Nat} (h : ev Φ e δ M = .ok (.tup l) M) (h2 : ev Φ t δ M = .ok (.int (r : Int)) M) : ev Φ (.slc e (.yes t) .no) δ M = .ok (.tup (l.drop r)) M :=
  e_slc h (o_yes h2) o_no (by show some (D.tup (cutD l (some (r : Int)) none)) = _; rw [cut_from])
end
theorem good_L {m n : Nat} {l : List D} (h : l.length ≤ m) (h2 : ∀ d ∈ l, good m n d = true) : good m (n + 1) (.tup l) = true := by
  unfold good
  rw [Bool.and_eq_true]
  exact ⟨decide_eq_true h, goodL_iff.mpr h2⟩
theorem bent_step (n m K c : Nat) (hm : 2 ≤ m) (hmm : m ≤ 50) (hc : c ≤ 50) (hrec : ∀ c', c = c' + 1 → ∀ d M, SrcM M n → good m c' d = true → ∃ d' M', callF FDS (K + 2) j__law_bent [.loc n, d] M = .ok d' M' ∧ good (m + 1) (c' + 1) d' = true ∧ Drw n M M')
    (v : D) (M : Mem) (hs : SrcM M n) (hv : good m c v = true) : ∃ d M', callF FDS (K + 3) j__law_bent [.loc n, v] M = .ok d M' ∧ good (m + 1) (c + 1) d = true ∧ Drw n M M' := by
  obtain ⟨w, M1, a1, a2, a3, a4⟩ := draw_spec (K + 1) n 7 M hs (by decide) (by decide)
  have hset : ev (callF FDS (K + 2)) (.call j__law_draw (.cons (.var 0) (.cons (.con (.int 7)) .nil))) ([some (D.loc n), some v] ++ List.replicate 3 none) M = .ok (.int w) M1 := e_call (es_cons (e_var rfl) (es_cons e_con es_nil)) a1
  have hv1 : ev (callF FDS (K + 2)) (.var 1) (([some (D.loc n), some v] ++ List.replicate 3 none).set 2 (some (.int w))) M1 = .ok v M1 := e_var rfl
  have hcond : ∃ t, ev (callF FDS (K + 2)) (.and (.isi (.var 1) .tuple) (.and (.cmp .ne (.var 1) (.tup .nil)) (.cmp .gt (.var 2) (.con (.int 0))))) (([some (D.loc n), some v] ++ List.replicate 3 none).set 2 (some (.int w))) M1 = .ok (.bl t) M1 ∧ (t = true → ∃ l, v = .tup l ∧ l ≠ []) := by
    by_cases hT : isTupD v = false
    · refine ⟨isTupD v && true, e_and (e_isi hv1 (isTupD_of M1 (good_Pl hv))) fun q => ?_, fun q => ?_⟩
      · rw [hT] at q; cases q
      · rw [hT] at q; cases q
    · obtain ⟨l, rfl⟩ : ∃ l, v = .tup l := by
        cases v with
        | tup l => exact ⟨l, rfl⟩
        | _ => exact absurd rfl hT
      obtain ⟨c', rfl, h1, h2⟩ := good_tup hv
      refine ⟨true && (!l.isEmpty && decide (0 < w)), e_and (e_isi hv1 rfl) fun _ => e_and (e_cmp hv1 (e_tup es_nil (by simp)) (show (eq2 M1 (.tup l) (.tup [])).map (! ·) = _ by rw [eq_nilT M1 h2 (by omega)]; rfl)) fun _ => e_cmp (e_var rfl) e_con rfl, fun q => ⟨l, rfl, fun e => ?_⟩⟩
      subst e
      cases q
  obtain ⟨t, hcond, htup⟩ := hcond
  have hgo : ∀ {d M'}, exs (callF FDS (K + 2)) B__law_bent ([some (D.loc n), some v] ++ List.replicate 3 none) M = .ret d M' → Drw n M M' → callF FDS (K + 3) j__law_bent [.loc n, v] M = .ok d M' := fun {d M'} h h2 => by
    rw [callF_at fds__law_bent rfl]
    show fin M.length (exs _ B__law_bent ([some (D.loc n), some v] ++ List.replicate 3 none) M) = _
    rw [h]
    exact fin_ret_len h2.len
  by_cases ht : t = false
  · subst ht
    obtain ⟨d, M2, b1, b2, b3⟩ := choice_spec K n bentSome M1 a4.src (by simp [bentSome]) (by simp [bentSome])
    refine ⟨d, M2, hgo ?_ (a4.trans b3), bentSome_good (by omega) d b2, a4.trans b3⟩
    unfold B__law_bent
    refine (s_set hset).trans ((s_ite hcond).trans ?_)
    rw [if_neg (by decide), s_nil, Rf.next_nx]
    refine (s_set (d := .lst (bentSome.take 18)) (e_lst (es_cons e_con (es_cons e_con (es_cons e_con (es_cons e_con (es_cons e_con (es_cons e_con (es_cons e_con (es_cons e_con (es_cons e_con (es_cons rfl (es_cons e_con (es_cons e_con (es_cons e_con (es_cons rfl (es_cons rfl (es_cons rfl (es_cons rfl (es_cons rfl es_nil)))))))))))))))))) (by simp [bentSome]))).trans ?_
    exact s_ret (e_call (es_cons (e_var rfl) (es_cons (e_op2 (y := .lst (bentSome.drop 18)) (e_var rfl) (e_lst (es_cons rfl (es_cons rfl (es_cons rfl (es_cons (e_op2 e_con e_con rfl) (es_cons e_con (es_cons e_con es_nil)))))) (by simp [bentSome])) rfl) es_nil)) b1)
  · rw [Bool.not_eq_false] at ht
    subst ht
    obtain ⟨l, rfl, hl⟩ := htup rfl
    obtain ⟨c', rfl, h1, h2⟩ := good_tup hv
    have hpos : 0 < l.length := List.length_pos_iff.mpr hl
    obtain ⟨r, M2, b1, b2, b3, b4⟩ := draw_spec (K + 1) n (l.length : Int) M1 a4.src (by omega) (by omega)
    obtain ⟨r, rfl⟩ := Int.eq_ofNat_of_zero_le b2
    have hr : r < l.length := by omega
    have hat : ev (callF FDS (K + 2)) (.call j__law_draw (.cons (.var 0) (.cons (.b .len (.cons (.var 1) .nil)) .nil))) (([some (D.loc n), some (D.tup l)] ++ List.replicate 3 none).set 2 (some (.int w))) M1 = .ok (.int (r : Int)) M2 := e_call (es_cons (e_var rfl) (es_cons (e_b (es_cons (e_var rfl) es_nil) rfl) es_nil)) b1
    have hml : ∀ d ∈ l, good (m + 1) (c' + 1) d = true := fun d hd => good_mono (by omega) (by omega) (goodL_iff.mp h2 d hd)
    by_cases hw1 : w = 1
    · subst hw1
      refine ⟨.tup (l.take r ++ l.drop (r + 1)), M2, hgo ?_ (a4.trans b4), good_L (by simp; omega) (fun d hd => ?_), a4.trans b4⟩
      · unfold B__law_bent
        refine (s_set hset).trans ((s_ite hcond).trans ?_)
        rw [if_pos rfl, s_set hat, s_ite (t := true) (e_cmp (e_var rfl) e_con rfl), if_pos rfl, s_ret (e_op2 (cut_lo (r := r) (e_var rfl) (e_var rfl)) (cut_hi (r := r + 1) (e_var rfl) (e_op2 (e_var rfl) e_con rfl)) (?_ : op2 M2 .add (.tup (l.take r)) (.tup (l.drop (r + 1))) = some (.tup (l.take r ++ l.drop (r + 1)))))]
        · rfl
        · show (if (l.take r).length + (l.drop (r + 1)).length ≤ lineN then _ else _) = _
          rw [if_pos (by simp [lineN]; omega)]
      · rcases List.mem_append.mp hd with h | h
        · exact hml d (List.mem_of_mem_take h)
        · exact hml d (List.mem_of_mem_drop h)
    · by_cases hw2 : w = 2
      · subst hw2
        refine ⟨.tup (l.take (r + 1) ++ l.drop r), M2, hgo ?_ (a4.trans b4), good_L (by simp; omega) (fun d hd => ?_), a4.trans b4⟩
        · unfold B__law_bent
          refine (s_set hset).trans ((s_ite hcond).trans ?_)
          rw [if_pos rfl, s_set hat, s_ite (t := false) (e_cmp (e_var rfl) e_con rfl), if_neg (by decide), s_nil, Rf.next_nx, s_ite (t := true) (e_cmp (e_var rfl) e_con rfl), if_pos rfl, s_ret (e_op2 (cut_lo (r := r + 1) (e_var rfl) (e_op2 (e_var rfl) e_con rfl)) (cut_hi (r := r) (e_var rfl) (e_var rfl)) (?_ : op2 M2 .add (.tup (l.take (r + 1))) (.tup (l.drop r)) = some (.tup (l.take (r + 1) ++ l.drop r))))]
          · rfl
          · show (if (l.take (r + 1)).length + (l.drop r).length ≤ lineN then _ else _) = _
            rw [if_pos (by simp [lineN]; omega)]
        · rcases List.mem_append.mp hd with h | h
          · exact hml d (List.mem_of_mem_take h)
          · exact hml d (List.mem_of_mem_drop h)
      · obtain ⟨d', M3, e1, e2, e3⟩ := hrec c' rfl l[r] M2 b4.src (goodL_iff.mp h2 _ (List.getElem_mem hr))
        refine ⟨.tup (l.take r ++ [d'] ++ l.drop (r + 1)), M3, hgo ?_ ((a4.trans b4).trans e3), good_L (by simp; omega) (fun d hd => ?_), (a4.trans b4).trans e3⟩
        · unfold B__law_bent
          refine (s_set hset).trans ((s_ite hcond).trans ?_)
          have hix : op2 M2 .ix (.tup l) (.int (r : Int)) = some l[r] := by
            show atL l (r : Int) = _
            unfold atL
            rw [show L2.ixN l.length (r : Int) = some r from by unfold L2.ixN; simp; omega]
            exact List.getElem?_eq_getElem hr
          rw [if_pos rfl, s_set hat, s_ite (t := decide (w = 1)) (e_cmp (e_var rfl) e_con ?_), if_neg (by simp [hw1]), s_nil, Rf.next_nx, s_ite (t := decide (w = 2)) (e_cmp (e_var rfl) e_con ?_), if_neg (by simp [hw2]), s_nil, Rf.next_nx, s_ret (e_op2 (e_op2 (cut_lo (r := r) (e_var rfl) (e_var rfl)) (e_tup (es_cons (e_call (es_cons (e_var rfl) (es_cons (e_op2 (e_var rfl) (e_var rfl) hix) es_nil)) e1) es_nil) (by simp)) (?_ : op2 M3 .add (.tup (l.take r)) (.tup [d']) = some (.tup (l.take r ++ [d'])))) (cut_hi (r := r + 1) (e_var rfl) (e_op2 (e_var rfl) e_con rfl)) (?_ : op2 M3 .add (.tup (l.take r ++ [d'])) (.tup (l.drop (r + 1))) = some (.tup (l.take r ++ [d'] ++ l.drop (r + 1)))))]
          · rfl
          · show (if (l.take r).length + [d'].length ≤ lineN then _ else _) = _
            rw [if_pos (by simp [lineN]; omega)]
          · show (if (l.take r ++ [d']).length + (l.drop (r + 1)).length ≤ lineN then _ else _) = _
            rw [if_pos (by simp [lineN]; omega)]
          · rfl
          · rfl
        · rcases List.mem_append.mp hd with h | h
          · rcases List.mem_append.mp h with h | h
            · exact hml d (List.mem_of_mem_take h)
            · have : d = d' := by simpa using h
              rw [this]; exact e2
          · exact hml d (List.mem_of_mem_drop h)
theorem bent_spec (n m k : Nat) (hm : 2 ≤ m) (hmm : m ≤ 50) : ∀ (c : Nat), c ≤ 50 → ∀ (v : D) (M : Mem), SrcM M n → good m c v = true →
    ∃ d M', callF FDS (c + k + 3) j__law_bent [.loc n, v] M = .ok d M' ∧ good (m + 1) (c + 1) d = true ∧ Drw n M M' := by
  intro c
  induction c with
  | zero => exact fun hc v M hs hv => bent_step n m (0 + k) 0 hm hmm hc (fun c' e => by omega) v M hs hv
  | succ c ih => exact fun hc v M hs hv => bent_step n m (c + 1 + k) (c + 1) hm hmm hc (fun c' e d M hs hd => by
      obtain rfl : c = c' := by omega
      have e2 : c + 1 + k + 2 = c + k + 3 := by omega
      rw [e2]
      exact ih (by omega) d M hs hd) v M hs hv
end CB
end
section
set_option maxHeartbeats 1000000
/-! P16: deeds as numbers; sorting them. -/
namespace CB
open PySem
/-- buy i, give n s, take n as one number each, in the order of the deeds -/
def dd (c : Nat) : D := if c < 100 then .tup [.str "buy", .int (c : Int)] else if c < 1000 then .tup [.str "give", .int (((c - 100) / 10 : Nat) : Int), .int (((c - 100) % 10 : Nat) : Int)] else .tup [.str "take", .int ((c - 1000 : Nat) : Int)]
def codes : List Nat := [0, 1, 2, 100, 101, 102, 110, 111, 112, 120, 121, 122, 130, 131, 132, 1000, 1001, 1002, 1003]
theorem codes_lt : ∀ c ∈ codes, ∀ c' ∈ codes, ltD (dd c) (dd c') = some (decide (c < c')) := by decide +kernel
theorem codes_same : ∀ c ∈ codes, ∀ c' ∈ codes, sameD (dd c) (dd c') = decide (c = c') := by decide +kernel
theorem codes_head : ∀ c ∈ codes, headK (dd c) = 4 := by decide +kernel
theorem codes_good : ∀ c ∈ codes, good 3 1 (dd c) = true := by decide +kernel
def insN (x : Nat) : List Nat → List Nat
  | [] => [x]
  | y :: r => if x < y then x :: y :: r else y :: insN x r
def srtN : List Nat → List Nat
  | [] => []
  | x :: r => insN x (srtN r)
theorem insN_perm (x : Nat) : ∀ l, (insN x l).Perm (x :: l)
  | [] => List.Perm.refl _
  | y :: r => by
    unfold insN
    split
    · exact List.Perm.refl _
    · exact ((insN_perm x r).cons y).trans (List.Perm.swap x y r)
theorem srtN_perm : ∀ l, (srtN l).Perm l
  | [] => List.Perm.refl _
  | x :: r => (insN_perm x (srtN r)).trans ((srtN_perm r).cons x)
theorem insN_asc (x : Nat) : ∀ l, l.Pairwise (· ≤ ·) → (insN x l).Pairwise (· ≤ ·)
  | [], _ => by simp [insN]
  | y :: r, h => by
    have h' := List.pairwise_cons.mp h
    unfold insN
    split
    · rename_i hx
      refine List.pairwise_cons.mpr ⟨fun z hz => ?_, h⟩
      rcases List.mem_cons.mp hz with e | e
      · omega
      · exact Nat.le_trans (Nat.le_of_lt hx) (h'.1 z e)
    · rename_i hx
      refine List.pairwise_cons.mpr ⟨fun z hz => ?_, insN_asc x r h'.2⟩
      rcases List.mem_cons.mp ((insN_perm x r).mem_iff.mp hz) with e | e
      · omega
      · exact h'.1 z e
theorem srtN_asc : ∀ l, (srtN l).Pairwise (· ≤ ·)
  | [] => List.Pairwise.nil
  | x :: r => insN_asc x _ (srtN_asc r)
theorem insD_codes {x : Nat} (hx : x ∈ codes) : ∀ {l : List Nat}, (∀ c ∈ l, c ∈ codes) → insD (dd x) (l.map dd) = some ((insN x l).map dd)
  | [], _ => rfl
  | y :: r, h => by
    rw [List.map_cons]
    unfold insD insN
    rw [codes_lt x hx y (h y (by simp))]
    by_cases e : x < y
    · rw [decide_eq_true e, if_pos e]; rfl
    · rw [decide_eq_false e, if_neg e]
      show (insD (dd x) (r.map dd)).map (dd y :: ·) = _
      rw [insD_codes hx fun c hc => h c (List.mem_cons_of_mem _ hc)]; rfl
theorem sortU_codes : ∀ {l : List Nat}, (∀ c ∈ l, c ∈ codes) → sortU (l.map dd) = some ((srtN l).map dd)
  | [], _ => rfl
  | x :: r, h => by
    rw [List.map_cons]
    unfold sortU srtN
    rw [sortU_codes fun c hc => h c (List.mem_cons_of_mem _ hc)]
    exact insD_codes (h x (by simp)) fun c hc => h c (List.mem_cons_of_mem _ ((srtN_perm r).mem_iff.mp hc))
theorem okTo_codes {x : Nat} (hx : x ∈ codes) : ∀ {l : List Nat}, (∀ c ∈ l, c ∈ codes ∧ x < c) → okTo (dd x) (l.map dd) = true
  | [], _ => rfl
  | y :: r, h => by
    obtain ⟨hy, hlt⟩ := h y (by simp)
    rw [List.map_cons]
    unfold okTo
    rw [codes_same x hx y hy, codes_lt x hx y hy, codes_lt y hy x hx, okTo_codes hx fun c hc => h c (List.mem_cons_of_mem _ hc), decide_eq_true hlt, decide_eq_false (by omega : ¬ x = y), decide_eq_false (by omega : ¬ y < x)]
    rfl
theorem okAll_codes : ∀ {l : List Nat}, (∀ c ∈ l, c ∈ codes) → l.Pairwise (· < ·) → okAll (l.map dd) = true
  | [], _, _ => rfl
  | x :: r, h, hp => by
    have hp' := List.pairwise_cons.mp hp
    have hx := h x (by simp)
    rw [List.map_cons]
    unfold okAll
    rw [codes_same x hx x hx, codes_lt x hx x hx, okTo_codes hx fun c hc => ⟨h c (List.mem_cons_of_mem _ hc), hp'.1 c hc⟩, okAll_codes (fun c hc => h c (List.mem_cons_of_mem _ hc)) hp'.2, decide_eq_true rfl, decide_eq_false (Nat.lt_irrefl x)]
    rfl
theorem kindOk_codes : ∀ {l : List Nat}, (∀ c ∈ l, c ∈ codes) → kindOk (l.map dd) = true
  | [], _ => rfl
  | [_], _ => rfl
  | x :: y :: r, h => by
    have hx := codes_head x (h x (by simp))
    show (headK (dd x) != 0 && ((y :: r).map dd).all (fun z => headK z == headK (dd x))) = true
    rw [hx, Bool.and_eq_true]
    refine ⟨rfl, List.all_eq_true.mpr fun z hz => ?_⟩
    obtain ⟨c, hc, rfl⟩ := List.mem_map.mp hz
    rw [codes_head c (h c (List.mem_cons_of_mem _ hc))]; rfl
theorem sort_codes {cs r : List Nat} (hc : ∀ c ∈ cs, c ∈ codes) (hp : cs.Perm r) (hr : r.Pairwise (· < ·)) : sortD (cs.map dd) = some (r.map dd) := by
  have e : srtN cs = r := sorted_uniq (srtN_asc cs) (hr.imp Nat.le_of_lt) ((srtN_perm cs).trans hp)
  unfold sortD
  rw [if_pos (kindOk_codes hc), sortU_codes hc, e]
  show (if okAll (r.map dd) = true then some (r.map dd) else none) = _
  rw [if_pos (okAll_codes (fun c h => hc c (hp.mem_iff.mpr h)) hr)]
theorem eq2_same {m n : Nat} {d : D} (M : Mem) (h : good m n d = true) (hn : n ≤ 60) : eq2 M d d = some true := by
  obtain ⟨p, h1, h2⟩ := good_pdM M h (by omega)
  obtain ⟨p', h3, h4, _⟩ := good_pd h
  rw [h1] at h3
  cases h3
  unfold eq2
  rw [h2]
  show some (PyData.eqv p p) = some true
  rw [PySem.SeqAt.eqv_refl p h4]
end CB
end
section
set_option maxHeartbeats 1000000
/-! P17: fairs as plain Lean data; their deeds as numbers. -/
namespace CB
open PySem
structure Sd where
  dep : Nat
  cup : Nat
  chip : Option Nat
  takes : List Nat
  needs : Option Nat
  ref : Nat
def nD (n : Nat) : D := .int (n : Int)
def oD : Option Nat → D
  | none => .non
  | some n => nD n
def Sd.d (s : Sd) : D := .tup [nD s.dep, nD s.cup, oD s.chip, .tup (s.takes.map nD), oD s.needs, nD s.ref]
structure Sd.ok (s : Sd) : Prop where
  dep : s.dep ≤ 9
  cup : s.cup ≤ 2
  chip : ∀ x ∈ s.chip, x ≤ 2
  needs : ∀ x ∈ s.needs, x ≤ 2
  takes : ∀ x ∈ s.takes, x ≤ 2
  asc : s.takes.Pairwise (· < ·)
  ref : s.ref ≤ 9
  len : s.takes.length ≤ 3
theorem nat_of {d : D} {hi : Nat} (h : isFrom d 0 (hi : Int) = true) : ∃ n, d = nD n ∧ n ≤ hi := by
  obtain ⟨i, rfl, h1, h2⟩ := isFrom_int h
  obtain ⟨n, rfl⟩ := Int.eq_ofNat_of_zero_le h1
  exact ⟨n, rfl, by omega⟩
theorem opt_of {d : D} (h : optB d = true) : ∃ o : Option Nat, d = oD o ∧ ∀ x ∈ o, x ≤ 2 := by
  cases d with
  | non => exact ⟨none, rfl, by simp⟩
  | int i =>
    have h : isFrom (.int i) 0 ((2 : Nat) : Int) = true := h
    obtain ⟨n, e, hn⟩ := nat_of h
    exact ⟨some n, e, by simpa using hn⟩
  | _ => cases h
theorem nats_of : ∀ {l : List D}, (∀ d ∈ l, isFrom d 0 2 = true) → ∃ ns : List Nat, l = ns.map nD ∧ ∀ x ∈ ns, x ≤ 2
  | [], _ => ⟨[], rfl, by simp⟩
  | d :: l, h => by
    obtain ⟨n, rfl, hn⟩ := nat_of (hi := 2) (h d (by simp))
    obtain ⟨ns, rfl, hns⟩ := nats_of fun d hd => h d (List.mem_cons_of_mem _ hd)
    exact ⟨n :: ns, rfl, fun x hx => by
      rcases List.mem_cons.mp hx with e | e
      · omega
      · exact hns x e⟩
theorem map_nD (ns : List Nat) : ns.map nD = (ns.map fun n : Nat => (n : Int)).map D.int := by rw [List.map_map]; rfl
theorem stand_of {d : D} (h : standB d = true) : ∃ s : Sd, d = s.d ∧ s.ok := by
  unfold standB at h
  split at h
  · rename_i dep cup chip takes needs ref
    simp only [Bool.and_eq_true] at h
    obtain ⟨⟨⟨⟨⟨h1, h2⟩, h3⟩, h4⟩, h5⟩, h6⟩ := h
    obtain ⟨dep, rfl, e1⟩ := nat_of (hi := 9) h1
    obtain ⟨ref, rfl, e2⟩ := nat_of (hi := 9) h2
    obtain ⟨cup, rfl, e3⟩ := nat_of (hi := 2) h3
    obtain ⟨chip, rfl, e4⟩ := opt_of h4
    obtain ⟨needs, rfl, e5⟩ := opt_of h5
    cases takes with
    | tup l =>
      have h6 : (decide (l.length ≤ 3) && l.all (fun d => isFrom d 0 2) && ascB l) = true := h6
      simp only [Bool.and_eq_true, decide_eq_true_eq, List.all_eq_true] at h6
      obtain ⟨ns, rfl, e6⟩ := nats_of h6.1.2
      refine ⟨⟨dep, cup, chip, ns, needs, ref⟩, rfl, e1, e3, e4, e5, e6, ?_, e2, by simpa using h6.1.1⟩
      have q := h6.2
      rw [map_nD, ascB_iff, List.pairwise_map] at q
      exact q.imp fun h => by omega
    | _ => cases h6
  · cases h
theorem stands_of : ∀ {l : List D}, (∀ d ∈ l, standB d = true) → ∃ ss : List Sd, l = ss.map Sd.d ∧ ∀ s ∈ ss, s.ok
  | [], _ => ⟨[], rfl, by simp⟩
  | d :: l, h => by
    obtain ⟨n, rfl, hn⟩ := stand_of (h d (by simp))
    obtain ⟨ns, rfl, hns⟩ := stands_of fun d hd => h d (List.mem_cons_of_mem _ hd)
    exact ⟨n :: ns, rfl, fun x hx => by
      rcases List.mem_cons.mp hx with e | e
      · rw [e]; exact hn
      · exact hns x e⟩
/-! ### the deeds -/
def giveC (n : Nat) (s : Sd) : List Nat := s.takes.map fun t => 100 + 10 * n + t
def givesC (n : Nat) : List Sd → List Nat
  | [] => []
  | s :: r => giveC n s ++ givesC (n + 1) r
def takesC (n : Nat) : List Sd → List Nat
  | [] => []
  | _ :: r => (1000 + n) :: takesC (n + 1) r
def lawC (n : Nat) : List Sd → List Nat
  | [] => []
  | s :: r => ((1000 + n) :: giveC n s) ++ lawC (n + 1) r
def deedC (ss : List Sd) (b : Nat) : List Nat := List.range b ++ givesC 0 ss ++ takesC 0 ss
theorem lawC_perm : ∀ (ss : List Sd) (n : Nat), (lawC n ss).Perm (givesC n ss ++ takesC n ss)
  | [], _ => List.Perm.refl _
  | s :: r, n => by
    show ((1000 + n) :: giveC n s ++ lawC (n + 1) r).Perm (giveC n s ++ givesC (n + 1) r ++ (1000 + n) :: takesC (n + 1) r)
    rw [List.cons_append]
    refine List.Perm.trans (((lawC_perm r (n + 1)).append_left (giveC n s)).cons _) ?_
    rw [← List.append_assoc]
    exact List.perm_middle.symm
theorem giveC_mem {n x : Nat} {s : Sd} (hs : s.ok) (h : x ∈ giveC n s) : 100 + 10 * n ≤ x ∧ x ≤ 102 + 10 * n := by
  obtain ⟨t, ht, rfl⟩ := List.mem_map.mp h
  have := hs.takes t ht
  omega
theorem givesC_mem : ∀ {ss : List Sd} {n x : Nat}, (∀ s ∈ ss, s.ok) → x ∈ givesC n ss → ∃ i, n ≤ i ∧ i < n + ss.length ∧ 100 + 10 * i ≤ x ∧ x ≤ 102 + 10 * i
  | s :: r, n, x, h, hx => by
    rcases List.mem_append.mp hx with e | e
    · exact ⟨n, Nat.le_refl _, by simp, giveC_mem (h s (by simp)) e⟩
    · obtain ⟨i, h1, h2, h3⟩ := givesC_mem (fun s hs => h s (List.mem_cons_of_mem _ hs)) e
      exact ⟨i, by omega, by simp; omega, h3⟩
theorem takesC_mem : ∀ {ss : List Sd} {n x : Nat}, x ∈ takesC n ss → 1000 + n ≤ x ∧ x < 1000 + n + ss.length
  | s :: r, n, x, hx => by
    rcases List.mem_cons.mp hx with e | e
    · subst e; simp
    · have := takesC_mem e
      simp; omega
theorem givesC_asc : ∀ (ss : List Sd) (n : Nat), (∀ s ∈ ss, s.ok) → (givesC n ss).Pairwise (· < ·)
  | [], _, _ => List.Pairwise.nil
  | s :: r, n, h => by
    refine List.pairwise_append.mpr ⟨List.pairwise_map.mpr ((h s (by simp)).asc.imp fun h => by omega), givesC_asc r (n + 1) fun s hs => h s (List.mem_cons_of_mem _ hs), fun a ha b hb => ?_⟩
    have h1 := giveC_mem (h s (by simp)) ha
    obtain ⟨i, h2, _, h3, _⟩ := givesC_mem (fun s hs => h s (List.mem_cons_of_mem _ hs)) hb
    omega
theorem takesC_asc : ∀ (ss : List Sd) (n : Nat), (takesC n ss).Pairwise (· < ·)
  | [], _ => List.Pairwise.nil
  | s :: r, n => List.pairwise_cons.mpr ⟨fun x hx => by have := (takesC_mem hx).1; omega, takesC_asc r (n + 1)⟩
theorem range_asc : ∀ b : Nat, (List.range b).Pairwise (· < ·) := fun b => List.pairwise_lt_range
theorem deedC_asc {ss : List Sd} {b : Nat} (h : ∀ s ∈ ss, s.ok) (hl : ss.length ≤ 4) (hb : b ≤ 3) : (deedC ss b).Pairwise (· < ·) := by
  refine List.pairwise_append.mpr ⟨List.pairwise_append.mpr ⟨range_asc b, givesC_asc ss 0 h, fun x hx y hy => ?_⟩, takesC_asc ss 0, fun x hx y hy => ?_⟩
  · have := List.mem_range.mp hx
    obtain ⟨i, _, _, h3, _⟩ := givesC_mem h hy
    omega
  · have h2 := takesC_mem hy
    rcases List.mem_append.mp hx with e | e
    · have := List.mem_range.mp e
      omega
    · obtain ⟨i, _, h4, _, h3⟩ := givesC_mem h e
      omega
theorem code_buy {x : Nat} (h : x < 3) : x ∈ codes := by
  have : x = 0 ∨ x = 1 ∨ x = 2 := by omega
  rcases this with rfl | rfl | rfl <;> decide
theorem code_take {x : Nat} (h : 1000 ≤ x) (h2 : x < 1004) : x ∈ codes := by
  have : x = 1000 ∨ x = 1001 ∨ x = 1002 ∨ x = 1003 := by omega
  rcases this with rfl | rfl | rfl | rfl <;> decide
theorem code_give {x i : Nat} (h : i < 4) (h2 : 100 + 10 * i ≤ x) (h3 : x ≤ 102 + 10 * i) : x ∈ codes := by
  have : i = 0 ∨ i = 1 ∨ i = 2 ∨ i = 3 := by omega
  have : x = 100 + 10 * i ∨ x = 101 + 10 * i ∨ x = 102 + 10 * i := by omega
  rcases ‹i = 0 ∨ _› with rfl | rfl | rfl | rfl <;> rcases this with rfl | rfl | rfl <;> decide
theorem deedC_codes {ss : List Sd} {b : Nat} (h : ∀ s ∈ ss, s.ok) (hl : ss.length ≤ 4) (hb : b ≤ 3) : ∀ c ∈ deedC ss b, c ∈ codes := fun c hc => by
  rcases List.mem_append.mp hc with e | e
  · rcases List.mem_append.mp e with e | e
    · exact code_buy (by have := List.mem_range.mp e; omega)
    · obtain ⟨i, _, h2, h3, h4⟩ := givesC_mem h e
      exact code_give (by omega) h3 h4
  · have := takesC_mem e
    exact code_take (by omega) (by omega)
theorem law_sorted {ss : List Sd} {b : Nat} (h : ∀ s ∈ ss, s.ok) (hl : ss.length ≤ 4) (hb : b ≤ 3) : sortD ((List.range b ++ lawC 0 ss).map dd) = some ((deedC ss b).map dd) := by
  have hp : (List.range b ++ lawC 0 ss).Perm (deedC ss b) := by
    unfold deedC
    rw [List.append_assoc]
    exact (lawC_perm ss 0).append_left _
  exact sort_codes (fun c hc => deedC_codes h hl hb c (hp.mem_iff.mp hc)) hp (deedC_asc h hl hb)
end CB
end
section
set_option maxHeartbeats 1000000
/-! P18: the walks of every_deed, deeds, _law_deeds. -/
namespace CB
open PySem
def enumN (n : Nat) : List Sd → List D
  | [] => []
  | s :: r => .tup [nD n, s.d] :: enumN (n + 1) r
theorem enumN_eq : ∀ (ss : List Sd) (n : Nat), (List.range' n (ss.map Sd.d).length).zipWith (fun (i : Nat) (d : D) => D.tup [.int (i : Int), d]) (ss.map Sd.d) = enumN n ss
  | [], _ => rfl
  | s :: r, n => by
    rw [List.map_cons, List.length_cons, List.range'_succ, List.zipWith_cons_cons, enumN_eq r (n + 1)]; rfl
theorem enumL_sd (ss : List Sd) : enumL (ss.map Sd.d) = enumN 0 ss := by
  unfold enumL
  rw [List.range_eq_range', enumN_eq]
theorem dd_give {n t : Nat} (hn : n < 4) (ht : t ≤ 2) : dd (100 + 10 * n + t) = .tup [.str "give", nD n, nD t] := by
  unfold dd
  rw [if_neg (by omega), if_pos (by omega)]
  have h1 : (100 + 10 * n + t - 100) / 10 = n := by omega
  have h2 : (100 + 10 * n + t - 100) % 10 = t := by omega
  rw [h1, h2]; rfl
theorem dd_take {n : Nat} : dd (1000 + n) = .tup [.str "take", nD n] := by
  unfold dd
  rw [if_neg (by omega), if_neg (by omega)]
  have h1 : 1000 + n - 1000 = n := by omega
  rw [h1]; rfl
theorem dd_buy {n : Nat} (h : n < 100) : dd n = .tup [.str "buy", nD n] := by
  unfold dd
  rw [if_pos h]; rfl
theorem giveC_map {n : Nat} {s : Sd} (hn : n < 4) (hs : s.ok) : ((s.takes.map nD).map fun d => D.tup [.str "give", nD n, d]) = (giveC n s).map dd := by
  unfold giveC
  rw [List.map_map, List.map_map]
  refine List.map_congr_left fun t ht => ?_
  exact (dd_give hn (hs.takes t ht)).symm
theorem rng_nD (b : Nat) : rngL 0 b = (List.range b).map nD := by
  unfold rngL
  refine List.map_congr_left fun i _ => ?_
  show D.int (0 + (i : Int)) = D.int (i : Int)
  rw [Int.zero_add]
theorem buys_map {b : Nat} (hb : b ≤ 3) : ((rngL 0 b).map fun d => D.tup [.str "buy", d]) = (List.range b).map dd := by
  rw [rng_nD, List.map_map]
  refine List.map_congr_left fun i hi => ?_
  exact (dd_buy (by have := List.mem_range.mp hi; omega)).symm
theorem takesC_rng : ∀ (ss : List Sd) (n : Nat), (takesC n ss) = (List.range' n ss.length).map (1000 + ·)
  | [], _ => rfl
  | s :: r, n => by
    rw [List.length_cons, List.range'_succ, List.map_cons, ← takesC_rng r (n + 1)]; rfl
theorem takes_map (ss : List Sd) : ((rngL 0 ss.length).map fun d => D.tup [.str "take", d]) = (takesC 0 ss).map dd := by
  rw [rng_nD, List.map_map, takesC_rng, List.map_map, List.range_eq_range']
  refine List.map_congr_left fun i hi => ?_
  exact dd_take.symm
section
variable {Φ : Nat → List D → Mem → Rs D} {δ : Env} {M : Mem}
theorem add_lst {a b : List D} (h : a.length + b.length ≤ 1000) : op2 M .add (.lst a) (.lst b) = some (.lst (a ++ b)) := by
  show (if a.length + b.length ≤ lineN then some (D.lst (a ++ b)) else none) = _
  rw [if_pos (by simp [lineN]; omega)]
/-- [(word, x) for x in it] and such -/
theorem e_each {i : Nat} {it : I} {e : T} {own : List Nat} {ds : List D} (g : D → D) (h : evi Φ it δ M = .ok ds M) (hl : ds.length ≤ 100000)
    (he : ∀ d ∈ ds, ev Φ e ((wipeD δ own).set i (some d)) M = .ok (g d) M) : ev Φ (.lc (.nm i) it (.con (.bl true)) e own) δ M = .ok (.lst (ds.map g)) M :=
  ev_lc1 g h hl fun d hd => ⟨(wipeD δ own).set i (some d), rfl, he d hd⟩
theorem give_loop (F : D) : ∀ (ss : List Sd) (n : Nat) (acc : List D) (x2 x3 : Option D), (∀ s ∈ ss, s.ok) → n + ss.length ≤ 4 → acc.length + 3 * ss.length ≤ 50 →
    ∃ y2 y3, forGo (fun d δ M => match asgP (.tup (.cons (.nm 2) (.cons (.nm 3) .nil))) d δ with
      | some δ' => exs Φ (.cons (.set 1 (.op2 .add (.var 1) (.lc (.nm 5) (.seq (.op2 .ix (.var 3) (.con (.int 3)))) (.con (.bl true)) (.tup (.cons (.con (.str "give")) (.cons (.var 2) (.cons (.var 5) .nil)))) [5]))) .nil) δ' M
      | none => .stuck) (enumN n ss) [some F, some (.lst acc), x2, x3, none, none] M = .nx [some F, some (.lst (acc ++ (givesC n ss).map dd)), y2, y3, none, none] M
  | [], n, acc, x2, x3, _, _, _ => ⟨x2, x3, by show Rf.nx _ _ = _; simp [givesC]⟩
  | s :: r, n, acc, x2, x3, h, hn, hl => by
    have hs := h s (by simp)
    simp only [List.length_cons] at hn hl
    have hgl : (giveC n s).length ≤ 3 := by unfold giveC; rw [List.length_map]; exact hs.len
    have hc : ev Φ (.lc (.nm 5) (.seq (.op2 .ix (.var 3) (.con (.int 3)))) (.con (.bl true)) (.tup (.cons (.con (.str "give")) (.cons (.var 2) (.cons (.var 5) .nil)))) [5]) [some F, some (.lst acc), some (nD n), some s.d, none, none] M = .ok (.lst ((giveC n s).map dd)) M := by
      rw [← giveC_map (by omega) hs]
      exact e_each (fun d => D.tup [.str "give", nD n, d]) (i_seq (d := .tup (s.takes.map nD)) (e_ix0 (e_var rfl) rfl) rfl) (by rw [List.length_map]; have := hs.len; omega) fun d hd => e_tup (es_cons e_con (es_cons (e_var rfl) (es_cons (e_var rfl) es_nil))) (by simp)
    obtain ⟨y2, y3, e⟩ := give_loop F r (n + 1) (acc ++ (giveC n s).map dd) (some (nD n)) (some s.d) (fun s hs => h s (List.mem_cons_of_mem _ hs)) (by omega) (by rw [List.length_append, List.length_map]; omega)
    refine ⟨y2, y3, ?_⟩
    refine (forGo_cons (r := .nx [some F, some (.lst (acc ++ (giveC n s).map dd)), some (nD n), some s.d, none, none] M) ?_).trans ?_
    · exact (s_set (e_op2 (e_var rfl) hc (add_lst (by rw [List.length_map]; omega)))).trans s_nil
    · rw [forK_nx, e, List.append_assoc, ← List.map_append]; rfl
end
theorem givesC_len : ∀ (ss : List Sd) (n : Nat), (∀ s ∈ ss, s.ok) → (givesC n ss).length ≤ 3 * ss.length
  | [], _, _ => Nat.le_refl _
  | s :: r, n, h => by
    have := givesC_len r (n + 1) fun s hs => h s (List.mem_cons_of_mem _ hs)
    have := (h s (by simp)).len
    show (giveC n s ++ givesC (n + 1) r).length ≤ _
    unfold giveC
    simp only [List.length_append, List.length_map, List.length_cons]
    omega
theorem takesC_len : ∀ (ss : List Sd) (n : Nat), (takesC n ss).length = ss.length
  | [], _ => rfl
  | s :: r, n => by show (takesC (n + 1) r).length + 1 = _; rw [takesC_len r (n + 1)]; rfl
/-- a fair as data -/
def fairD (ss : List Sd) (bs : List D) : D := .tup [.tup (ss.map Sd.d), .tup bs]
theorem every_deed_spec (k : Nat) (ss : List Sd) (bs : List D) (M : Mem) (h : ∀ s ∈ ss, s.ok) (hl : ss.length ≤ 4) (hb : bs.length ≤ 3) : callF FDS (k + 1) j_every_deed [fairD ss bs] M = .ok (.lst ((deedC ss bs.length).map dd)) M := by
  rw [callF_at fds_every_deed rfl]
  show fin M.length (exs _ B_every_deed ([some (fairD ss bs)] ++ List.replicate 5 none) M) = _
  unfold B_every_deed
  have h1 : ev (callF FDS k) (.lc (.nm 4) (.rng (.b .len (.cons (.op2 .ix (.var 0) (.con (.int 1))) .nil))) (.con (.bl true)) (.tup (.cons (.con (.str "buy")) (.cons (.var 4) .nil))) [4]) ([some (fairD ss bs)] ++ List.replicate 5 none) M = .ok (.lst ((List.range bs.length).map dd)) M := by
    rw [← buys_map hb]
    exact e_each (fun d => D.tup [.str "buy", d]) (i_rng (n := bs.length) (e_b (es_cons (e_ix0 (d := .tup bs) (e_var rfl) rfl) es_nil) rfl) (by omega)) (by rw [rngL_len]; omega) fun d hd => e_tup (es_cons e_con (es_cons (e_var rfl) es_nil)) (by simp)
  refine fin_step (s_set h1) ?_
  obtain ⟨y2, y3, e⟩ := give_loop (Φ := callF FDS k) (M := M) (fairD ss bs) ss 0 ((List.range bs.length).map dd) none none h (by omega) (by rw [List.length_map, List.length_range]; omega)
  refine fin_step (s_for (ds := enumN 0 ss) (by rw [← enumL_sd]; exact i_enum (d := .tup (ss.map Sd.d)) (e_ix0 (e_var rfl) rfl) rfl)) ?_
  refine fin_step (congrArg (fun r => Rf.next r _) e) ?_
  refine fin_step (Rf.next_nx _ _ _) ?_
  have h2 : ev (callF FDS k) (.lc (.nm 2) (.rng (.b .len (.cons (.op2 .ix (.var 0) (.con (.int 0))) .nil))) (.con (.bl true)) (.tup (.cons (.con (.str "take")) (.cons (.var 2) .nil))) [2]) [some (fairD ss bs), some (.lst ((List.range bs.length).map dd ++ (givesC 0 ss).map dd)), y2, y3, none, none] M = .ok (.lst ((takesC 0 ss).map dd)) M := by
    rw [← takes_map]
    exact e_each (fun d => D.tup [.str "take", d]) (i_rng (n := ss.length) (e_b (es_cons (e_ix0 (d := .tup (ss.map Sd.d)) (e_var rfl) rfl) es_nil) (by show some (D.int (((ss.map Sd.d).length : Nat) : Int)) = _; rw [List.length_map])) (by omega)) (by rw [rngL_len]; omega) fun d hd => e_tup (es_cons e_con (es_cons (e_var rfl) es_nil)) (by simp)
  refine fin_step (s_ret (e_op2 (e_var rfl) h2 (add_lst ?_))) ?_
  · have g1 := givesC_len ss 0 h
    have g2 := takesC_len ss 0
    simp only [List.length_append, List.length_map, List.length_range]
    omega
  · rw [fin_ret_same]
    unfold deedC
    rw [List.map_append, List.map_append]
end CB
end
section
set_option maxHeartbeats 1000000
/-! P19: deeds, _law_deeds. -/
namespace CB
open PySem
section
variable {Φ : Nat → List D → Mem → Rs D} {M : Mem}
def rngN (n : Nat) : List Sd → List D
  | [] => []
  | _ :: r => nD n :: rngN (n + 1) r
theorem rngN_eq : ∀ (ss : List Sd) (n : Nat), (List.range' n ss.length).map nD = rngN n ss
  | [], _ => rfl
  | s :: r, n => by rw [List.length_cons, List.range'_succ, List.map_cons, rngN_eq r (n + 1)]; rfl
theorem rngL_sd (ss : List Sd) : rngL 0 ss.length = rngN 0 ss := by rw [rng_nD, List.range_eq_range', rngN_eq]
theorem at_nat {l : List D} {n : Nat} {d : D} (h : l[n]? = some d) : atL l (n : Int) = some d := by
  have hn := (List.getElem?_eq_some_iff.mp h).1
  unfold atL
  rw [show L2.ixN l.length (n : Int) = some n from by unfold L2.ixN; simp; omega]
  exact h
theorem lawC_len : ∀ (ss : List Sd) (n : Nat), (∀ s ∈ ss, s.ok) → (lawC n ss).length ≤ 4 * ss.length
  | [], _, _ => Nat.le_refl _
  | s :: r, n, h => by
    have := lawC_len r (n + 1) fun s hs => h s (List.mem_cons_of_mem _ hs)
    have := (h s (by simp)).len
    show ((1000 + n) :: giveC n s ++ lawC (n + 1) r).length ≤ _
    unfold giveC
    simp only [List.length_append, List.length_map, List.length_cons]
    omega
theorem law_loop (all : List Sd) (bs : List D) : ∀ (ss : List Sd) (n : Nat) (acc : List D) (x2 : Option D), (∀ i, ss[i]? = all[n + i]?) → (∀ s ∈ ss, s.ok) → n + ss.length ≤ 4 → acc.length + 4 * ss.length ≤ 50 →
    ∃ y2, forGo (fun d δ M => match asgP (.nm 2) d δ with
      | some δ' => exs Φ (.cons (.set 1 (.op2 .add (.op2 .add (.var 1) (.lst (.cons (.tup (.cons (.con (.str "take")) (.cons (.var 2) .nil))) .nil))) (.lc (.nm 4) (.seq (.op2 .ix (.op2 .ix (.op2 .ix (.var 0) (.con (.int 0))) (.var 2)) (.con (.int 3)))) (.con (.bl true)) (.tup (.cons (.con (.str "give")) (.cons (.var 2) (.cons (.var 4) .nil)))) [4]))) .nil) δ' M
      | none => .stuck) (rngN n ss) [some (fairD all bs), some (.lst acc), x2, none, none] M = .nx [some (fairD all bs), some (.lst (acc ++ (lawC n ss).map dd)), y2, none, none] M
  | [], n, acc, x2, _, _, _, _ => ⟨x2, by show Rf.nx _ _ = _; simp [lawC]⟩
  | s :: r, n, acc, x2, hall, h, hn, hl => by
    have hs := h s (by simp)
    simp only [List.length_cons] at hn hl
    have hgl : (giveC n s).length ≤ 3 := by unfold giveC; rw [List.length_map]; exact hs.len
    have hat : all[n]? = some s := by have := hall 0; simpa using this.symm
    have hix : op2 M .ix (.tup (all.map Sd.d)) (nD n) = some s.d := at_nat (by rw [List.getElem?_map, hat]; rfl)
    have hc : ev Φ (.lc (.nm 4) (.seq (.op2 .ix (.op2 .ix (.op2 .ix (.var 0) (.con (.int 0))) (.var 2)) (.con (.int 3)))) (.con (.bl true)) (.tup (.cons (.con (.str "give")) (.cons (.var 2) (.cons (.var 4) .nil)))) [4]) [some (fairD all bs), some (.lst acc), some (nD n), none, none] M = .ok (.lst ((giveC n s).map dd)) M := by
      rw [← giveC_map (by omega) hs]
      exact e_each (fun d => D.tup [.str "give", nD n, d]) (i_seq (d := .tup (s.takes.map nD)) (e_op2 (e_op2 (e_ix0 (d := .tup (all.map Sd.d)) (e_var rfl) rfl) (e_var rfl) hix) e_con rfl) rfl) (by rw [List.length_map]; have := hs.len; omega) fun d hd => e_tup (es_cons e_con (es_cons (e_var rfl) (es_cons (e_var rfl) es_nil))) (by simp)
    obtain ⟨y2, e⟩ := law_loop all bs r (n + 1) (acc ++ [dd (1000 + n)] ++ (giveC n s).map dd) (some (nD n)) (fun i => by have := hall (i + 1); rw [List.getElem?_cons_succ] at this; rw [this]; congr 1; omega) (fun s hs => h s (List.mem_cons_of_mem _ hs)) (by omega) (by simp only [List.length_append, List.length_map, List.length_singleton]; omega)
    refine ⟨y2, ?_⟩
    refine (forGo_cons (r := .nx [some (fairD all bs), some (.lst (acc ++ [dd (1000 + n)] ++ (giveC n s).map dd)), some (nD n), none, none] M) ?_).trans ?_
    · exact (s_set (e_op2 (e_op2 (y := .lst [dd (1000 + n)]) (e_var rfl) (e_lst (es_cons (by rw [dd_take]; exact e_tup (es_cons e_con (es_cons (e_var rfl) es_nil)) (by simp)) es_nil) (by simp)) (add_lst (by simp; omega))) hc (add_lst (by simp; omega)))).trans s_nil
    · rw [forK_nx, e]
      show _ = Rf.nx [some (fairD all bs), some (.lst (acc ++ ((1000 + n) :: giveC n s ++ lawC (n + 1) r).map dd)), y2, none, none] M
      simp only [List.map_append, List.map_cons, List.append_assoc, List.cons_append, List.nil_append]
end
theorem law_deeds_spec (k : Nat) (ss : List Sd) (bs : List D) (M : Mem) (h : ∀ s ∈ ss, s.ok) (hl : ss.length ≤ 4) (hb : bs.length ≤ 3) : callF FDS (k + 1) j__law_deeds [fairD ss bs] M = .ok (.lst ((deedC ss bs.length).map dd)) M := by
  rw [callF_at fds__law_deeds rfl]
  show fin M.length (exs _ B__law_deeds ([some (fairD ss bs)] ++ List.replicate 4 none) M) = _
  unfold B__law_deeds
  have h1 : ev (callF FDS k) (.lc (.nm 3) (.rng (.b .len (.cons (.op2 .ix (.var 0) (.con (.int 1))) .nil))) (.con (.bl true)) (.tup (.cons (.con (.str "buy")) (.cons (.var 3) .nil))) [3]) ([some (fairD ss bs)] ++ List.replicate 4 none) M = .ok (.lst ((List.range bs.length).map dd)) M := by
    rw [← buys_map hb]
    exact e_each (fun d => D.tup [.str "buy", d]) (i_rng (n := bs.length) (e_b (es_cons (e_ix0 (d := .tup bs) (e_var rfl) rfl) es_nil) rfl) (by omega)) (by rw [rngL_len]; omega) fun d hd => e_tup (es_cons e_con (es_cons (e_var rfl) es_nil)) (by simp)
  refine fin_step (s_set h1) ?_
  obtain ⟨y2, e⟩ := law_loop (Φ := callF FDS k) (M := M) ss bs ss 0 ((List.range bs.length).map dd) none (fun i => by rw [Nat.zero_add]) h (by omega) (by rw [List.length_map, List.length_range]; omega)
  refine fin_step (s_for (ds := rngN 0 ss) (by rw [← rngL_sd]; exact i_rng (n := ss.length) (e_b (es_cons (e_ix0 (d := .tup (ss.map Sd.d)) (e_var rfl) rfl) es_nil) (by show some (D.int (((ss.map Sd.d).length : Nat) : Int)) = _; rw [List.length_map])) (by omega))) ?_
  refine fin_step (congrArg (fun r => Rf.next r _) e) ?_
  refine fin_step (Rf.next_nx _ _ _) ?_
  refine fin_step (s_ret (e_b (d := .lst ((deedC ss bs.length).map dd)) (es_cons (e_var rfl) es_nil) ?_)) ?_
  · rw [← List.map_append]
    show (if ((List.range bs.length ++ lawC 0 ss).map dd).length ≤ 1000 then (sortD ((List.range bs.length ++ lawC 0 ss).map dd)).map D.lst else none) = _
    have := lawC_len ss 0 h
    rw [if_pos (by simp only [List.length_map, List.length_append, List.length_range]; omega), law_sorted h hl hb]; rfl
  · rw [fin_ret_same]
end CB
end
section
set_option maxHeartbeats 1000000
/-! P20: deeds, stranded. -/
namespace CB
open PySem
theorem deeds_spec (k : Nat) {m n : Nat} (ss : List Sd) (bs : List D) (M : Mem) (hg : good m n (fairD ss bs) = true) (hf : fairB (fairD ss bs) = true) (h : ∀ s ∈ ss, s.ok) (hl : ss.length ≤ 4) (hb : bs.length ≤ 3) : callF FDS (k + 6) j_deeds [fairD ss bs] M = .ok (.lst ((deedC ss bs.length).map dd)) M := by
  rw [callF_at fds_deeds rfl]
  show fin M.length (exs _ B_deeds _ _) = _
  unfold B_deeds
  refine fin_step (s_expr (e_call (es_cons (e_var rfl) es_nil) (need_fair_spec k _ M hg hf))) ?_
  refine fin_step (s_ret (e_call (es_cons (e_var rfl) es_nil) (every_deed_spec (k + 4) ss bs M h hl hb))) ?_
  rw [fin_ret_same]
def backB (s o : Sd) : Bool := decide (s.cup ∈ o.takes) && (o.needs.isNone || decide (o.needs = s.chip))
def strC (all : List Sd) (n : Nat) : List Sd → List Nat
  | [] => []
  | s :: r => (if all.any (backB s) = true then [] else [n]) ++ strC all (n + 1) r
theorem any_nat (c : Nat) : ∀ ns : List Nat, (ns.map fun n : Nat => PyData.int (n : Int)).any (fun z => PyData.eqv z (.int (c : Int))) = decide (c ∈ ns)
  | [] => by simp
  | n :: r => by
    rw [List.map_cons, List.any_cons, any_nat c r]
    show (((n : Int) == (c : Int)) || decide (c ∈ r)) = _
    by_cases h : n = c
    · subst h; simp
    · have : ((n : Int) == (c : Int)) = false := by simp; omega
      rw [this]
      have h' : c ≠ n := fun e => h e.symm
      simp [h']
theorem nat_in (M : Mem) (c : Nat) (ns : List Nat) : in2 M (nD c) (.tup (ns.map nD)) = some (decide (c ∈ ns)) := by
  rw [in2_tup]
  have h1 : pdM M (nD c) = some (.int (c : Int)) := rfl
  have h2 : pdM M (.tup (ns.map nD)) = some (.tuple (ns.map fun n : Nat => PyData.int (n : Int))) := by
    obtain ⟨p, e1, e2⟩ := good_pdM (m := (ns.map nD).length) (n := 1) (d := .tup (ns.map nD)) M (good_L (Nat.le_refl _) fun d hd => by
      obtain ⟨x, _, rfl⟩ := List.mem_map.mp hd
      unfold nD good; rfl) (by omega)
    rw [e2]
    unfold D.pd at e1
    rw [map_nD, pdL_ints, List.map_map] at e1
    cases e1
    rfl
  rw [h1, h2]
  show some _ = _
  rw [any_nat]
theorem opt_in (M : Mem) (o c : Option Nat) : in2 M (oD o) (.tup [.non, oD c]) = some (o.isNone || decide (o = c)) := by
  rw [in2_tup]
  cases o with
  | none => cases c <;> rfl
  | some o =>
    cases c with
    | none => rfl
    | some c =>
      show some (((c : Int) == (o : Int)) || false) = _
      by_cases h : o = c
      · subst h; simp
      · have : ((c : Int) == (o : Int)) = false := by simp; omega
        rw [this]; simp [h]
theorem lcGo_q {α : Type} (f : D → Mem → Rs (List D)) (q : α → D) (r : α → D) (M : Mem) : ∀ l : List α, (∀ x ∈ l, f (q x) M = .ok [r x] M) → lcGo f (l.map q) M = .ok (l.map r) M
  | [], _ => rfl
  | x :: l, h => by
    rw [List.map_cons]
    unfold lcGo
    rw [h x (by simp)]
    simp only [Rs.noexc_ok, Rs.bind_ok]
    rw [lcGo_q f q r M l fun x hx => h x (List.mem_cons_of_mem _ hx)]
    simp
section
variable {Φ : Nat → List D → Mem → Rs D} {δ : Env} {M : Mem}
theorem e_lcq {i : Nat} {it : I} {e : T} {own : List Nat} {α : Type} {q r : α → D} {l : List α} (h : evi Φ it δ M = .ok (l.map q) M) (hl : l.length ≤ 100000)
    (h3 : ∀ x ∈ l, ev Φ e ((wipeD δ own).set i (some (q x))) M = .ok (r x) M) : ev Φ (.lc (.nm i) it (.con (.bl true)) e own) δ M = .ok (.lst (l.map r)) M := by
  conv => lhs; unfold ev
  rw [h]
  simp only [Rs.bind_ok, if_pos (show (l.map q).length ≤ 100000 by rw [List.length_map]; exact hl)]
  rw [lcGo_q _ q r M l fun x hx => ?_]
  · rfl
  · show (ev Φ (.con (.bl true)) _ M).test _ = _
    rw [e_con, Rs.test_ok, if_pos rfl, h3 x hx]; rfl
theorem e_any {i : Nat} {e : T} {c : T} {own : List Nat} {α : Type} {q : α → D} {l : List α} {g : α → Bool} (h : evi Φ (.seq e) δ M = .ok (l.map q) M) (hl : l.length ≤ 100000)
    (h3 : ∀ x ∈ l, ev Φ c ((wipeD δ own).set i (some (q x))) M = .ok (.bl (g x)) M) : ev Φ (.b .any (.cons (.lc (.nm i) (.seq e) (.con (.bl true)) c own) .nil)) δ M = .ok (.bl (l.any g)) M :=
  e_b (es_cons (e_lcq (r := fun x => .bl (g x)) h hl h3) es_nil) (any_map g l M)
end
end CB
end
section
set_option maxHeartbeats 1000000
/-! P21: stranded. -/
namespace CB
open PySem
section
variable {Φ : Nat → List D → Mem → Rs D} {B : Mem}
theorem strand_loop (all : List Sd) (bs : List D) (hlen : all.length ≤ 4) : ∀ (ss : List Sd) (n : Nat) (acc : List Nat) (x2 x3 x4 x5 x6 x7 x8 : Option D), acc.length + ss.length ≤ 50 →
    ∃ y2 y3 y4 y5 y6 y7 y8, forGo (fun d δ M => match asgP (.tup (.cons (.nm 2) (.cons (.tup (.cons (.nm 3) (.cons (.nm 4) (.cons (.nm 5) (.cons (.nm 6) (.cons (.nm 7) (.cons (.nm 8) .nil))))))) .nil))) d δ with
      | some δ' => exs Φ (.cons (.ite (.not (.b .any (.cons (.lc (.nm 9) (.seq (.op2 .ix (.var 0) (.con (.int 0)))) (.con (.bl true)) (.and (.cmp .in_ (.var 4) (.op2 .ix (.var 9) (.con (.int 3)))) (.cmp .in_ (.op2 .ix (.var 9) (.con (.int 4))) (.tup (.cons (.con .non) (.cons (.var 5) .nil))))) [9]) .nil))) (.cons (.app (.var 1) (.var 2)) .nil) .nil) .nil) δ' M
      | none => .stuck) (enumN n ss) [some (fairD all bs), some (.loc B.length), x2, x3, x4, x5, x6, x7, x8, none] (B ++ [.lst (acc.map nD)]) = .nx [some (fairD all bs), some (.loc B.length), y2, y3, y4, y5, y6, y7, y8, none] (B ++ [.lst ((acc ++ strC all n ss).map nD)])
  | [], n, acc, x2, x3, x4, x5, x6, x7, x8, _ => ⟨x2, x3, x4, x5, x6, x7, x8, by show Rf.nx _ _ = _; simp [strC]⟩
  | s :: r, n, acc, x2, x3, x4, x5, x6, x7, x8, hl => by
    simp only [List.length_cons] at hl
    have hc : ev Φ (.not (.b .any (.cons (.lc (.nm 9) (.seq (.op2 .ix (.var 0) (.con (.int 0)))) (.con (.bl true)) (.and (.cmp .in_ (.var 4) (.op2 .ix (.var 9) (.con (.int 3)))) (.cmp .in_ (.op2 .ix (.var 9) (.con (.int 4))) (.tup (.cons (.con .non) (.cons (.var 5) .nil))))) [9]) .nil))) [some (fairD all bs), some (.loc B.length), some (nD n), some (nD s.dep), some (nD s.cup), some (oD s.chip), some (.tup (s.takes.map nD)), some (oD s.needs), some (nD s.ref), none] (B ++ [.lst (acc.map nD)]) = .ok (.bl (!all.any (backB s))) (B ++ [.lst (acc.map nD)]) :=
      e_not (e_any (q := Sd.d) (i_seq (d := .tup (all.map Sd.d)) (e_ix0 (e_var rfl) rfl) rfl) (by omega) fun o _ => e_and (e_cmp (e_var rfl) (e_op2 (y := .int 3) (d := .tup (o.takes.map nD)) (e_var rfl) e_con rfl) (nat_in _ s.cup o.takes)) fun _ => e_cmp (e_op2 (y := .int 4) (d := oD o.needs) (e_var rfl) e_con rfl) (e_tup (es_cons e_con (es_cons (e_var rfl) es_nil)) (by simp)) (opt_in _ o.needs s.chip))
    obtain ⟨y2, y3, y4, y5, y6, y7, y8, e⟩ := strand_loop all bs hlen r (n + 1) (acc ++ if all.any (backB s) = true then [] else [n]) (some (nD n)) (some (nD s.dep)) (some (nD s.cup)) (some (oD s.chip)) (some (.tup (s.takes.map nD))) (some (oD s.needs)) (some (nD s.ref)) (by rw [List.length_append]; split <;> simp <;> omega)
    refine ⟨y2, y3, y4, y5, y6, y7, y8, ?_⟩
    refine (forGo_cons (r := .nx [some (fairD all bs), some (.loc B.length), some (nD n), some (nD s.dep), some (nD s.cup), some (oD s.chip), some (.tup (s.takes.map nD)), some (oD s.needs), some (nD s.ref), none] (B ++ [.lst ((acc ++ if all.any (backB s) = true then [] else [n]).map nD)])) ?_).trans ?_
    · refine (s_ite hc).trans ?_
      by_cases h : all.any (backB s) = true
      · rw [h, if_pos rfl, if_neg (by decide), s_nil, Rf.next_nx, s_nil, List.append_nil]
      · rw [Bool.not_eq_true] at h
        rw [h, if_pos (show (!false) = true from rfl), if_neg (show ¬(false = true) by decide), s_app (e_var rfl) isLst_last (e_var rfl) (app_last (by rw [List.length_map]; omega)), s_nil, Rf.next_nx, s_nil, List.map_append]; rfl
    · rw [forK_nx, e, List.append_assoc]; rfl
theorem e_frz {δ : Env} {i : Nat} {l : List D} (h : getVar δ i = some (.loc B.length)) : ev Φ (.frz i) δ (B ++ [.lst l]) = .ok (.lst l) (B ++ [.dead]) := by
  have hg : (B ++ [MO.lst l])[B.length]? = some (.lst l) := by rw [List.getElem?_append_right (Nat.le_refl _)]; simp
  conv => lhs; unfold ev
  rw [h]
  show frzD (.loc B.length) (B ++ [.lst l]) = _
  unfold frzD
  simp only [hg]
  congr 1
  rw [List.set_append_right _ _ (Nat.le_refl _)]
  simp
theorem fin_cutL {n : Nat} {l : List D} {o : MO} (hB : B.length = n) (ha : AllSrc B) (hd : okB n (.lst l) = true) : fin n (.ret (.lst l) (B ++ [o])) = .ok (.lst l) B := by
  have ht : (B ++ [o]).take n = B := by rw [← hB, List.take_left]
  show finD n (.lst l) (B ++ [o]) = _
  unfold finD
  rw [if_neg (by simp; omega), if_pos ⟨by simp; omega, by rw [ht]; exact ha.ok n⟩]
  show (if okB n (.lst l) = true then Rs.ok (D.lst l) ((B ++ [o]).take n) else .stuck) = _
  rw [if_pos hd, ht]
theorem ok_nats (n : Nat) : ∀ l : List Nat, okBs n (l.map nD) = true
  | [] => rfl
  | x :: l => by rw [List.map_cons]; unfold okBs; rw [ok_nats n l]; rfl
end
theorem stranded_spec (k : Nat) {m n : Nat} (ss : List Sd) (bs : List D) (M : Mem) (ha : AllSrc M) (hg : good m n (fairD ss bs) = true) (hf : fairB (fairD ss bs) = true) (hl : ss.length ≤ 4) : callF FDS (k + 6) j_stranded [fairD ss bs] M = .ok (.lst ((strC ss 0 ss).map nD)) M := by
  rw [callF_at fds_stranded rfl]
  show fin M.length (exs _ B_stranded _ _) = _
  unfold B_stranded
  refine fin_step (s_expr (e_call (es_cons (e_var rfl) es_nil) (need_fair_spec k _ M hg hf))) ?_
  refine fin_step (s_set (e_mk (e_lst es_nil (by simp)))) ?_
  obtain ⟨y2, y3, y4, y5, y6, y7, y8, e⟩ := strand_loop (Φ := callF FDS (k + 5)) (B := M) ss bs hl ss 0 [] none none none none none none none (by simp; omega)
  refine fin_step (s_for (ds := enumN 0 ss) (by rw [← enumL_sd]; exact i_enum (d := .tup (ss.map Sd.d)) (e_ix0 (e_var rfl) rfl) rfl)) ?_
  refine fin_step (congrArg (fun r => Rf.next r _) e) ?_
  refine fin_step (Rf.next_nx _ _ _) ?_
  refine fin_step (s_ret (e_frz rfl)) ?_
  exact fin_cutL rfl ha (ok_nats _ _)
end CB
end
section
set_option maxHeartbeats 1000000
/-! P22: _law_done for giving back. -/
namespace CB
open PySem
def cupD (c : Nat) : D := .tup [.str "cup", nD c]
def chipL : Option Nat → List D
  | none => []
  | some x => [.tup [.str "chip", nD x]]
def opts : List (Option Nat) := [none, some 0, some 1, some 2]
theorem opts_of {o : Option Nat} (h : ∀ x ∈ o, x ≤ 2) : o ∈ opts := by
  cases o with
  | none => simp [opts]
  | some x =>
    have := h x rfl
    have : x = 0 ∨ x = 1 ∨ x = 2 := by omega
    rcases this with rfl | rfl | rfl <;> simp [opts]
theorem done1 : ∀ c ∈ [0, 1, 2], ∀ o ∈ opts, in2 [] (cupD c) (.lst (cupD c :: chipL o)) = some true ∧ idxD [] .lst (.lst (cupD c :: chipL o)) (cupD c) = some 0 := by decide +kernel
theorem done2 : ∀ x ∈ [0, 1, 2], ∀ o ∈ opts, in2 [] (.tup [.str "chip", nD x]) (.lst (chipL o)) = some (decide (some x = o)) ∧ (some x = o → idxD [] .lst (.lst (chipL o)) (.tup [.str "chip", nD x]) = some 0) := by decide +kernel
def doneB : Ss := (.cons (.ite (.cmp .notin (.var 14) (.var 13)) (.cons (.ret (.con .non)) .nil) .nil) (.cons (.set 15 (.m .index (.var 13) (.cons (.var 14) .nil))) (.cons (.set 13 (.op2 .add (.slc (.var 13) .no (.yes (.var 15))) (.slc (.var 13) (.yes (.op2 .add (.var 15) (.con (.int 1)))) .no))) .nil)))
section
variable {Φ : Nat → List D → Mem → Rs D} {δ : Env} {M : Mem}
theorem e_index {a e : T} {l : List D} {x : D} {i : Nat} (h : ev Φ a δ M = .ok (.lst l) M) (h2 : ev Φ e δ M = .ok x M) (h3 : idxD M .lst (.lst l) x = some i) : ev Φ (.m .index a (.cons e .nil)) δ M = .ok (nD i) M := by
  conv => lhs; unfold ev
  rw [h]
  show (if mFit .index .lst = true then (evs Φ (.cons e .nil) δ M).bind fun ds M2 => lift M2 (callM .lst M2 .index (.lst l) ds) else .stuck) = _
  rw [if_pos (show mFit .index .lst = true from rfl), es_cons h2 es_nil, Rs.bind_ok]
  show lift M ((idxD M .lst (.lst l) x).map fun n => D.int (n : Int)) = _
  rw [h3]; rfl
theorem cutL_lo {e t : T} {l : List D} {r : Nat} (h : ev Φ e δ M = .ok (.lst l) M) (h2 : ev Φ t δ M = .ok (.int (r : Int)) M) : ev Φ (.slc e .no (.yes t)) δ M = .ok (.lst (l.take r)) M :=
  e_slc h o_no (o_yes h2) (by show some (D.lst (cutD l none (some (r : Int)))) = _; rw [cut_to])
theorem cutL_hi {e t : T} {l : List D} {r : Nat} (h : ev Φ e δ M = .ok (.lst l) M) (h2 : ev Φ t δ M = .ok (.int (r : Int)) M) : ev Φ (.slc e (.yes t) .no) δ M = .ok (.lst (l.drop r)) M :=
  e_slc h (o_yes h2) o_no (by show some (D.lst (cutD l (some (r : Int)) none)) = _; rw [cut_from])
theorem done_no {t : D} {rest : List D} {c0 c1 c2 c3 c4 c5 c6 c7 c8 c9 c10 c11 c12 c15 : Option D} (h : in2 M t (.lst rest) = some false) :
    exs Φ doneB [c0, c1, c2, c3, c4, c5, c6, c7, c8, c9, c10, c11, c12, some (.lst rest), some t, c15] M = .ret .non M := by
  unfold doneB
  rw [s_ite_ret (b := true) (e_cmp (e_var rfl) (e_var rfl) (by show (in2 M t (.lst rest)).map (!·) = _; rw [h]; rfl)), if_pos rfl]
theorem done_yes {t : D} {rest : List D} {c0 c1 c2 c3 c4 c5 c6 c7 c8 c9 c10 c11 c12 c15 : Option D} (h : in2 M t (.lst rest) = some true) (hi : idxD M .lst (.lst rest) t = some 0) (hl : rest.length ≤ 100) :
    exs Φ doneB [c0, c1, c2, c3, c4, c5, c6, c7, c8, c9, c10, c11, c12, some (.lst rest), some t, c15] M = .nx [c0, c1, c2, c3, c4, c5, c6, c7, c8, c9, c10, c11, c12, some (.lst (rest.drop 1)), some t, some (nD 0)] M := by
  unfold doneB
  rw [s_ite_ret (b := false) (e_cmp (e_var rfl) (e_var rfl) (by show (in2 M t (.lst rest)).map (!·) = _; rw [h]; rfl)), if_neg (by decide)]
  refine (s_set (e_index (e_var rfl) (e_var rfl) hi)).trans ?_
  refine (s_set (e_op2 (cutL_lo (r := 0) (e_var rfl) (e_var rfl)) (cutL_hi (r := 1) (e_var rfl) (e_op2 (e_var rfl) e_con rfl)) (add_lst (by simp; omega)))).trans s_nil
end
end CB
end
section
set_option maxHeartbeats 1000000
/-! P23: _law_done for giving back; _law_stranded. -/
namespace CB
open PySem
theorem w_gb (M : Mem) : cmp2 M .eq (.str "give") (.str "buy") = some false := by
  show cmp2 [] .eq (.str "give") (.str "buy") = some false
  decide +kernel
theorem w_gt (M : Mem) : cmp2 M .eq (.str "give") (.str "take") = some false := by
  show cmp2 [] .eq (.str "give") (.str "take") = some false
  decide +kernel
theorem w_gg (M : Mem) : cmp2 M .eq (.str "give") (.str "give") = some true := by
  show cmp2 [] .eq (.str "give") (.str "give") = some true
  decide +kernel
theorem w_bg (M : Mem) : cmp2 M .eq (.str "buy") (.str "give") = some false := by
  show cmp2 [] .eq (.str "buy") (.str "give") = some false
  decide +kernel
theorem w_tg (M : Mem) : cmp2 M .eq (.str "take") (.str "give") = some false := by
  show cmp2 [] .eq (.str "take") (.str "give") = some false
  decide +kernel
section
variable {Φ : Nat → List D → Mem → Rs D} {δ : Env} {M : Mem}
theorem e_chips {i : Nat} {e : T} {o : Option Nat} (h : ev Φ e δ M = .ok (oD o) M) (hi : getVar ((wipeD δ [i]).set i (some (oD o))) i = some (oD o)) : ev Φ (.lc (.nm i) (.seq (.lst (.cons e .nil))) (.cmp .isnot (.var i) (.con .non)) (.tup (.cons (.con (.str "chip")) (.cons (.var i) .nil))) [i]) δ M = .ok (.lst (chipL o)) M := by
  have := ev_lc (Φ := Φ) (p := .nm i) (it := .seq (.lst (.cons e .nil))) (c := .cmp .isnot (.var i) (.con .non)) (e := .tup (.cons (.con (.str "chip")) (.cons (.var i) .nil))) (own := [i]) (δ := δ) (M := M) (ds := [oD o]) (fun d => !d.isNon) (fun d => .tup [.str "chip", d]) (i_seq (d := .lst [oD o]) (e_lst (es_cons h es_nil) (by simp)) rfl) (by simp) fun d hd => by
    obtain rfl : d = oD o := by simpa using hd
    exact ⟨_, rfl, e_cmp (e_var hi) e_con (isnot_non M _), fun _ => e_tup (es_cons e_con (es_cons (e_var hi) es_nil)) (by simp)⟩
  rw [this]
  cases o <;> rfl
end
def giveD (n c : Nat) : D := .tup [.str "give", nD n, nD c]
theorem mem012 {c : Nat} (h : c ≤ 2) : c ∈ [0, 1, 2] := by
  have : c = 0 ∨ c = 1 ∨ c = 2 := by omega
  rcases this with rfl | rfl | rfl <;> simp
theorem law_done_spec (k n : Nat) (all : List Sd) (bs : List D) (s o : Sd) (M : Mem) (hs : s.ok) (ho : o.ok) (hat : all[n]? = some o) : ∃ r, callF FDS (k + 1) j__law_done [fairD all bs, .lst (cupD s.cup :: chipL s.chip), giveD n s.cup] M = .ok r M ∧ (!r.isNon) = (o.needs.isNone || decide (o.needs = s.chip)) := by
  have hix : op2 M .ix (.tup (all.map Sd.d)) (nD n) = some o.d := at_nat (by rw [List.getElem?_map, hat]; rfl)
  have hlen : (chipL s.chip).length ≤ 1 := by cases s.chip <;> simp [chipL]
  have hlen2 : (chipL o.needs).length ≤ 1 := by cases o.needs <;> simp [chipL]
  obtain ⟨t1, t2⟩ := done1 s.cup (mem012 hs.cup) s.chip (opts_of hs.chip)
  have t1 : in2 M (cupD s.cup) (.lst (cupD s.cup :: chipL s.chip)) = some true := t1
  have t2 : idxD M .lst (.lst (cupD s.cup :: chipL s.chip)) (cupD s.cup) = some 0 := t2
  rw [callF_at fds__law_done rfl]
  show ∃ r, fin M.length (exs _ B__law_done ([some (fairD all bs), some (.lst (cupD s.cup :: chipL s.chip)), some (giveD n s.cup)] ++ List.replicate 13 none) M) = _ ∧ _
  unfold B__law_done
  let E : Option D → Option D → List D → Env := fun a b rest => [some (fairD all bs), some (.lst (cupD s.cup :: chipL s.chip)), some (giveD n s.cup), none, none, none, some (nD o.dep), some (nD o.cup), some (oD o.chip), some (.tup (o.takes.map nD)), some (oD o.needs), some (nD o.ref), none, some (.lst rest), a, b]
  have hhead : ∀ r, exs (callF FDS k) (.cons (.for_ (.nm 14) (.seq (.op2 .add (.lst (.cons (.tup (.cons (.con (.str "cup")) (.cons (.op2 .ix (.var 2) (.con (.int 2))) .nil))) .nil)) (.lc (.nm 4) (.seq (.lst (.cons (.var 10) .nil))) (.cmp .isnot (.var 4) (.con .non)) (.tup (.cons (.con (.str "chip")) (.cons (.var 4) .nil))) [4]))) doneB) (.cons (.ret (.tup (.cons (.var 13) (.cons (.var 11) .nil)))) .nil)) (E none none (cupD s.cup :: chipL s.chip)) M = .ret r M → fin M.length (exs (callF FDS k) B__law_done ([some (fairD all bs), some (.lst (cupD s.cup :: chipL s.chip)), some (giveD n s.cup)] ++ List.replicate 13 none) M) = .ok r M := fun r hr => by
    unfold B__law_done
    refine fin_step (s_ite (t := false) (e_cmp (e_ix0 (d := .str "give") (e_var rfl) rfl) e_con (w_gb M))) ?_
    rw [if_neg (by decide), s_nil, Rf.next_nx]
    refine fin_step (s_asg (d := o.d) (e_op2 (e_ix0 (d := .tup (all.map Sd.d)) (e_var rfl) rfl) (e_ix0 (d := nD n) (e_var rfl) rfl) hix) rfl) ?_
    refine fin_step (s_ite (t := false) (e_cmp (e_ix0 (d := .str "give") (e_var rfl) rfl) e_con (w_gt M))) ?_
    rw [if_neg (by decide), s_nil, Rf.next_nx]
    refine fin_step (s_set (d := .lst (cupD s.cup :: chipL s.chip)) (e_op2 (e_var rfl) (e_lst es_nil (by simp)) ((add_lst (by simp; omega)).trans (by rw [List.append_nil])))) ?_
    exact (congrArg (fin M.length) hr).trans (fin_ret_same _ _)
  have hfor : evi (callF FDS k) (.seq (.op2 .add (.lst (.cons (.tup (.cons (.con (.str "cup")) (.cons (.op2 .ix (.var 2) (.con (.int 2))) .nil))) .nil)) (.lc (.nm 4) (.seq (.lst (.cons (.var 10) .nil))) (.cmp .isnot (.var 4) (.con .non)) (.tup (.cons (.con (.str "chip")) (.cons (.var 4) .nil))) [4]))) (E none none (cupD s.cup :: chipL s.chip)) M = .ok (cupD s.cup :: chipL o.needs) M :=
    i_seq (d := .lst (cupD s.cup :: chipL o.needs)) (e_op2 (x := .lst [cupD s.cup]) (e_lst (es_cons (e_tup (es_cons e_con (es_cons (e_ix0 (d := nD s.cup) (e_var rfl) rfl) es_nil)) (by simp)) es_nil) (by simp)) (e_chips (o := o.needs) (e_var rfl) rfl) (add_lst (by simp; omega))) rfl
  have hret : ∀ a b rest, exs (callF FDS k) (.cons (.ret (.tup (.cons (.var 13) (.cons (.var 11) .nil)))) .nil) (E a b rest) M = .ret (.tup [.lst rest, nD o.ref]) M := fun a b rest => s_ret (e_tup (es_cons (e_var rfl) (es_cons (e_var rfl) es_nil)) (by simp))
  have h1 : exs (callF FDS k) doneB (E (some (cupD s.cup)) none (cupD s.cup :: chipL s.chip)) M = .nx (E (some (cupD s.cup)) (some (nD 0)) (chipL s.chip)) M := done_yes t1 t2 (by simp; omega)
  cases hn : o.needs with
  | none =>
    refine ⟨.tup [.lst (chipL s.chip), nD o.ref], hhead _ ((s_for hfor).trans ?_), rfl⟩
    rw [hn]
    show Rf.next (forGo _ [cupD s.cup] _ M) _ = _
    rw [forGo_cons h1, forK_nx]
    exact (Rf.next_nx _ _ _).trans (hret _ _ _)
  | some x =>
    obtain ⟨u1, u2⟩ := done2 x (mem012 (ho.needs x hn)) s.chip (opts_of hs.chip)
    have u1 : in2 M (.tup [.str "chip", nD x]) (.lst (chipL s.chip)) = some (decide (some x = s.chip)) := u1
    by_cases hx : some x = s.chip
    · have u2 : idxD M .lst (.lst (chipL s.chip)) (.tup [.str "chip", nD x]) = some 0 := u2 hx
      have h2 : exs (callF FDS k) doneB (E (some (.tup [.str "chip", nD x])) (some (nD 0)) (chipL s.chip)) M = .nx (E (some (.tup [.str "chip", nD x])) (some (nD 0)) ((chipL s.chip).drop 1)) M := done_yes (u1.trans (by rw [decide_eq_true hx])) u2 (by omega)
      refine ⟨.tup [.lst ((chipL s.chip).drop 1), nD o.ref], hhead _ ((s_for hfor).trans ?_), by rw [decide_eq_true hx]; rfl⟩
      rw [hn]
      show Rf.next (forGo _ [cupD s.cup, .tup [.str "chip", nD x]] _ M) _ = _
      rw [forGo_cons h1, forK_nx, forGo_cons h2, forK_nx]
      exact (Rf.next_nx _ _ _).trans (hret _ _ _)
    · have h2 : exs (callF FDS k) doneB (E (some (.tup [.str "chip", nD x])) (some (nD 0)) (chipL s.chip)) M = .ret .non M := done_no (u1.trans (by rw [decide_eq_false hx]))
      refine ⟨.non, hhead _ ((s_for hfor).trans ?_), by rw [decide_eq_false hx]; rfl⟩
      rw [hn]
      show Rf.next (forGo _ [cupD s.cup, .tup [.str "chip", nD x]] _ M) _ = _
      rw [forGo_cons h1, forK_nx, forGo_cons h2]
      rfl
end CB
end
section
set_option maxHeartbeats 1000000
/-! P24: rules for runs of statements; _law_stranded. -/
namespace CB
open PySem
def Sat (P : Rf → Prop) (r : Rf) : Prop := P r
def NX (Q : Env → Mem → Prop) (r : Rf) : Prop := ∃ δ M, r = .nx δ M ∧ Q δ M
/-- a turn of a loop: goes on, or leaves with what is wanted -/
def Trn (Q : Env → Mem → Prop) (P : Rf → Prop) (r : Rf) : Prop := (∃ δ M, (r = .nx δ M ∨ r = .ct δ M) ∧ Q δ M) ∨ ((∃ d M, r = .ret d M) ∨ ∃ x δ M, r = .exc x δ M) ∧ P r
theorem Sat.step {P : Rf → Prop} {r r' : Rf} (h : r = r') (g : Sat P r') : Sat P r := h ▸ g
theorem Sat.fin {n : Nat} {r : Rf} {x : Rs D} (g : Sat (fun r => fin n r = x) r) : fin n r = x := g
theorem Sat.nx {Q : Env → Mem → Prop} {δ : Env} {M : Mem} (g : Q δ M) : Sat (NX Q) (.nx δ M) := ⟨δ, M, rfl, g⟩
theorem Sat.next {P : Rf → Prop} {δ : Env} {M : Mem} {k : Env → Mem → Rf} (g : Sat P (k δ M)) : Sat P ((Rf.nx δ M).next k) := g
theorem Sat.go {Q : Env → Mem → Prop} {P : Rf → Prop} {δ : Env} {M : Mem} (g : Q δ M) : Sat (Trn Q P) (.nx δ M) := .inl ⟨δ, M, .inl rfl, g⟩
theorem Sat.cont {Q : Env → Mem → Prop} {P : Rf → Prop} {δ : Env} {M : Mem} (g : Q δ M) : Sat (Trn Q P) (.ct δ M) := .inl ⟨δ, M, .inr rfl, g⟩
theorem Sat.for_ {P : Rf → Prop} {f : D → Env → Mem → Rf} {k : Env → Mem → Rf} (I : Nat → Env → Mem → Prop) : ∀ {ds : List D} {δ : Env} {M : Mem} (_ : I 0 δ M) (_ : ∀ (i : Nat) (d : D), ds[i]? = some d → ∀ δ M, I i δ M → Sat (Trn (I (i + 1)) P) (f d δ M)) (_ : ∀ δ' M', I ds.length δ' M' → Sat P (k δ' M')), Sat P ((forGo f ds δ M).next k) := by
  have go : ∀ (ds : List D) (n : Nat) (δ : Env) (M : Mem), I n δ M → (∀ (i : Nat) (d : D), ds[i]? = some d → ∀ δ M, I (n + i) δ M → Sat (Trn (I (n + i + 1)) P) (f d δ M)) → (∀ δ' M', I (n + ds.length) δ' M' → Sat P (k δ' M')) → Sat P ((forGo f ds δ M).next k) := by
    intro ds
    induction ds with
    | nil => exact fun n δ M h0 _ hk => hk δ M h0
    | cons d ds ih =>
      intro n δ M h0 hs hk
      have h1 := hs 0 d rfl δ M h0
      conv => arg 2; unfold forGo
      rcases h1 with ⟨δ', M', e, q⟩ | ⟨e, q⟩
      · have q : I (n + 1) δ' M' := q
        have h2 : Sat P ((forGo f ds δ' M').next k) := ih (n + 1) δ' M' q (fun i d hd δ M hI => by
          have e2 : n + 1 + i = n + (i + 1) := by omega
          rw [e2] at hI ⊢
          exact hs (i + 1) d (by rw [List.getElem?_cons_succ]; exact hd) δ M hI) fun δ' M' hI => hk δ' M' (by
          have e2 : n + 1 + ds.length = n + (d :: ds).length := by simp; omega
          rw [← e2]; exact hI)
        rcases e with e | e <;> (rw [e]; exact h2)
      · rcases e with ⟨d, M', e⟩ | ⟨x, δ', M', e⟩ <;> (rw [e] at q ⊢; exact q)
  intro ds δ M h0 hs hk
  exact go ds 0 δ M h0 (fun i d hd δ M hI => by rw [Nat.zero_add] at hI ⊢; exact hs i d hd δ M hI) fun δ' M' hI => hk δ' M' (by rw [Nat.zero_add] at hI; exact hI)
theorem lcGo_f {α : Type} (f : D → Mem → Rs (List D)) (q : α → D) (r : α → D) (g : α → Bool) (M : Mem) : ∀ l : List α, (∀ x ∈ l, f (q x) M = .ok (if g x = true then [r x] else []) M) → lcGo f (l.map q) M = .ok ((l.filter g).map r) M
  | [], _ => rfl
  | x :: l, h => by
    rw [List.map_cons]
    unfold lcGo
    rw [h x (by simp)]
    simp only [Rs.noexc_ok, Rs.bind_ok]
    rw [lcGo_f f q r g M l fun x hx => h x (List.mem_cons_of_mem _ hx), List.filter_cons]
    split <;> simp
section
variable {Φ : Nat → List D → Mem → Rs D} {δ : Env} {M : Mem}
theorem e_lcf {i : Nat} {it : I} {c e : T} {own : List Nat} {α : Type} {q : α → D} {r : α → D} {l : List α} {g : α → Bool} (h : evi Φ it δ M = .ok (l.map q) M) (hl : l.length ≤ 100000)
    (hc : ∀ x ∈ l, ev Φ c ((wipeD δ own).set i (some (q x))) M = .ok (.bl (g x)) M) (he : ∀ x ∈ l, g x = true → ev Φ e ((wipeD δ own).set i (some (q x))) M = .ok (r x) M) : ev Φ (.lc (.nm i) it c e own) δ M = .ok (.lst ((l.filter g).map r)) M := by
  conv => lhs; unfold ev
  rw [h]
  simp only [Rs.bind_ok, if_pos (show (l.map q).length ≤ 100000 by rw [List.length_map]; exact hl)]
  rw [lcGo_f _ q r g M l fun x hx => ?_]
  · rfl
  · show (ev Φ c _ M).test _ = _
    rw [hc x hx, Rs.test_ok]
    by_cases hg : g x = true
    · rw [if_pos hg, if_pos hg, he x hx hg]; rfl
    · rw [if_neg hg, if_neg hg]
end
theorem givesC_iff : ∀ (ss : List Sd) (n x : Nat), x ∈ givesC n ss ↔ ∃ i o, ss[i]? = some o ∧ ∃ t ∈ o.takes, x = 100 + 10 * (n + i) + t
  | [], n, x => by simp [givesC]
  | s :: r, n, x => by
    unfold givesC giveC
    rw [List.mem_append, givesC_iff r (n + 1) x, List.mem_map]
    constructor
    · rintro (⟨t, ht, rfl⟩ | ⟨i, o, h, t, ht, rfl⟩)
      · exact ⟨0, s, rfl, t, ht, rfl⟩
      · exact ⟨i + 1, o, h, t, ht, by omega⟩
    · rintro ⟨i, o, h, t, ht, rfl⟩
      cases i with
      | zero => cases h; exact .inl ⟨t, ht, rfl⟩
      | succ i => exact .inr ⟨i, o, h, t, ht, by omega⟩
theorem enumN_at : ∀ {ss : List Sd} {n i : Nat} {d : D}, (enumN n ss)[i]? = some d → ∃ s, ss[i]? = some s ∧ d = .tup [nD (n + i), s.d]
  | [], n, i, d, h => by simp [enumN] at h
  | s :: r, n, 0, d, h => by
    cases h
    exact ⟨s, rfl, rfl⟩
  | s :: r, n, i + 1, d, h => by
    have h : (enumN (n + 1) r)[i]? = some d := h
    obtain ⟨s', h1, h2⟩ := enumN_at h
    refine ⟨s', h1, ?_⟩
    rw [h2, show n + 1 + i = n + (i + 1) by omega]
theorem enumN_len : ∀ (ss : List Sd) (n : Nat), (enumN n ss).length = ss.length
  | [], _ => rfl
  | s :: r, n => by show (enumN (n + 1) r).length + 1 = _; rw [enumN_len r]; rfl
theorem strC_len (all : List Sd) : ∀ (n : Nat) (ss : List Sd), (strC all n ss).length ≤ ss.length
  | _, [] => Nat.le_refl _
  | n, s :: r => by
    have := strC_len all (n + 1) r
    show ((if all.any (backB s) = true then [] else [n]) ++ strC all (n + 1) r).length ≤ _
    split <;> simp <;> omega
theorem strC_app (all : List Sd) : ∀ (n : Nat) (a b : List Sd), strC all n (a ++ b) = strC all n a ++ strC all (n + a.length) b
  | n, [], b => rfl
  | n, s :: r, b => by
    show (if all.any (backB s) = true then [] else [n]) ++ strC all (n + 1) (r ++ b) = ((if all.any (backB s) = true then [] else [n]) ++ strC all (n + 1) r) ++ _
    rw [strC_app all (n + 1) r b, List.append_assoc, List.length_cons, show n + 1 + r.length = n + (r.length + 1) by omega]
theorem strC_take {all ss : List Sd} {i : Nat} {s : Sd} (h : ss[i]? = some s) : strC all 0 (ss.take (i + 1)) = strC all 0 (ss.take i) ++ if all.any (backB s) = true then [] else [i] := by
  have hi := (List.getElem?_eq_some_iff.mp h).1
  rw [List.take_add_one, h, strC_app, List.length_take, Nat.min_eq_left (by omega), Nat.zero_add]
  show _ ++ ((if all.any (backB s) = true then [] else [i]) ++ []) = _
  rw [List.append_nil]
def isGiveC (cup c : Nat) : Bool := decide (100 ≤ c) && (decide (c < 1000) && decide ((c - 100) % 10 = cup))
def takesIt (all : List Sd) (s : Sd) (c : Nat) : Bool := match all[(c - 100) / 10]? with
  | some o => o.needs.isNone || decide (o.needs = s.chip)
  | none => false
/-- what a deed's number tells -/
theorem deed_cases {all : List Sd} {b c : Nat} (h : ∀ s ∈ all, s.ok) (hl : all.length ≤ 4) (hb : b ≤ 3) (hc : c ∈ deedC all b) :
    (c < b ∧ dd c = .tup [.str "buy", nD c]) ∨ (∃ n t o, all[n]? = some o ∧ t ∈ o.takes ∧ c = 100 + 10 * n + t ∧ n < 4 ∧ t ≤ 2 ∧ dd c = giveD n t) ∨ (∃ n, n < all.length ∧ c = 1000 + n ∧ dd c = .tup [.str "take", nD n]) := by
  rcases List.mem_append.mp hc with e | e
  · rcases List.mem_append.mp e with e | e
    · have := List.mem_range.mp e
      exact .inl ⟨this, dd_buy (by omega)⟩
    · obtain ⟨n, o, ho, t, ht, rfl⟩ := (givesC_iff all 0 c).mp e
      rw [Nat.zero_add]
      have hn := (List.getElem?_eq_some_iff.mp ho).1
      have ht2 := (h o (List.mem_of_getElem? ho)).takes t ht
      exact .inr (.inl ⟨n, t, o, ho, ht, rfl, by omega, ht2, dd_give (by omega) ht2⟩)
  · have := takesC_mem e
    obtain ⟨n, rfl⟩ : ∃ n, c = 1000 + n := ⟨c - 1000, by omega⟩
    exact .inr (.inr ⟨n, by omega, rfl, dd_take⟩)
theorem eq_nat (M : Mem) (a b : Nat) : cmp2 M .eq (nD a) (nD b) = some (decide (a = b)) := by
  show some (((a : Int) == (b : Int))) = _
  by_cases h : a = b
  · subst h; simp
  · have : ((a : Int) == (b : Int)) = false := by simp; omega
    rw [this]; simp [h]
theorem strand_any {all : List Sd} {b : Nat} {s : Sd} (h : ∀ s ∈ all, s.ok) (hl : all.length ≤ 4) (hb : b ≤ 3) : (((deedC all b).filter (isGiveC s.cup)).filter (takesIt all s)).isEmpty = !all.any (backB s) := by
  rw [Bool.eq_iff_iff, List.isEmpty_iff, Bool.not_eq_true', ← Bool.not_eq_true, List.any_eq_true, List.filter_eq_nil_iff]
  constructor
  · rintro hn ⟨o, ho, hb⟩
    unfold backB at hb
    rw [Bool.and_eq_true, decide_eq_true_eq] at hb
    obtain ⟨n, hn2⟩ := List.getElem?_of_mem ho
    have hn4 := (List.getElem?_eq_some_iff.mp hn2).1
    have ht2 := (h o ho).takes _ hb.1
    have hc : 100 + 10 * n + s.cup ∈ deedC all b := by
      unfold deedC
      rw [List.mem_append, List.mem_append]
      exact .inl (.inr ((givesC_iff all 0 _).mpr ⟨n, o, hn2, s.cup, hb.1, by omega⟩))
    refine hn _ (List.mem_filter.mpr ⟨hc, ?_⟩) ?_
    · unfold isGiveC
      rw [decide_eq_true (by omega), decide_eq_true (by omega), decide_eq_true (by omega)]; rfl
    · unfold takesIt
      rw [show (100 + 10 * n + s.cup - 100) / 10 = n by omega, hn2]
      exact hb.2
  · intro hno c hc hc2
    obtain ⟨hc, hg⟩ := List.mem_filter.mp hc
    unfold isGiveC at hg
    simp only [Bool.and_eq_true, decide_eq_true_eq] at hg
    rcases deed_cases h hl hb hc with ⟨h1, _⟩ | ⟨n, t, o, ho, ht, rfl, hn, ht2, _⟩ | ⟨n, h1, rfl, _⟩
    · omega
    · unfold takesIt at hc2
      rw [show (100 + 10 * n + t - 100) / 10 = n by omega, ho] at hc2
      have e : t = s.cup := by omega
      subst e
      refine hno ⟨o, List.mem_of_getElem? ho, ?_⟩
      unfold backB
      rw [decide_eq_true ht]
      exact hc2
    · omega
section
variable {Φ : Nat → List D → Mem → Rs D} {δ : Env} {M B : Mem}
theorem deedC_len {all : List Sd} {b : Nat} (h : ∀ s ∈ all, s.ok) (hl : all.length ≤ 4) (hb : b ≤ 3) : (deedC all b).length ≤ 100 := by
  have h1 := givesC_len all 0 h
  have h2 := takesC_len all 0
  unfold deedC
  simp only [List.length_append, List.length_range]
  omega
theorem eq_nilC {l : List Nat} (h : ∀ c ∈ l, c ∈ codes) : cmp2 M .eq (.lst (l.map dd)) (.lst []) = some l.isEmpty := by
  show eq2 M _ _ = _
  rw [eq_nil (m := 3) (n := 1) M (goodL_iff.mpr fun d hd => by
    obtain ⟨c, hc, rfl⟩ := List.mem_map.mp hd
    exact codes_good c (h c hc)) (by decide)]
  cases l <;> rfl
end
theorem law_stranded_spec (k : Nat) (ss : List Sd) (bs : List D) (M : Mem) (ha : AllSrc M) (h : ∀ s ∈ ss, s.ok) (hl : ss.length ≤ 4) (hb : bs.length ≤ 3) : callF FDS (k + 2) j__law_stranded [fairD ss bs] M = .ok (.lst ((strC ss 0 ss).map nD)) M := by
  rw [callF_at fds__law_stranded rfl]
  refine Sat.fin ?_
  show Sat _ (exs _ B__law_stranded _ _)
  unfold B__law_stranded
  refine Sat.step (s_set (e_mk (e_lst es_nil (by simp)))) ?_
  refine Sat.step (s_for (ds := enumN 0 ss) (by rw [← enumL_sd]; exact i_enum (d := .tup (ss.map Sd.d)) (e_ix0 (e_var rfl) rfl) rfl)) ?_
  refine Sat.for_ (fun i δ M' => ∃ x2 x3 x4 x5, δ = [some (fairD ss bs), some (.loc M.length), x2, x3, x4, x5, none, none] ∧ M' = M ++ [.lst ((strC ss 0 (ss.take i)).map nD)]) ⟨none, none, none, none, rfl, rfl⟩ ?_ ?_
  · rintro i d hd δ M' ⟨x2, x3, x4, x5, rfl, rfl⟩
    obtain ⟨s, hs, rfl⟩ : ∃ s, ss[i]? = some s ∧ d = .tup [nD i, s.d] := by have := enumN_at hd; rwa [Nat.zero_add] at this
    have hso := h s (List.mem_of_getElem? hs)
    show Sat _ (exs _ _ [some (fairD ss bs), some (.loc M.length), some (nD i), some s.d, x4, x5, none, none] _)
    refine Sat.step (s_set (e_op2 (x := .lst [cupD s.cup]) (e_lst (es_cons (e_tup (es_cons e_con (es_cons (e_op2 (y := .int 1) (d := nD s.cup) (e_var rfl) e_con rfl) es_nil)) (by simp)) es_nil) (by simp)) (e_chips (o := s.chip) (e_op2 (y := .int 2) (d := oD s.chip) (e_var rfl) e_con rfl) rfl) (add_lst (by cases s.chip <;> simp [chipL])))) ?_
    refine Sat.step (s_set (e_lcf (q := dd) (r := dd) (l := deedC ss bs.length) (g := isGiveC s.cup) (i_seq (e_call (es_cons (e_var rfl) es_nil) (law_deeds_spec k ss bs _ h hl hb)) rfl) (by have := deedC_len h hl hb; omega) (fun c hc => ?_) fun c hc _ => e_var rfl)) ?_
    · rcases deed_cases h hl hb hc with ⟨h1, e⟩ | ⟨n, t, o, ho, ht, rfl, hn, ht2, e⟩ | ⟨n, h1, rfl, e⟩
      · rw [e]
        have hg : isGiveC s.cup c = false := by unfold isGiveC; rw [decide_eq_false (by omega)]; rfl
        rw [hg]
        exact e_and (x := false) (y := false) (e_cmp (e_ix0 (d := .str "buy") (e_var rfl) rfl) e_con (w_bg _)) fun h => nomatch h
      · rw [e]
        have hg : isGiveC s.cup (100 + 10 * n + t) = (true && decide (t = s.cup)) := by
          unfold isGiveC
          rw [decide_eq_true (by omega), decide_eq_true (by omega), show (100 + 10 * n + t - 100) % 10 = t by omega]; rfl
        rw [hg]
        exact e_and (e_cmp (e_ix0 (d := .str "give") (e_var rfl) rfl) e_con (w_gg _)) fun _ => e_cmp (e_ix0 (d := nD t) (e_var rfl) rfl) (e_op2 (y := .int 1) (d := nD s.cup) (e_var rfl) e_con rfl) (eq_nat _ _ _)
      · rw [e]
        have hg : isGiveC s.cup (1000 + n) = false := by unfold isGiveC; rw [decide_eq_false (p := 1000 + n < 1000) (by omega)]; simp
        rw [hg]
        exact e_and (x := false) (y := false) (e_cmp (e_ix0 (d := .str "take") (e_var rfl) rfl) e_con (w_tg _)) fun h => nomatch h
    refine Sat.step (s_ite (t := !ss.any (backB s)) (M' := M ++ [.lst ((strC ss 0 (ss.take i)).map nD)]) ?_) ?_
    · rw [← strand_any h hl hb (b := bs.length)]
      refine e_cmp (x := .lst (((deedC ss bs.length).filter (isGiveC s.cup)).filter (takesIt ss s) |>.map dd)) (e_lcf (q := dd) (r := dd) (i_seq (e_var rfl) rfl) (by have := deedC_len h hl hb; have := List.length_filter_le (isGiveC s.cup) (deedC ss bs.length); omega) (fun c hc => ?_) fun c hc _ => e_var rfl) (e_lst es_nil (by simp)) (eq_nilC fun c hc => deedC_codes h hl hb c (List.mem_filter.mp (List.mem_filter.mp hc).1).1)
      obtain ⟨hc, hg⟩ := List.mem_filter.mp hc
      unfold isGiveC at hg
      simp only [Bool.and_eq_true, decide_eq_true_eq] at hg
      rcases deed_cases h hl hb hc with ⟨h1, e⟩ | ⟨n, t, o, ho, ht, rfl, hn, ht2, e⟩ | ⟨n, h1, rfl, e⟩
      · omega
      · have et : t = s.cup := by omega
        subst et
        obtain ⟨r, e1, e2⟩ := law_done_spec k n ss bs s o (M ++ [.lst ((strC ss 0 (ss.take i)).map nD)]) hso (h o (List.mem_of_getElem? ho)) ho
        rw [e]
        have ht : takesIt ss s (100 + 10 * n + s.cup) = !r.isNon := by
          unfold takesIt
          rw [show (100 + 10 * n + s.cup - 100) / 10 = n by omega, ho, e2]
        rw [ht]
        exact e_cmp (e_call (es_cons (e_var rfl) (es_cons (e_var rfl) (es_cons (e_var rfl) es_nil))) e1) e_con (isnot_non _ _)
      · omega
    · have hst : strC ss 0 (ss.take (i + 1)) = strC ss 0 (ss.take i) ++ if ss.any (backB s) = true then [] else [i] := strC_take hs
      by_cases hany : ss.any (backB s) = true
      · rw [hany]
        refine Sat.step (congrArg (fun r => Rf.next r _) (if_neg (by decide))) ?_
        refine Sat.step (congrArg (fun r => Rf.next r _) s_nil) (Sat.next ?_)
        refine Sat.step s_nil (Sat.go ⟨_, _, _, _, rfl, ?_⟩)
        rw [hst, hany, if_pos rfl, List.append_nil]
      · rw [Bool.not_eq_true] at hany
        rw [hany]
        refine Sat.step (congrArg (fun r => Rf.next r _) (if_pos rfl)) ?_
        refine Sat.step (congrArg (fun r => Rf.next r _) ((s_app (e_var rfl) isLst_last (e_var rfl) (app_last (by rw [List.length_map]; have := strC_len ss 0 (ss.take i); have := List.length_take_le' i ss; omega))).trans s_nil)) (Sat.next ?_)
        refine Sat.step s_nil (Sat.go ⟨_, _, _, _, rfl, ?_⟩)
        rw [hst, hany, if_neg (by decide), List.map_append]; rfl
  · rintro δ M' ⟨x2, x3, x4, x5, rfl, rfl⟩
    have e : ss.take (enumN 0 ss).length = ss := by rw [enumN_len, List.take_length]
    rw [e]
    refine Sat.step (s_ret (e_frz rfl)) ?_
    exact fin_cutL rfl ha (ok_nats _ _)
end CB
end
section
set_option maxHeartbeats 1000000
/-! P25: the law k01. -/
namespace CB
open PySem
theorem ne_same {m n : Nat} {d : D} (M : Mem) (h : good m n d = true) (hn : n ≤ 60) : cmp2 M .ne d d = some false := by
  show (eq2 M d d).map (!·) = _
  rw [eq2_same M h hn]; rfl
theorem good_thing {m n : Nat} {d : D} (hm : 2 ≤ m) (h : thingB d = true) : good m (n + 1) d = true := by
  obtain ⟨w, i, rfl, hw, h1, h2⟩ := thingB_of h
  refine good_L (by simpa using hm) fun x hx => ?_
  simp only [List.mem_cons, List.not_mem_nil, or_false] at hx
  rcases hx with rfl | rfl
  · exact good_word (by rcases hw with rfl | rfl <;> decide +kernel)
  · exact good_from (isFrom_mk h1 h2)
theorem good_lot {m n : Nat} {d : D} (hm : 2 ≤ m) (h : lotB d = true) : good m (n + 2) d = true := by
  unfold lotB at h
  split at h
  · exact good_L (by simp) (by simp)
  · exact good_L (by simp; omega) (by intro x hx; simp only [List.mem_cons, List.not_mem_nil, or_false] at hx; subst hx; exact good_thing hm h)
  · simp only [Bool.and_eq_true] at h
    exact good_L (by simpa using hm) (by intro x hx; simp only [List.mem_cons, List.not_mem_nil, or_false] at hx; rcases hx with rfl | rfl; exact good_thing hm h.1.1; exact good_thing hm h.1.2)
  · cases h
theorem good_lstT {m n : Nat} {l : List D} : good m n (.lst l) = good m n (.tup l) := by cases n <;> rfl
theorem fair_data {F : D} (h : fairB F = true) : ∃ ss bs, F = fairD ss bs ∧ 1 ≤ ss.length ∧ ss.length ≤ 4 ∧ bs.length ≤ 3 ∧ (∀ s ∈ ss, s.ok) ∧ ∀ d ∈ bs, shopB d = true := by
  obtain ⟨a, b, rfl, h1, h2, h3, h4, h5⟩ := fairB_of h
  obtain ⟨ss, rfl, hs⟩ := stands_of h3
  rw [List.length_map] at h1 h2
  exact ⟨ss, b, rfl, h1, h2, h4, hs, h5⟩
section
variable {Φ : Nat → List D → Mem → Rs D} {δ : Env} {M M' : Mem}
theorem e_iteE {c a b : T} {x : Bool} {u v : D} (h : ev Φ c δ M = .ok (.bl x) M) (h1 : ev Φ a δ M = .ok u M) (h2 : ev Φ b δ M = .ok v M) : ev Φ (.ite c a b) δ M = .ok (if x = true then u else v) M :=
  e_ite h (fun e => by rw [h1, if_pos e]) fun e => by rw [h2, e]; rfl
theorem eq_int (M : Mem) (a b : Int) : cmp2 M .eq (.int a) (.int b) = some (a == b) := rfl
theorem good_ite {m n : Nat} {x : Bool} {u v : D} (h1 : good m n u = true) (h2 : good m n v = true) : good m n (if x = true then u else v) = true := by split <;> assumption
theorem good_dd {l : List Nat} (h : ∀ c ∈ l, c ∈ codes) (hl : l.length ≤ 100) : good 100 2 (.lst (l.map dd)) = true := by
  rw [good_lstT]
  refine good_L (by rw [List.length_map]; exact hl) fun d hd => ?_
  obtain ⟨c, hc, rfl⟩ := List.mem_map.mp hd
  exact good_mono (Nat.le_refl _) (by omega) (codes_good c (h c hc))
theorem good_nD {l : List Nat} (hl : l.length ≤ 100) : good 100 2 (.lst (l.map nD)) = true := by
  rw [good_lstT]
  refine good_L (by rw [List.length_map]; exact hl) fun d hd => ?_
  obtain ⟨c, hc, rfl⟩ := List.mem_map.mp hd
  unfold nD good; rfl
end
/-- the turns of a cell -/
def k01Env (ns : List Int) (x1 x2 x3 x4 x5 x6 x7 x8 : Option D) : Env := [some (.scr ns), x1, x2, x3, x4, x5, x6, x7, x8, none, none, none, none, none, none, none]
def twoD : D := .tup [.tup [.str "chip", .int 1], .tup [.str "cup", .int 1]]
theorem k01_turn {ns : List Int} {kD F L : D} {n i : Nat} {d : D} {P : Rf → Prop} (hd : d = nD i) (hi : i < 13) (hF : good 6 4 F = true) (hL : good 6 4 L = true) {one two : D} {x7 x8 : Option D} {M : Mem} (h1 : good (6 + i) (4 + i) one = true) (h2 : good (6 + i) (4 + i) two = true) (hs : SrcM M n) (ha : AllSrc M) :
    Sat (Trn (fun δ M => ∃ one two x7 x8, δ = k01Env ns (some kD) (some (.loc n)) (some F) (some L) (some one) (some two) x7 x8 ∧ good (6 + (i + 1)) (4 + (i + 1)) one = true ∧ good (6 + (i + 1)) (4 + (i + 1)) two = true ∧ SrcM M n ∧ AllSrc M) P)
      (exs (callF FDS 19) (.cons (.set 8 (.lst (.cons (.call j_is_fair (.cons (.var 5) .nil)) (.cons (.call j_is_lot (.cons (.var 6) .nil)) .nil)))) (.cons (.ite (.cmp .ne (.lc (.nm 15) (.seq (.var 8)) (.not (.isi (.var 15) .bool)) (.var 15) [15]) (.lst .nil)) (.cons (.ret (.con (.bl false))) .nil) .nil) (.cons (.ite (.cmp .ne (.var 8) (.lst (.cons (.call j__law_is_fair (.cons (.var 5) .nil)) (.cons (.call j__law_is_lot (.cons (.var 6) .nil)) .nil)))) (.cons (.ret (.con (.bl false))) .nil) .nil) (.cons (.set 5 (.call j__law_bent (.cons (.var 2) (.cons (.ite (.cmp .eq (.op2 .mod (.var 7) (.con (.int 3))) (.con (.int 0))) (.var 3) (.var 5)) .nil)))) (.cons (.set 6 (.call j__law_bent (.cons (.var 2) (.cons (.ite (.cmp .eq (.op2 .mod (.var 7) (.con (.int 2))) (.con (.int 0))) (.tup (.cons (.tup (.cons (.con (.str "chip")) (.cons (.con (.int 1)) .nil))) (.cons (.tup (.cons (.con (.str "cup")) (.cons (.con (.int 1)) .nil))) .nil))) (.var 6)) .nil)))) .nil))))) (k01Env ns (some kD) (some (.loc n)) (some F) (some L) (some one) (some two) (some d) x8) M) := by
  subst hd
  have g1 : good (6 + i) (4 + i) F = true := good_mono (by omega) (by omega) hF
  have g2 : good (6 + i) (4 + i) twoD = true := good_mono (n := 2) (m := 2) (by omega) (by omega) (by decide +kernel)
  obtain ⟨one', M1, a1, a2, a3⟩ := bent_spec n (6 + i) (16 - (4 + i)) (by omega) (by omega) (4 + i) (by omega) (if ((((i : Nat) : Int) % 3) == 0) = true then F else one) M hs (good_ite g1 h1)
  obtain ⟨two', M2, b1, b2, b3⟩ := bent_spec n (6 + i) (16 - (4 + i)) (by omega) (by omega) (4 + i) (by omega) (if ((((i : Nat) : Int) % 2) == 0) = true then twoD else two) M1 a3.src (good_ite g2 h2)
  rw [show 4 + i + (16 - (4 + i)) + 3 = 19 by omega] at a1 b1
  refine Sat.step (s_set (d := .lst [.bl (fairB one), .bl (lotB two)]) (e_lst (es_cons (e_call (es_cons (e_var rfl) es_nil) (is_fair_spec 15 one M h1)) (es_cons (e_call (es_cons (e_var rfl) es_nil) (is_lot_spec 14 two M h2)) es_nil)) (by simp))) ?_
  refine Sat.step (s_ite_ret (b := false) (e_cmp (x := .lst (([fairB one, lotB two].filter fun _ => false).map D.bl)) (e_lcf (q := D.bl) (i_seq (d := .lst ([fairB one, lotB two].map D.bl)) (e_var rfl) rfl) (by simp) (fun x _ => e_not (x := true) (e_isi (e_var rfl) rfl)) fun x _ h => nomatch h) (e_lst es_nil (by simp)) rfl)) ?_
  refine Sat.step (if_neg (by decide)) ?_
  refine Sat.step (s_ite_ret (b := false) (e_cmp (e_var rfl) (e_lst (es_cons (e_call (es_cons (e_var rfl) es_nil) (law_is_fair_spec 16 one M h1 (by omega) (by omega))) (es_cons (e_call (es_cons (e_var rfl) es_nil) (law_is_lot_spec 16 two M h2 (by omega))) es_nil)) (by simp)) (ne_same (m := 2) (n := 1) M rfl (by decide)))) ?_
  refine Sat.step (if_neg (by decide)) ?_
  refine Sat.step (s_set (e_call (es_cons (e_var rfl) (es_cons (e_iteE (e_cmp (e_op2 (e_var rfl) e_con (mod_ok (by decide))) e_con (eq_int _ _ _)) (e_var rfl) (e_var rfl)) es_nil)) a1)) ?_
  refine Sat.step (s_set (e_call (es_cons (e_var rfl) (es_cons (e_iteE (e_cmp (e_op2 (e_var rfl) e_con (mod_ok (by decide))) e_con (eq_int _ _ _)) (e_tup (es_cons (e_tup (es_cons e_con (es_cons e_con es_nil)) (by simp)) (es_cons (e_tup (es_cons e_con (es_cons e_con es_nil)) (by simp)) es_nil)) (by simp)) (e_var rfl)) es_nil)) b1)) ?_
  refine Sat.step s_nil (Sat.go ⟨one', two', _, _, rfl, ?_, ?_, b3.src, (ha.drw a3).drw b3⟩)
  · exact a2
  · exact b2
end CB
end
section
set_option maxHeartbeats 1000000
/-! P26: the law k01, whole. -/
namespace CB
open PySem
def goodS : D := .tup [.int 2, .int 0, .non, .tup [.int 0, .int 2], .int 1, .int 9]
def cup20 : D := .tup [.str "cup", .int 2, .int 0]
def rows1 : List D := [.tup [.tup [goodS], .tup []], .tup [.tup [goodS, goodS, goodS, goodS], .tup [cup20, cup20, cup20]], .tup [.tup [goodS, goodS, goodS, goodS, goodS], .tup []], .tup [.tup [], .tup []], .tup [.tup [goodS], .tup [.tup [.str "cup", .int 0]]]]
def rows2 : List D := [.tup [.tup [.tup [.int 2, .int 0, .non, .tup [.int 0, .int 2], .int 3, .int 9]], .tup []], .tup [.tup [.tup [.int 2, .int 0, .non, .tup [.int 2, .int 0], .int 1, .int 9]], .tup []], .tup [.tup [.tup [.int 10, .int 0, .non, .tup [.int 0, .int 2], .int 1, .int 9]], .tup []]]
def th (w : Str) (s : Int) : D := .tup [.str w, .int s]
def lots1 : List D := [.tup [], .tup [th "cup" 1, th "cup" 1], .tup [th "chip" 2, th "cup" 0], .tup [th "cup" 0, th "chip" 2], .tup [th "cup" 0, th "cup" 0, th "cup" 0]]
def chipsS : List Sd := [⟨3, 0, some 0, [], none, 3⟩, ⟨1, 1, none, [0], none, 1⟩]
def dueS : D := .lst [.tup [.str "buy", .int 0], .tup [.str "give", .int 1, .int 0], .tup [.str "take", .int 0], .tup [.str "take", .int 1]]
theorem chipsS_ok : ∀ s ∈ chipsS, s.ok := by
  intro s hs
  simp only [chipsS, List.mem_cons, List.not_mem_nil, or_false] at hs
  rcases hs with rfl | rfl <;> exact ⟨by decide, by decide, by decide, by decide, by decide, by decide, by decide, by decide⟩
def Ss.tl : Ss → Ss
  | .cons _ r => r
  | .nil => .nil
theorem fin0 {b : Bool} (M : Mem) : fin 0 (.ret (.bl b) M) = .ok (.bl b) [] := by
  show finD 0 (.bl b) M = _
  unfold finD
  by_cases e : M.length = 0
  · rw [if_pos e, List.length_eq_zero_iff.mp e]
  · rw [if_neg e, if_pos ⟨Nat.zero_le _, rfl⟩]
    rfl
theorem rows_good : ∀ d ∈ rows1 ++ rows2, good 50 10 d = true := List.all_eq_true.mp (by decide +kernel)
theorem lots_good : ∀ d ∈ lots1, good 50 10 d = true := List.all_eq_true.mp (by decide +kernel)
theorem k01_tail {ns : List Int} {x1 x2 x3 x4 x5 x6 x7 x8 : Option D} {M : Mem} (ha : AllSrc M) : Sat (fun r => fin 0 r = .ok (.bl true) []) (exs (callF FDS 19) ((B_law_k01).tl) (k01Env ns x1 x2 x3 x4 x5 x6 x7 x8) M) := by
  refine Sat.step (s_set (d := goodS) (M' := M) rfl) ?_
  refine Sat.step (s_set (d := .lst rows1) (M' := M) rfl) ?_
  refine Sat.step (s_set (d := .lst (rows1 ++ rows2)) (M' := M) rfl) ?_
  refine Sat.step (s_ite_ret (b := false) (M' := M) (e_cmp (y := .lst [.bl true, .bl true, .bl false, .bl false, .bl false, .bl false, .bl false, .bl false]) (ev_lc1 (ds := rows1 ++ rows2) (fun d => .bl (fairB d)) (i_seq (e_var rfl) rfl) (by decide) fun d hd => ⟨_, rfl, e_call (es_cons (e_var rfl) es_nil) (is_fair_spec 15 d M (rows_good d hd))⟩) rfl rfl)) ?_
  refine Sat.step (if_neg (by decide)) ?_
  refine Sat.step (s_set (d := .lst lots1) (M' := M) rfl) ?_
  refine Sat.step (s_ite_ret (b := false) (M' := M) (e_cmp (y := .lst [.bl true, .bl true, .bl true, .bl false, .bl false]) (ev_lc1 (ds := lots1) (fun d => .bl (lotB d)) (i_seq (e_var rfl) rfl) (by decide) fun d hd => ⟨_, rfl, e_call (es_cons (e_var rfl) es_nil) (is_lot_spec 14 d M (lots_good d hd))⟩) rfl rfl)) ?_
  refine Sat.step (if_neg (by decide)) ?_
  refine Sat.step (s_set (d := .tup (chipsS.map Sd.d)) (M' := M) rfl) ?_
  refine Sat.step (s_set (d := dueS) (M' := M) rfl) ?_
  refine Sat.step (s_ret (d := .bl true) (M' := M) (e_and (x := true) (y := true) (e_cmp (x := .lst ((strC chipsS 0 chipsS).map nD)) (e_call (ds := [fairD chipsS []]) rfl (stranded_spec 13 (m := 50) (n := 10) chipsS [] M ha (by decide +kernel) (by decide +kernel) (by decide))) rfl rfl) fun _ => e_cmp (x := .lst ((deedC chipsS 1).map dd)) (e_call (ds := [fairD chipsS [.tup [.str "cup", .int 0, .int 1]]]) rfl (deeds_spec 13 (m := 50) (n := 10) chipsS [.tup [.str "cup", .int 0, .int 1]] M (by decide +kernel) (by decide +kernel) chipsS_ok (by decide) (by decide))) (e_var rfl) (by show cmp2 [] .eq (.lst ((deedC chipsS 1).map dd)) dueS = some true; decide +kernel))) ?_
  exact fin0 M
theorem k01_true (ns : List Int) (hn : ns.length ≤ 63) : callF FDS 20 j_law_k01 [.scr ns] [] = .ok (.bl true) [] := by
  rw [callF_at fds_law_k01 rfl]
  refine Sat.fin ?_
  show Sat (fun r => fin 0 r = _) (exs _ B_law_k01 (k01Env ns none none none none none none none none) [])
  have hrng : ev (callF FDS 19) (.op2 .add (.con (.int 1)) (.b .min2 (.cons (.b .len (.cons (.var 0) .nil)) (.cons (.con (.int 10)) .nil)))) (k01Env ns none none none none none none none none) [] = .ok (.int ((1 + min ns.length 10 : Nat) : Int)) [] :=
    e_op2 e_con (e_b (d := .int ((min ns.length 10 : Nat) : Int)) (es_cons (e_b (d := .int (ns.length : Int)) (es_cons (e_var rfl) es_nil) rfl) (es_cons e_con es_nil)) (by
      show some (D.int (if (10 : Int) < (ns.length : Int) then 10 else (ns.length : Int))) = _
      congr 2
      split <;> omega)) (by
      show some (D.int (1 + ((min ns.length 10 : Nat) : Int))) = _
      congr 2)
  refine Sat.step (s_for (i_rng (n := 1 + min ns.length 10) hrng (by omega))) ?_
  refine Sat.for_ (fun i δ M => ∃ x1 x2 x3 x4 x5 x6 x7 x8, δ = k01Env ns x1 x2 x3 x4 x5 x6 x7 x8 ∧ AllSrc M) ⟨none, none, none, none, none, none, none, none, rfl, fun o ho => by simp at ho⟩ ?_ ?_
  · rintro i d hd δ M ⟨x1, x2, x3, x4, x5, x6, x7, x8, rfl, ha⟩
    obtain ⟨hi, rfl⟩ := rngL_get hd
    rw [Int.zero_add]
    show Sat _ (exs _ _ (k01Env ns (some (nD i)) x2 x3 x4 x5 x6 x7 x8) M)
    obtain ⟨x, y, a1, y0, y1⟩ := source_spec 18 i ns M ha (by omega)
    have hs : SrcM (M ++ [.lst [.int x, .int y]]) M.length := ⟨x, y, by rw [List.getElem?_append_right (Nat.le_refl _)]; simp, y0, y1⟩
    have ha1 : AllSrc (M ++ [.lst [.int x, .int y]]) := fun o ho => by
      rcases List.mem_append.mp ho with h | h
      · exact ha o h
      · exact ⟨x, y, by simpa using h⟩
    obtain ⟨F, M1, b1, hF, b2⟩ := fair_spec 15 M.length 4 _ hs ha1 (by decide) (by decide)
    obtain ⟨L, M2, c1, hL, c2⟩ := lot_spec 16 M.length M1 b2.src
    have ha2 : AllSrc M2 := (ha1.drw b2).drw c2
    have gF : good 6 4 F = true := good_fair (n := 0) (by decide) hF
    have gL : good 6 4 L = true := good_lot (n := 2) (by decide) hL
    refine Sat.step (s_set (e_call (es_cons (e_var rfl) (es_cons (e_var rfl) es_nil)) a1)) ?_
    refine Sat.step (s_par2 (e_call (es_cons (e_var rfl) (es_cons e_con es_nil)) b1) (e_call (es_cons (e_var rfl) (es_cons e_con es_nil)) c1)) ?_
    show Sat _ (exs _ _ (k01Env ns (some (nD i)) (some (.loc M.length)) (some F) (some L) x5 x6 x7 x8) M2)
    refine Sat.step (s_ite_ret (b := false) (M' := M2) ?_) ?_
    · obtain ⟨ss, bs, rfl, s1, s4, b3, hss, hbs⟩ := fair_data hF
      refine e_or (x := false) (y := false) (e_cmp (e_call (es_cons (e_var rfl) es_nil) (deeds_spec 13 ss bs M2 gF hF hss s4 b3)) (e_call (es_cons (e_var rfl) es_nil) (law_deeds_spec 18 ss bs M2 hss s4 b3)) (ne_same M2 (good_dd (deedC_codes hss s4 b3) (deedC_len hss s4 b3)) (by decide))) fun _ => ?_
      exact e_cmp (e_call (es_cons (e_var rfl) es_nil) (stranded_spec 13 ss bs M2 ha2 gF hF s4)) (e_call (es_cons (e_var rfl) es_nil) (law_stranded_spec 17 ss bs M2 ha2 hss s4 b3)) (ne_same M2 (good_nD (by have := strC_len ss 0 ss; omega)) (by decide))
    refine Sat.step (if_neg (by decide)) ?_
    refine Sat.step (s_par2 (e_var rfl) (e_var rfl)) ?_
    show Sat _ (exs _ _ (k01Env ns (some (nD i)) (some (.loc M.length)) (some F) (some L) (some F) (some L) x7 x8) M2)
    refine Sat.step (s_for (i_rng (n := 13) e_con (by decide))) ?_
    refine Sat.for_ (fun i' δ M' => ∃ one two x7 x8, δ = k01Env ns (some (nD i)) (some (.loc M.length)) (some F) (some L) (some one) (some two) x7 x8 ∧ good (6 + i') (4 + i') one = true ∧ good (6 + i') (4 + i') two = true ∧ SrcM M' M.length ∧ AllSrc M') ⟨F, L, x7, x8, rfl, gF, gL, c2.src, ha2⟩ ?_ ?_
    · rintro i' d hd δ M' ⟨one, two, x7, x8, rfl, h1, h2, h3, h4⟩
      obtain ⟨hi', rfl⟩ := rngL_get hd
      rw [Int.zero_add]
      exact k01_turn (x7 := x7) rfl hi' gF gL h1 h2 h3 h4
    · rintro δ M' ⟨one, two, x7, x8, rfl, h1, h2, h3, h4⟩
      obtain ⟨ss, bs, rfl, s1, s4, b3, hss, hbs⟩ := fair_data hF
      refine Sat.step (s_ite_ret (b := false) (M' := M') (e_or (x := false) (y := false) (e_cmp (e_call (ds := [.lst [.tup (ss.map Sd.d), .tup bs]]) (es_cons (e_b (es_cons (e_var rfl) es_nil) rfl) es_nil) (is_fair_spec 15 _ M' (m := 6) (n := 4) (by rw [good_lstT]; exact gF))) e_con rfl) fun _ => ?_)) ?_
      · obtain ⟨l, rfl⟩ : ∃ l, L = .tup l := by unfold lotB at hL; split at hL <;> first | exact ⟨_, rfl⟩ | cases hL
        exact e_cmp (e_call (ds := [.lst l]) (es_cons (e_b (es_cons (e_var rfl) es_nil) rfl) es_nil) (is_lot_spec 14 _ M' (m := 6) (n := 4) (by rw [good_lstT]; exact gL))) e_con rfl
      refine Sat.step (if_neg (by decide)) ?_
      refine Sat.step s_nil (Sat.go ⟨_, _, _, _, _, _, _, _, rfl, h4⟩)
  · rintro δ M ⟨x1, x2, x3, x4, x5, x6, x7, x8, rfl, ha⟩
    exact k01_tail ha
end CB
end
section
set_option maxHeartbeats 1000000
/-! P24b: steps that leave the memory alone; loops over keys; clean memories. -/
namespace CB
open PySem
section
variable {Φ : Nat → List D → Mem → Rs D} {δ : Env} {M M' : Mem}
theorem p_set {i : Nat} {e : T} {d : D} {ss : Ss} (h : ev Φ e δ M = .ok d M) : exs Φ (.cons (.set i e) ss) δ M = exs Φ ss (δ.set i (some d)) M := s_set h
theorem p_ret {e : T} {d : D} {ss : Ss} (h : ev Φ e δ M = .ok d M) : exs Φ (.cons (.ret e) ss) δ M = .ret d M := s_ret h
theorem p_asg {p : Pt} {e : T} {d : D} {ss : Ss} {δ' : Env} (h : ev Φ e δ M = .ok d M) (ha : asgP p d δ = some δ') : exs Φ (.cons (.asg p e) ss) δ M = exs Φ ss δ' M := s_asg h ha
theorem p_expr {e : T} {d : D} {ss : Ss} (h : ev Φ e δ M = .ok d M) : exs Φ (.cons (.expr e) ss) δ M = exs Φ ss δ M := s_expr h
/-- if c: return d -/
theorem p_ifret {c : T} {d : D} {ss : Ss} {b : Bool} (h : ev Φ c δ M = .ok (.bl b) M) : exs Φ (.cons (.ite c (.cons (.ret (.con d)) .nil) .nil) ss) δ M = if b = true then .ret d M else exs Φ ss δ M := s_ite_ret h
theorem p_ifno {c : T} {d : D} {ss : Ss} (h : ev Φ c δ M = .ok (.bl false) M) : exs Φ (.cons (.ite c (.cons (.ret (.con d)) .nil) .nil) ss) δ M = exs Φ ss δ M := (s_ite_ret h).trans (if_neg (by decide))
theorem p_ifyes {c : T} {d : D} {ss : Ss} (h : ev Φ c δ M = .ok (.bl true) M) : exs Φ (.cons (.ite c (.cons (.ret (.con d)) .nil) .nil) ss) δ M = .ret d M := (s_ite_ret h).trans (if_pos rfl)
theorem p_ite {c : T} {a b : Ss} {ss : Ss} {t : Bool} (h : ev Φ c δ M = .ok (.bl t) M) : exs Φ (.cons (.ite c a b) ss) δ M = (if t = true then exs Φ a δ M else exs Φ b δ M).next fun δ' M' => exs Φ ss δ' M' := s_ite h
theorem p_itet {c : T} {a b : Ss} {ss : Ss} (h : ev Φ c δ M = .ok (.bl true) M) : exs Φ (.cons (.ite c a b) ss) δ M = (exs Φ a δ M).next fun δ' M' => exs Φ ss δ' M' := s_ite h
theorem p_itef {c : T} {a : Ss} {ss : Ss} (h : ev Φ c δ M = .ok (.bl false) M) : exs Φ (.cons (.ite c a .nil) ss) δ M = exs Φ ss δ M := by
  rw [s_ite h, if_neg (by decide), s_nil, Rf.next_nx]
theorem p_par2 {i j : Nat} {a b : T} {x y : D} {ss : Ss} (h : ev Φ a δ M = .ok x M) (h2 : ev Φ b δ M = .ok y M) : exs Φ (.cons (.par2 i j a b) ss) δ M = exs Φ ss ((δ.set i (some x)).set j (some y)) M := s_par2 h h2
theorem s_forK {p : Pt} {i : Nat} {body ss : Ss} {l : List (List Int × D)} (h : getVar δ i = some (.dct l)) : exs Φ (.cons (.forK p i body) ss) δ M = (noEx (forGo (fun d δ M => match asgP p d δ with | some δ' => exs Φ body δ' M | none => .stuck) (l.map fun q => D.key q.1) δ M)).next fun δ' M' => exs Φ ss δ' M' := by
  conv => lhs; unfold exs
  unfold ex
  rw [h] <;> rfl
theorem e_key {es : Ts} {ds : List D} {ks : List Int} (h : evs Φ es δ M = .ok ds M') (hl : ds.length ≤ 1000) (hi : dInts ds = some ks) : ev Φ (.key es) δ M = .ok (.key ks) M' := by
  conv => lhs; unfold ev
  rw [h]
  simp [hl, hi]
theorem e_call0 {f : Nat} {d : D} (h : Φ f [] M = .ok d M) : ev Φ (.call0 f) δ M = .ok d M := by
  conv => lhs; unfold ev
  rw [h]; rfl
theorem i_rng2 {a b : T} {x y : Int} {M2 : Mem} {ds : List D} (h : ev Φ a δ M = .ok (.int x) M') (h2 : ev Φ b δ M' = .ok (.int y) M2) (h3 : rng2L (.int x) (.int y) = some ds) : evi Φ (.rng2 a b) δ M = .ok ds M2 := by
  conv => lhs; unfold evi
  rw [h]
  simp [h2, h3]
end
theorem forGo_inv {f : D → Env → Mem → Rf} (I : Nat → Env → Mem → Prop) : ∀ {ds : List D} {δ : Env} {M : Mem}, I 0 δ M → (∀ (i : Nat) (d : D), ds[i]? = some d → ∀ δ M, I i δ M → Sat (NX (I (i + 1))) (f d δ M)) → ∃ δ' M', forGo f ds δ M = .nx δ' M' ∧ I ds.length δ' M' := by
  have go : ∀ (ds : List D) (n : Nat) (δ : Env) (M : Mem), I n δ M → (∀ (i : Nat) (d : D), ds[i]? = some d → ∀ δ M, I (n + i) δ M → Sat (NX (I (n + i + 1))) (f d δ M)) → ∃ δ' M', forGo f ds δ M = .nx δ' M' ∧ I (n + ds.length) δ' M' := by
    intro ds
    induction ds with
    | nil => exact fun n δ M h0 _ => ⟨δ, M, rfl, h0⟩
    | cons d ds ih =>
      intro n δ M h0 hs
      obtain ⟨δ', M', e, q⟩ := hs 0 d rfl δ M h0
      obtain ⟨δ2, M2, e2, q2⟩ := ih (n + 1) δ' M' q fun i d hd δ M hI => by
        have e2 : n + 1 + i = n + (i + 1) := by omega
        rw [e2] at hI ⊢
        exact hs (i + 1) d (by rw [List.getElem?_cons_succ]; exact hd) δ M hI
      refine ⟨δ2, M2, (forGo_cons e).trans e2, ?_⟩
      have e3 : n + (d :: ds).length = n + 1 + ds.length := by simp; omega
      rw [e3]; exact q2
  intro ds δ M h0 hs
  obtain ⟨δ', M', h1, h2⟩ := go ds 0 δ M h0 fun i d hd δ M hI => by rw [Nat.zero_add] at hI ⊢; exact hs i d hd δ M hI
  exact ⟨δ', M', h1, by rw [Nat.zero_add] at h2; exact h2⟩
theorem Sat.forK {P : Rf → Prop} {f : D → Env → Mem → Rf} {k : Env → Mem → Rf} (I : Nat → Env → Mem → Prop) {ds : List D} {δ : Env} {M : Mem} (h0 : I 0 δ M) (hs : ∀ (i : Nat) (d : D), ds[i]? = some d → ∀ δ M, I i δ M → Sat (NX (I (i + 1))) (f d δ M)) (hk : ∀ δ' M', I ds.length δ' M' → Sat P (k δ' M')) : Sat P ((noEx (forGo f ds δ M)).next k) := by
  obtain ⟨δ', M', e, h⟩ := forGo_inv I h0 hs
  rw [e]
  exact hk δ' M' h
/-- a loop that is the last -/
theorem Sat.forN {P : Rf → Prop} {f : D → Env → Mem → Rf} {k : Env → Mem → Rf} (I : Nat → Env → Mem → Prop) {ds : List D} {δ : Env} {M : Mem} (h0 : I 0 δ M) (hs : ∀ (i : Nat) (d : D), ds[i]? = some d → ∀ δ M, I i δ M → Sat (NX (I (i + 1))) (f d δ M)) (hk : ∀ δ' M', I ds.length δ' M' → Sat P (k δ' M')) : Sat P ((forGo f ds δ M).next k) := by
  obtain ⟨δ', M', e, h⟩ := forGo_inv I h0 hs
  rw [e]
  exact hk δ' M' h
/-- nothing in the memory points into it -/
def Clean (M : Mem) : Prop := ∀ n, M.all (okMO n) = true
theorem AllSrc.clean {M : Mem} (h : AllSrc M) : Clean M := h.ok
theorem fin_out {n : Nat} {B R : Mem} {d : D} (hB : B.length = n) (hc : Clean B) (hd : okB n d = true) (hl : ∀ j, d ≠ .loc j) : fin n (.ret d (B ++ R)) = .ok d B := by
  have ht : (B ++ R).take n = B := by rw [← hB, List.take_left]
  show finD n d (B ++ R) = _
  unfold finD
  by_cases e : (B ++ R).length = n
  · rw [if_pos e]
    have : R = [] := by
      rw [List.length_append] at e
      exact List.eq_nil_of_length_eq_zero (by omega)
    rw [this, List.append_nil]
  · rw [if_neg e, if_pos ⟨by simp; omega, by rw [ht]; exact hc n⟩, ht]
    cases d with
    | loc j => exact absurd rfl (hl j)
    | _ => exact if_pos hd
end CB
end
section
set_option maxHeartbeats 1000000
/-! G01: ways of edges, by themselves: chains, the cutting of cycles, the dict of cheapest ways. -/
namespace CB
open PySem
structure Edge where
  fr : Nat
  to : Nat
  c : Int
  d : Nat
/-- what goes by nothing, or by throwing away -/
def Fr (u v : Nat) : Prop := u = v ∨ (1 ≤ u ∧ u ≤ 3 ∧ (v = 0 ∨ 4 ≤ v ∧ v ≤ 6)) ∨ (u = 0 ∧ 4 ≤ v ∧ v ≤ 6)
instance (u v : Nat) : Decidable (Fr u v) := by unfold Fr; infer_instance
theorem Fr.rfl {u : Nat} : Fr u u := Or.inl (Eq.refl u)
theorem Fr.trans {u v w : Nat} (h : Fr u v) (k : Fr v w) : Fr u w := by unfold Fr at *; omega
def Ch : Nat → List Edge → Nat → Prop
  | u, [], v => Fr u v
  | u, e :: es, v => Fr u e.fr ∧ Ch e.to es v
def costE (es : List Edge) : Int := (es.map (·.c)).sum
@[simp] theorem costE_nil : costE [] = 0 := rfl
@[simp] theorem costE_cons (e : Edge) (es : List Edge) : costE (e :: es) = e.c + costE es := by simp [costE]
@[simp] theorem costE_append (a b : List Edge) : costE (a ++ b) = costE a + costE b := by simp [costE]
theorem ch_mid : ∀ {a : List Edge} {u : Nat} {e : Edge} {b : List Edge} {v : Nat}, Ch u (a ++ e :: b) v ↔ Ch u a e.fr ∧ Ch e.to b v
  | [], u, e, b, v => Iff.rfl
  | x :: a, u, e, b, v => by
    show (Fr u x.fr ∧ Ch x.to (a ++ e :: b) v) ↔ (Fr u x.fr ∧ Ch x.to a e.fr) ∧ Ch e.to b v
    rw [ch_mid, and_assoc]
theorem ch_join : ∀ {a : List Edge} {u v w : Nat} {b : List Edge}, Ch u a v → Ch v b w → Ch u (a ++ b) w
  | [], u, v, w, [], h, k => Fr.trans h k
  | [], u, v, w, e :: b, h, k => ⟨Fr.trans h k.1, k.2⟩
  | x :: a, u, v, w, b, h, k => ⟨h.1, ch_join h.2 k⟩
theorem dup_split : ∀ {l : List Edge}, ¬ (l.map (·.fr)).Nodup → ∃ a e m f b, l = a ++ e :: (m ++ f :: b) ∧ e.fr = f.fr
  | [], h => (h List.nodup_nil).elim
  | x :: l, h => by
    by_cases hx : x.fr ∈ l.map (·.fr)
    · obtain ⟨f, hf, e⟩ := List.mem_map.mp hx
      obtain ⟨m, b, rfl⟩ := List.append_of_mem hf
      exact ⟨[], x, m, f, b, rfl, e.symm⟩
    · have : ¬ (l.map (·.fr)).Nodup := fun q => h (by rw [List.map_cons]; exact List.nodup_cons.mpr ⟨hx, q⟩)
      obtain ⟨a, e, m, f, b, rfl, q⟩ := dup_split this
      exact ⟨x :: a, e, m, f, b, rfl, q⟩
theorem cut_split {es : List Edge} (h : 8 ≤ es.length) (hn : ∀ e ∈ es, e.fr < 7) : ∃ a e m f b, es = a ++ e :: (m ++ f :: b) ∧ e.fr = f.fr ∧ m.length ≤ 6 := by
  have h8 : (es.take 8).length = 8 := by rw [List.length_take]; omega
  have nd : ¬ ((es.take 8).map (·.fr)).Nodup := fun q => by
    have := q.length_le_of_subset (l₂ := List.range 7) fun x hx => by
      obtain ⟨e, he, rfl⟩ := List.mem_map.mp hx
      exact List.mem_range.mpr (hn e (List.mem_of_mem_take he))
    rw [List.length_map, h8, List.length_range] at this
    omega
  obtain ⟨a, e, m, f, b, q, ef⟩ := dup_split nd
  refine ⟨a, e, m, f, b ++ es.drop 8, ?_, ef, ?_⟩
  · have e2 : es = es.take 8 ++ es.drop 8 := (List.take_append_drop 8 es).symm
    rw [q] at e2
    refine e2.trans ?_
    simp
  · have := congrArg List.length q
    rw [h8] at this
    simp at this
    omega
/-! ### the dict -/
abbrev Al (α : Type) := List ((Nat × Nat) × α)
abbrev Wy := Al (Int × List Nat)
section
variable {α : Type}
def wGet (k : Nat × Nat) : Al α → Option α
  | [] => none
  | (q, v) :: r => if q = k then some v else wGet k r
def wPut (k : Nat × Nat) (v : α) (l : Al α) : Al α :=
  if (l.any fun p => decide (p.1 = k)) = true then l.map (fun p => if p.1 = k then (p.1, v) else p) else l ++ [(k, v)]
theorem wGet_map (j k : Nat × Nat) (v : α) : ∀ l : Al α, wGet j (l.map fun p => if p.1 = k then (p.1, v) else p) = if k = j then (wGet j l).map fun _ => v else wGet j l
  | [] => by simp [wGet]
  | (q, x) :: r => by
    rw [List.map_cons]
    have ih := wGet_map j k v r
    by_cases h : q = k
    · subst h
      simp only [if_true]
      unfold wGet
      by_cases h2 : q = j
      · subst h2; simp
      · rw [if_neg h2, if_neg h2, ih, if_neg h2]
        simp [h2]
    · rw [if_neg h]
      unfold wGet
      by_cases h2 : q = j
      · subst h2
        rw [if_pos rfl, if_pos rfl, if_neg (fun e => h e.symm)]
      · rw [if_neg h2, if_neg h2, ih]
theorem wGet_app (j : Nat × Nat) : ∀ (l m : Al α), wGet j (l ++ m) = match wGet j l with | some v => some v | none => wGet j m
  | [], m => rfl
  | (q, x) :: r, m => by
    rw [List.cons_append]
    show (if q = j then some x else wGet j (r ++ m)) = match (if q = j then some x else wGet j r) with | some v => some v | none => wGet j m
    by_cases h : q = j
    · rw [if_pos h, if_pos h]
    · rw [if_neg h, if_neg h, wGet_app j r m]
theorem wGet_any (k : Nat × Nat) : ∀ l : Al α, (l.any fun p => decide (p.1 = k)) = (wGet k l).isSome
  | [] => rfl
  | (q, x) :: r => by
    rw [List.any_cons, wGet_any k r]
    show _ = (if q = k then some x else wGet k r).isSome
    by_cases h : q = k
    · rw [if_pos h]; simp [h]
    · rw [if_neg h]; simp [h]
theorem wGet_put (j k : Nat × Nat) (v : α) (l : Al α) : wGet j (wPut k v l) = if k = j then some v else wGet j l := by
  unfold wPut
  rw [wGet_any]
  by_cases h : (wGet k l).isSome = true
  · rw [if_pos h, wGet_map]
    by_cases e : k = j
    · subst e
      rw [if_pos rfl, if_pos rfl]
      cases q : wGet k l with
      | none => rw [q] at h; cases h
      | some x => rfl
    · rw [if_neg e, if_neg e]
  · rw [if_neg h, wGet_app]
    rw [Bool.not_eq_true, Option.isSome_eq_false_iff, Option.isNone_iff_eq_none] at h
    by_cases e : k = j
    · subst e
      rw [h, if_pos rfl]
      simp [wGet]
    · rw [if_neg e]
      cases wGet j l with
      | none => simp [wGet, e]
      | some x => rfl
theorem wGet_mem {k : Nat × Nat} {v : α} : ∀ {l : Al α}, wGet k l = some v → (k, v) ∈ l
  | [], h => by cases h
  | (q, x) :: r, h => by
    unfold wGet at h
    by_cases e : q = k
    · rw [if_pos e] at h; cases h; subst e; exact List.mem_cons_self
    · rw [if_neg e] at h; exact List.mem_cons_of_mem _ (wGet_mem h)
theorem wGet_of_mem {k : Nat × Nat} {v : α} : ∀ {l : Al α}, (k, v) ∈ l → ∃ v', wGet k l = some v'
  | (q, x) :: r, h => by
    unfold wGet
    by_cases e : q = k
    · exact ⟨x, if_pos e⟩
    · rw [if_neg e]
      rcases List.mem_cons.mp h with h | h
      · cases h; exact absurd rfl e
      · exact wGet_of_mem h
end
def betB (c : Int) : Option (Int × List Nat) → Bool
  | none => true
  | some p => decide (c < p.1)
def rlx (u : Nat) (c : Int) (ds : List Nat) (e : Edge) (f : Wy) (z : Nat) : Wy := if Fr e.to z ∧ betB (c + e.c) (wGet (u, z) f) = true then wPut (u, z) (c + e.c, ds ++ [e.d]) f else f
def rlxE (u b : Nat) (c : Int) (ds : List Nat) (f : Wy) (e : Edge) : Wy := if e.fr = b then (List.range 7).foldl (rlx u c ds e) f else f
def rlxP (E : List Edge) (W : Wy) (f : Wy) (p : (Nat × Nat) × Int × List Nat) : Wy := match wGet p.1 W with
  | some v => E.foldl (rlxE p.1.1 p.1.2 v.1 v.2) f
  | none => f
def copyS (W f : Wy) (p : (Nat × Nat) × Int × List Nat) : Wy := match wGet p.1 W with
  | some v => wPut p.1 v f
  | none => f
def copyP (W : Wy) : Wy := W.foldl (copyS W) []
def longerP (E : List Edge) (W : Wy) : Wy := W.foldl (rlxP E W) (copyP W)
theorem copy_aux (W : Wy) (k : Nat × Nat) : ∀ (l f : Wy), (∀ p ∈ l, p ∈ W) → (wGet k f = wGet k W ∨ wGet k f = none) → (wGet k (l.foldl (copyS W) f) = wGet k W) ∨ (wGet k (l.foldl (copyS W) f) = wGet k f ∧ ∀ p ∈ l, p.1 ≠ k)
  | [], f, _, h => .inr ⟨rfl, by simp⟩
  | p :: l, f, hl, h => by
    rw [List.foldl_cons]
    obtain ⟨v, hv⟩ := wGet_of_mem (k := p.1) (v := p.2) (hl p List.mem_cons_self)
    have e1 : copyS W f p = wPut p.1 v f := by unfold copyS; rw [hv]
    by_cases hk : p.1 = k
    · have e2 : wGet k (copyS W f p) = wGet k W := by rw [e1, wGet_put, if_pos hk, ← hk, hv]
      rcases copy_aux W k l (copyS W f p) (fun q hq => hl q (List.mem_cons_of_mem _ hq)) (.inl e2) with h1 | ⟨h1, h2⟩
      · exact .inl h1
      · exact .inl (h1.trans e2)
    · have e2 : wGet k (copyS W f p) = wGet k f := by rw [e1, wGet_put, if_neg hk]
      rcases copy_aux W k l (copyS W f p) (fun q hq => hl q (List.mem_cons_of_mem _ hq)) (by rw [e2]; exact h) with h1 | ⟨h1, h2⟩
      · exact .inl h1
      · refine .inr ⟨h1.trans e2, fun q hq => ?_⟩
        rcases List.mem_cons.mp hq with rfl | hq
        · exact hk
        · exact h2 q hq
theorem wGet_copy (W : Wy) (k : Nat × Nat) : wGet k (copyP W) = wGet k W := by
  rcases copy_aux W k W [] (fun _ h => h) (.inr rfl) with h | ⟨h1, h2⟩
  · exact h
  · unfold copyP
    rw [h1]
    cases q : wGet k W with
    | none => rfl
    | some v => exact absurd rfl (h2 _ (wGet_mem q))
/-! ### what the turns do -/
def LeW (f f' : Wy) : Prop := ∀ k v, wGet k f = some v → ∃ v', wGet k f' = some v' ∧ v'.1 ≤ v.1
theorem LeW.refl (f : Wy) : LeW f f := fun k v h => ⟨v, h, Int.le_refl _⟩
theorem LeW.trans {f g h : Wy} (a : LeW f g) (b : LeW g h) : LeW f h := fun k v e => by
  obtain ⟨v', h1, h2⟩ := a k v e
  obtain ⟨v2, h3, h4⟩ := b k v' h1
  exact ⟨v2, h3, Int.le_trans h4 h2⟩
theorem foldl_le {α : Type} {g : Wy → α → Wy} (h : ∀ f a, LeW f (g f a)) : ∀ (l : List α) (f : Wy), LeW f (l.foldl g f)
  | [], f => .refl f
  | a :: l, f => (h f a).trans (foldl_le h l (g f a))
theorem foldl_hit {α : Type} {g : Wy → α → Wy} (h : ∀ f a, LeW f (g f a)) {P : Wy → Prop} (up : ∀ f f', LeW f f' → P f → P f') {a : α} (hp : ∀ f, P (g f a)) : ∀ {l : List α} (f : Wy), a ∈ l → P (l.foldl g f)
  | x :: l, f, hm => by
    rw [List.foldl_cons]
    rcases List.mem_cons.mp hm with rfl | hm
    · exact up _ _ (foldl_le h l _) (hp f)
    · exact foldl_hit h up hp _ hm
theorem foldl_keep {α : Type} {g : Wy → α → Wy} {P : Wy → Prop} : ∀ {l : List α} (f : Wy), (∀ f, ∀ a ∈ l, P f → P (g f a)) → P f → P (l.foldl g f)
  | [], f, _, p => p
  | x :: l, f, h, p => foldl_keep (g f x) (fun f a ha => h f a (List.mem_cons_of_mem _ ha)) (h f x List.mem_cons_self p)
theorem rlx_le (u : Nat) (c : Int) (ds : List Nat) (e : Edge) (f : Wy) (z : Nat) : LeW f (rlx u c ds e f z) := by
  intro k v h
  unfold rlx
  split
  · rename_i q
    rw [wGet_put]
    by_cases hk : (u, z) = k
    · rw [if_pos hk]
      refine ⟨_, rfl, ?_⟩
      have := q.2
      rw [hk, h] at this
      have := of_decide_eq_true (show decide (c + e.c < v.1) = true from this)
      show c + e.c ≤ v.1
      omega
    · rw [if_neg hk]; exact ⟨v, h, Int.le_refl _⟩
  · exact ⟨v, h, Int.le_refl _⟩
theorem rlxE_le (u b : Nat) (c : Int) (ds : List Nat) (f : Wy) (e : Edge) : LeW f (rlxE u b c ds f e) := by
  unfold rlxE
  split
  · exact foldl_le (rlx_le u c ds e) _ _
  · exact .refl _
theorem rlxP_le (E : List Edge) (W f : Wy) (p : (Nat × Nat) × Int × List Nat) : LeW f (rlxP E W f p) := by
  unfold rlxP
  split
  · exact foldl_le (rlxE_le _ _ _ _) _ _
  · exact .refl _
theorem longer_le (E : List Edge) (W : Wy) : LeW W (longerP E W) := by
  have h : LeW W (copyP W) := fun k v h => ⟨v, by rw [wGet_copy]; exact h, Int.le_refl _⟩
  exact h.trans (foldl_le (rlxP_le E W) _ _)
def AtMost (u z : Nat) (c : Int) (f : Wy) : Prop := ∃ v, wGet (u, z) f = some v ∧ v.1 ≤ c
theorem AtMost.up {u z : Nat} {c : Int} (f f' : Wy) (h : LeW f f') : AtMost u z c f → AtMost u z c f' := fun ⟨v, h1, h2⟩ => by
  obtain ⟨v', h3, h4⟩ := h _ _ h1
  exact ⟨v', h3, Int.le_trans h4 h2⟩
theorem rlx_at {u z : Nat} {c : Int} {ds : List Nat} {e : Edge} (h : Fr e.to z) (f : Wy) : AtMost u z (c + e.c) (rlx u c ds e f z) := by
  unfold rlx
  split
  · exact ⟨_, by rw [wGet_put, if_pos rfl], Int.le_refl _⟩
  · rename_i q
    cases hq : wGet (u, z) f with
    | none => exact absurd ⟨h, by rw [hq]; rfl⟩ q
    | some v =>
      refine ⟨v, hq, ?_⟩
      have : ¬ (c + e.c < v.1) := fun hl => q ⟨h, by rw [hq]; exact decide_eq_true hl⟩
      omega
theorem longer_at {E : List Edge} {W : Wy} {u b z : Nat} {v : Int × List Nat} {e : Edge} (h : wGet (u, b) W = some v) (he : e ∈ E) (hb : e.fr = b) (hz : z < 7) (hf : Fr e.to z) : AtMost u z (v.1 + e.c) (longerP E W) := by
  unfold longerP
  refine foldl_hit (rlxP_le E W) AtMost.up (a := ((u, b), v)) (fun f => ?_) _ (wGet_mem h)
  unfold rlxP
  simp only [h]
  refine foldl_hit (rlxE_le u b v.1 v.2) AtMost.up (a := e) (fun f => ?_) _ he
  unfold rlxE
  rw [if_pos hb]
  exact foldl_hit (rlx_le u v.1 v.2 e) AtMost.up (a := z) (fun f => rlx_at hf f) _ (List.mem_range.mpr hz)
theorem longer_from {E : List Edge} {W : Wy} {R : Nat × Nat → Int × List Nat → Prop} (h0 : ∀ k v, wGet k W = some v → R k v) (h1 : ∀ u b v e z, wGet (u, b) W = some v → e ∈ E → e.fr = b → z < 7 → Fr e.to z → R (u, z) (v.1 + e.c, v.2 ++ [e.d])) :
    ∀ k v, wGet k (longerP E W) = some v → R k v := by
  unfold longerP
  refine foldl_keep (P := fun f => ∀ k v, wGet k f = some v → R k v) _ (fun f p hp hf => ?_) (fun k v h => h0 k v (by rw [← wGet_copy]; exact h))
  unfold rlxP
  split
  · rename_i v hv
    refine foldl_keep (P := fun f => ∀ k v, wGet k f = some v → R k v) _ (fun f e he hf => ?_) hf
    unfold rlxE
    split
    · rename_i hb
      refine foldl_keep (P := fun f => ∀ k v, wGet k f = some v → R k v) _ (fun f z hz hf => ?_) hf
      unfold rlx
      split
      · rename_i q
        intro k x hx
        rw [wGet_put] at hx
        by_cases hk : (p.1.1, z) = k
        · rw [if_pos hk] at hx
          cases hx
          subst hk
          exact h1 p.1.1 p.1.2 v e z hv he hb (List.mem_range.mp hz) q.1
        · rw [if_neg hk] at hx; exact hf k x hx
      · exact hf
    · exact hf
  · exact hf
/-! ### what stands in the dict after t turns -/
structure Ways (E : List Edge) (t : Nat) (W : Wy) : Prop where
  real : ∀ u v x, wGet (u, v) W = some x → u < 7 ∧ v < 7 ∧ ∃ es, (∀ e ∈ es, e ∈ E) ∧ Ch u es v ∧ costE es = x.1 ∧ es.map (·.d) = x.2 ∧ es.length ≤ t
  full : ∀ u v es, u < 7 → v < 7 → (∀ e ∈ es, e ∈ E) → Ch u es v → es.length ≤ t → AtMost u v (costE es) W
theorem ways_step {E : List Edge} {t : Nat} {W : Wy} (hn : ∀ e ∈ E, e.fr < 7) (h : Ways E t W) : Ways E (t + 1) (longerP E W) := by
  refine ⟨fun u v x => ?_, fun u v es hu hv hes hc hl => ?_⟩
  · refine longer_from (R := fun k x => k.1 < 7 ∧ k.2 < 7 ∧ ∃ es, (∀ e ∈ es, e ∈ E) ∧ Ch k.1 es k.2 ∧ costE es = x.1 ∧ es.map (·.d) = x.2 ∧ es.length ≤ t + 1) (fun k v hk => ?_) (fun u b v e z hw he hb hz hf => ?_) (u, v) x
    · obtain ⟨h1, h2, es, h3, h4, h5, h6, h7⟩ := h.real k.1 k.2 v hk
      exact ⟨h1, h2, es, h3, h4, h5, h6, by omega⟩
    · obtain ⟨h1, h2, es, h3, h4, h5, h6, h7⟩ := h.real u b v hw
      refine ⟨h1, hz, es ++ [e], fun q hq => ?_, ch_mid.mpr ⟨by rw [hb]; exact h4, hf⟩, by simp [h5], by simp [h6], by simp; omega⟩
      rcases List.mem_append.mp hq with hq | hq
      · exact h3 q hq
      · rw [List.mem_singleton.mp hq]; exact he
  · by_cases hlt : es.length ≤ t
    · exact AtMost.up _ _ (longer_le E W) (h.full u v es hu hv hes hc hlt)
    · obtain ⟨a, e, rfl⟩ : ∃ a e, es = a ++ [e] := by
        rcases List.eq_nil_or_concat es with rfl | ⟨a, e, rfl⟩
        · simp at hlt
        · exact ⟨a, e, by simp⟩
      obtain ⟨h1, h2⟩ := ch_mid.mp hc
      have he : e ∈ E := hes e (by simp)
      obtain ⟨x, hx, hle⟩ := h.full u e.fr a hu (hn e he) (fun q hq => hes q (List.mem_append_left _ hq)) h1 (by simp at hl; omega)
      obtain ⟨y, hy, hle2⟩ := longer_at hx he rfl hv h2
      exact ⟨y, hy, by simp; omega⟩
def NoNeg (W : Wy) : Prop := ∀ n x, n < 7 → wGet (n, n) W = some x → 0 ≤ x.1
/-- all ways, if no turn found a gain -/
theorem ways_all {E : List Edge} {G : Nat → Wy} (hn : ∀ e ∈ E, e.fr < 7) (h : ∀ t, t ≤ 7 → Ways E t (G t)) (hg : ∀ t, 1 ≤ t → t ≤ 7 → NoNeg (G t)) : ∀ (n : Nat) (u v : Nat) (es : List Edge), es.length ≤ n → u < 7 → v < 7 → (∀ e ∈ es, e ∈ E) → Ch u es v → AtMost u v (costE es) (G 7) := by
  intro n
  induction n with
  | zero => exact fun u v es hl hu hv hes hc => (h 7 (by omega)).full u v es hu hv hes hc (by omega)
  | succ n ih =>
    intro u v es hl hu hv hes hc
    by_cases h8 : 8 ≤ es.length
    · obtain ⟨a, e, m, f, b, rfl, ef, hm⟩ := cut_split h8 fun e he => hn e (hes e he)
      obtain ⟨c1, c2⟩ := ch_mid.mp hc
      obtain ⟨c3, c4⟩ := ch_mid.mp c2
      have he : e ∈ E := hes e (by simp)
      have hcyc : Ch e.fr (e :: m) e.fr := ⟨.rfl, by rw [ef]; exact c3⟩
      have hmE : ∀ q ∈ e :: m, q ∈ E := fun q hq => hes q (by
        rcases List.mem_cons.mp hq with rfl | hq
        · simp
        · simp [hq])
      obtain ⟨x, hx, hle⟩ := (h (m.length + 1) (by omega)).full e.fr e.fr (e :: m) (hn e he) (hn e he) hmE hcyc (by simp)
      have h0 := hg (m.length + 1) (by omega) (by omega) e.fr x (hn e he) hx
      have hr : Ch u (a ++ f :: b) v := ch_mid.mpr ⟨by rw [← ef]; exact c1, c4⟩
      obtain ⟨y, hy, hy2⟩ := ih u v (a ++ f :: b) (by simp at hl ⊢; omega) hu hv (fun q hq => hes q (by
        rcases List.mem_append.mp hq with hq | hq
        · simp [hq]
        · rcases List.mem_cons.mp hq with rfl | hq
          · simp
          · simp [hq])) hr
      refine ⟨y, hy, ?_⟩
      simp at hle hy2 ⊢
      omega
    · exact (h 7 (by omega)).full u v es hu hv hes hc (by omega)
/-! ### the dict of ways, or none -/
def thKeys : List (Nat × Nat) := [(0, 0), (1, 1), (2, 2), (3, 3), (4, 4), (5, 5), (6, 6), (1, 0), (0, 4), (1, 4), (1, 5), (1, 6), (2, 0), (0, 5), (2, 4), (2, 5), (2, 6), (3, 0), (0, 6), (3, 4), (3, 5), (3, 6)]
def TH : Wy := thKeys.map fun k => (k, 0, [])
theorem th_keys : ∀ k ∈ thKeys, k.1 < 7 ∧ k.2 < 7 ∧ Fr k.1 k.2 := by decide
theorem th_all0 : ∀ u ∈ List.range 7, ∀ v ∈ List.range 7, Fr u v → (u, v) ∈ thKeys := by decide
theorem th_all (u : Nat) (hu : u < 7) (v : Nat) (hv : v < 7) : Fr u v → (u, v) ∈ thKeys := th_all0 u (List.mem_range.mpr hu) v (List.mem_range.mpr hv)
theorem TH_get {u v : Nat} {x : Int × List Nat} (h : wGet (u, v) TH = some x) : u < 7 ∧ v < 7 ∧ Fr u v ∧ x = (0, []) := by
  obtain ⟨k, hk, e⟩ := List.mem_map.mp (wGet_mem h)
  obtain ⟨e1, e2⟩ := Prod.mk.inj e
  obtain ⟨h1, h2, h3⟩ := th_keys k hk
  subst e1
  exact ⟨h1, h2, h3, e2.symm⟩
theorem ways_0 (E : List Edge) : Ways E 0 TH := by
  refine ⟨fun u v x h => ?_, fun u v es hu hv hes hc hl => ?_⟩
  · obtain ⟨h1, h2, h3, rfl⟩ := TH_get h
    exact ⟨h1, h2, [], by simp, h3, rfl, rfl, Nat.le_refl _⟩
  · obtain rfl : es = [] := by cases es with
      | nil => rfl
      | cons _ _ => simp at hl
    obtain ⟨x, hx⟩ := wGet_of_mem (k := (u, v)) (v := (0, [])) (l := TH) (List.mem_map.mpr ⟨(u, v), th_all u hu v hv hc, rfl⟩)
    obtain ⟨_, _, _, rfl⟩ := TH_get hx
    exact ⟨_, hx, Int.le_refl _⟩
def waysN (E : List Edge) : Nat → Wy
  | 0 => TH
  | t + 1 => longerP E (waysN E t)
def negB (W : Wy) : Bool := (List.range 7).any fun n => match wGet (n, n) W with | some x => decide (x.1 < 0) | none => false
def waysFrom (E : List Edge) : Nat → Wy → Option Wy
  | 0, W => some W
  | k + 1, W => if negB (longerP E W) = true then none else waysFrom E k (longerP E W)
def waysP (E : List Edge) : Option Wy := waysFrom E 7 TH
theorem waysN_ok {E : List Edge} (hn : ∀ e ∈ E, e.fr < 7) : ∀ t, Ways E t (waysN E t)
  | 0 => ways_0 E
  | t + 1 => ways_step hn (waysN_ok hn t)
theorem waysFrom_spec (E : List Edge) : ∀ (k t : Nat), (waysFrom E k (waysN E t) = none ∧ ∃ j, t < j ∧ j ≤ t + k ∧ negB (waysN E j) = true) ∨ (waysFrom E k (waysN E t) = some (waysN E (t + k)) ∧ ∀ j, t < j → j ≤ t + k → negB (waysN E j) = false)
  | 0, t => .inr ⟨rfl, fun j h1 h2 => by omega⟩
  | k + 1, t => by
    have e : longerP E (waysN E t) = waysN E (t + 1) := rfl
    unfold waysFrom
    rw [e]
    by_cases h : negB (waysN E (t + 1)) = true
    · rw [if_pos h]
      exact .inl ⟨rfl, t + 1, by omega, by omega, h⟩
    · rw [if_neg h]
      rw [Bool.not_eq_true] at h
      rcases waysFrom_spec E k (t + 1) with ⟨h1, j, h2, h3, h4⟩ | ⟨h1, h2⟩
      · exact .inl ⟨h1, j, by omega, by omega, h4⟩
      · refine .inr ⟨by rw [h1]; congr 2; omega, fun j h3 h4 => ?_⟩
        by_cases e : j = t + 1
        · rw [e]; exact h
        · exact h2 j (by omega) (by omega)
theorem negB_false {W : Wy} (h : negB W = false) : NoNeg W := fun n x hn hx => by
  unfold negB at h
  rw [List.any_eq_false] at h
  have := h n (List.mem_range.mpr hn)
  rw [hx] at this
  simp at this
  exact this
theorem negB_true {W : Wy} (h : negB W = true) : ∃ n x, n < 7 ∧ wGet (n, n) W = some x ∧ x.1 < 0 := by
  unfold negB at h
  rw [List.any_eq_true] at h
  obtain ⟨n, hn, h⟩ := h
  cases q : wGet (n, n) W with
  | none => rw [q] at h; cases h
  | some x => rw [q] at h; exact ⟨n, x, List.mem_range.mp hn, q, of_decide_eq_true h⟩
def InE (E es : List Edge) : Prop := ∀ e ∈ es, e ∈ E
/-- a way round that gains -/
def Gain (E : List Edge) : Prop := ∃ n es, n < 7 ∧ InE E es ∧ Ch n es n ∧ costE es < 0
structure Best (E : List Edge) (W : Wy) : Prop where
  real : ∀ u v x, wGet (u, v) W = some x → u < 7 ∧ v < 7 ∧ ∃ es, InE E es ∧ Ch u es v ∧ costE es = x.1 ∧ es.map (·.d) = x.2 ∧ es.length ≤ 7
  best : ∀ u v es, u < 7 → v < 7 → InE E es → Ch u es v → AtMost u v (costE es) W
  diag : NoNeg W
theorem waysP_none {E : List Edge} (hn : ∀ e ∈ E, e.fr < 7) (h : waysP E = none) : ∃ n es, n < 7 ∧ InE E es ∧ Ch n es n ∧ costE es < 0 ∧ es.length ≤ 7 := by
  rcases waysFrom_spec E 7 0 with ⟨_, j, h1, h2, h3⟩ | ⟨h1, _⟩
  · obtain ⟨n, x, h4, h5, h6⟩ := negB_true h3
    obtain ⟨_, _, es, e1, e2, e3, _, e4⟩ := (waysN_ok hn j).real n n x h5
    exact ⟨n, es, h4, e1, e2, by rw [e3]; exact h6, by omega⟩
  · have h1 : waysP E = _ := h1
    rw [h] at h1; cases h1
theorem waysP_some {E : List Edge} {W : Wy} (hn : ∀ e ∈ E, e.fr < 7) (h : waysP E = some W) : Best E W := by
  rcases waysFrom_spec E 7 0 with ⟨h1, _⟩ | ⟨h1, h2⟩
  · have h1 : waysP E = _ := h1
    rw [h] at h1; cases h1
  · have h1 : waysP E = _ := h1
    rw [h] at h1
    cases h1
    rw [Nat.zero_add]
    have hg : ∀ t, 1 ≤ t → t ≤ 7 → NoNeg (waysN E t) := fun t h3 h4 => negB_false (h2 t (by omega) (by omega))
    refine ⟨(waysN_ok hn 7).real, fun u v es hu hv hes hc => ways_all hn (fun t _ => waysN_ok hn t) hg es.length u v es (Nat.le_refl _) hu hv hes hc, hg 7 (by omega) (by omega)⟩
theorem Best.sound {E : List Edge} {W : Wy} (b : Best E W) : ¬ Gain E := fun ⟨n, es, h1, h2, h3, h4⟩ => by
  obtain ⟨x, h5, h6⟩ := b.best n n es h1 h1 h2 h3
  have := b.diag n x h1 h5
  omega
theorem ways_iff {E : List Edge} (hn : ∀ e ∈ E, e.fr < 7) : waysP E = none ↔ Gain E := by
  constructor
  · intro h
    obtain ⟨n, es, h1, h2, h3, h4, _⟩ := waysP_none hn h
    exact ⟨n, es, h1, h2, h3, h4⟩
  · intro h
    cases q : waysP E with
    | none => rfl
    | some W => exact ((waysP_some hn q).sound h).elim
end CB
end
section
set_option maxHeartbeats 1000000
/-! G02: the keys of the dict of ways. -/
namespace CB
open PySem
structure Kd (f : Wy) : Prop where
  nd : (f.map (·.1)).Nodup
  rg : ∀ p ∈ f, p.1.1 < 7 ∧ p.1.2 < 7
theorem Kd.len {f : Wy} (h : Kd f) : f.length ≤ 49 := by
  have := h.nd.length_le_of_subset (l₂ := (List.range 7).flatMap fun a => (List.range 7).map fun b => (a, b)) fun k hk => by
    obtain ⟨p, hp, rfl⟩ := List.mem_map.mp hk
    obtain ⟨h1, h2⟩ := h.rg p hp
    exact List.mem_flatMap.mpr ⟨p.1.1, List.mem_range.mpr h1, List.mem_map.mpr ⟨p.1.2, List.mem_range.mpr h2, rfl⟩⟩
  rw [List.length_map] at this
  exact this
theorem Kd.put {f : Wy} (h : Kd f) {u v : Nat} {x : Int × List Nat} (hu : u < 7) (hv : v < 7) : Kd (wPut (u, v) x f) := by
  unfold wPut
  split
  · refine ⟨?_, fun p hp => ?_⟩
    · have e : (f.map fun p => if p.1 = (u, v) then (p.1, x) else p).map (·.1) = f.map (·.1) := by
        rw [List.map_map]
        refine List.map_congr_left fun p _ => ?_
        show (if p.1 = (u, v) then (p.1, x) else p).1 = p.1
        split <;> rfl
      rw [e]; exact h.nd
    · obtain ⟨q, hq, rfl⟩ := List.mem_map.mp hp
      have := h.rg q hq
      split <;> exact this
  · rename_i hn
    refine ⟨?_, fun p hp => ?_⟩
    · rw [List.map_append, List.nodup_append]
      refine ⟨h.nd, by simp, fun a ha b hb e => ?_⟩
      simp only [List.map_cons, List.map_nil, List.mem_singleton] at hb
      subst e hb
      obtain ⟨p, hp, hq⟩ := List.mem_map.mp ha
      exact hn (List.any_eq_true.mpr ⟨p, hp, decide_eq_true hq⟩)
    · rcases List.mem_append.mp hp with hp | hp
      · exact h.rg p hp
      · rw [List.mem_singleton.mp hp]; exact ⟨hu, hv⟩
theorem kd_TH : Kd TH := ⟨by decide, by
  intro p hp
  obtain ⟨k, hk, rfl⟩ := List.mem_map.mp hp
  obtain ⟨h1, h2, _⟩ := th_keys k hk
  exact ⟨h1, h2⟩⟩
/-- what the turns keep -/
structure Kp (f : Wy) : Prop extends Kd f where
  ln : ∀ k x, wGet k f = some x → x.2.length ≤ 100
theorem Kp.put {f : Wy} (h : Kp f) {u v : Nat} {x : Int × List Nat} (hu : u < 7) (hv : v < 7) (hl : x.2.length ≤ 100) : Kp (wPut (u, v) x f) :=
  ⟨h.toKd.put hu hv, fun k y hy => by
    rw [wGet_put] at hy
    split at hy
    · cases hy; exact hl
    · exact h.ln k y hy⟩
theorem kp_copyS {W f : Wy} {p : (Nat × Nat) × Int × List Nat} (hW : Kp W) (hp : p ∈ W) (h : Kp f) : Kp (copyS W f p) := by
  unfold copyS
  split
  · rename_i v hv
    obtain ⟨h1, h2⟩ := hW.rg p hp
    exact h.put h1 h2 (hW.ln _ _ hv)
  · exact h
theorem kp_nil : Kp [] := ⟨⟨List.nodup_nil, by simp⟩, fun k x h => by cases h⟩
theorem kp_copy {W : Wy} (hW : Kp W) : ∀ l : Wy, (∀ p ∈ l, p ∈ W) → Kp (l.foldl (copyS W) []) := fun l hl =>
  foldl_keep (P := Kp) [] (fun f p hp h => kp_copyS hW (hl p hp) h) kp_nil
theorem kp_rlx {u z : Nat} {c : Int} {ds : List Nat} {e : Edge} {f : Wy} (hu : u < 7) (hz : z < 7) (hd : ds.length ≤ 99) (h : Kp f) : Kp (rlx u c ds e f z) := by
  unfold rlx
  split
  · exact h.put hu hz (by simp; omega)
  · exact h
theorem kp_rlxE {u b : Nat} {c : Int} {ds : List Nat} {e : Edge} {f : Wy} (hu : u < 7) (hd : ds.length ≤ 99) (h : Kp f) : Kp (rlxE u b c ds f e) := by
  unfold rlxE
  split
  · exact foldl_keep (P := Kp) f (fun f z hz h => kp_rlx hu (List.mem_range.mp hz) hd h) h
  · exact h
theorem kp_rlxP {E : List Edge} {W f : Wy} {p : (Nat × Nat) × Int × List Nat} (hW : Kp W) (h99 : ∀ k x, wGet k W = some x → x.2.length ≤ 99) (hp : p ∈ W) (h : Kp f) : Kp (rlxP E W f p) := by
  unfold rlxP
  split
  · rename_i v hv
    exact foldl_keep (P := Kp) f (fun f e _ h => kp_rlxE (hW.rg p hp).1 (h99 _ _ hv) h) h
  · exact h
theorem kp_longer {E : List Edge} {W : Wy} (hW : Kp W) (h99 : ∀ k x, wGet k W = some x → x.2.length ≤ 99) : Kp (longerP E W) :=
  foldl_keep (P := Kp) _ (fun f p hp h => kp_rlxP hW h99 hp h) (kp_copy hW W fun _ h => h)
theorem kd_waysN {E : List Edge} (hn : ∀ e ∈ E, e.fr < 7) : ∀ t, t ≤ 50 → Kp (waysN E t)
  | 0, _ => ⟨kd_TH, fun k x h => by
    obtain ⟨_, _, _, rfl⟩ := TH_get (u := k.1) (v := k.2) h
    simp⟩
  | t + 1, ht => kp_longer (kd_waysN hn t (by omega)) fun k x h => by
    obtain ⟨_, _, es, _, _, _, e, hl⟩ := (waysN_ok hn t).real k.1 k.2 x h
    rw [← e, List.length_map]; omega
end CB
end
section
set_option maxHeartbeats 1000000
/-! P27: shops and edges of a fair; edges_of. -/
namespace CB
open PySem
structure Bd where
  cup : Bool
  sort : Nat
  price : Nat
def wordS (b : Bool) : Str := if b = true then "cup" else "chip"
def Bd.d (b : Bd) : D := .tup [.str (wordS b.cup), nD b.sort, nD b.price]
structure Bd.ok (b : Bd) : Prop where
  sort : b.sort ≤ 2
  price : b.price ≤ 9
theorem shop_of {d : D} (h : shopB d = true) : ∃ b : Bd, d = b.d ∧ b.ok := by
  unfold shopB at h
  split at h
  · rename_i w s p
    simp only [Bool.and_eq_true] at h
    obtain ⟨⟨h1, h2⟩, h3⟩ := h
    obtain ⟨s, rfl, e1⟩ := nat_of (hi := 2) h2
    obtain ⟨p, rfl, e2⟩ := nat_of (hi := 9) h3
    rcases wordB_str h1 with rfl | rfl
    · exact ⟨⟨false, s, p⟩, rfl, e1, e2⟩
    · exact ⟨⟨true, s, p⟩, rfl, e1, e2⟩
  · cases h
theorem shops_of : ∀ {l : List D}, (∀ d ∈ l, shopB d = true) → ∃ bs : List Bd, l = bs.map Bd.d ∧ ∀ b ∈ bs, b.ok
  | [], _ => ⟨[], rfl, by simp⟩
  | d :: l, h => by
    obtain ⟨n, rfl, hn⟩ := shop_of (h d (by simp))
    obtain ⟨ns, rfl, hns⟩ := shops_of fun d hd => h d (List.mem_cons_of_mem _ hd)
    exact ⟨n :: ns, rfl, fun x hx => by
      rcases List.mem_cons.mp hx with e | e
      · rw [e]; exact hn
      · exact hns x e⟩
/-- a fair as plain Lean data -/
structure Fr2 where
  ss : List Sd
  bs : List Bd
def Fr2.d (f : Fr2) : D := fairD f.ss (f.bs.map Bd.d)
structure Fr2.ok (f : Fr2) : Prop where
  s : ∀ s ∈ f.ss, s.ok
  b : ∀ b ∈ f.bs, b.ok
  s1 : 1 ≤ f.ss.length
  s4 : f.ss.length ≤ 4
  b3 : f.bs.length ≤ 3
theorem fair_plain {F : D} (h : fairB F = true) : ∃ f : Fr2, F = f.d ∧ f.ok := by
  obtain ⟨ss, bs, rfl, h1, h2, h3, h4, h5⟩ := fair_data h
  obtain ⟨bs, rfl, h6⟩ := shops_of h5
  rw [List.length_map] at h3
  exact ⟨⟨ss, bs⟩, rfl, h4, h6, h1, h2, h3⟩
/-! ### edges -/
def chipN : Option Nat → Nat
  | none => 0
  | some s => 4 + s
def takeE (n : Nat) (s : Sd) : Edge := ⟨chipN s.chip, 1 + s.cup, s.dep, 1000 + n⟩
def giveE (n : Nat) (s : Sd) (t : Nat) : Edge := ⟨1 + t, chipN s.needs, 0 - (s.ref : Int), 100 + 10 * n + t⟩
def standE (n : Nat) (s : Sd) : List Edge := takeE n s :: s.takes.map (giveE n s)
def standsE (n : Nat) : List Sd → List Edge
  | [] => []
  | s :: r => standE n s ++ standsE (n + 1) r
def shopE (n : Nat) (b : Bd) : Edge := if b.cup = true then ⟨0, 1 + b.sort, b.price, n⟩ else ⟨4 + b.sort, 0, b.price, n⟩
def shopsE (n : Nat) : List Bd → List Edge
  | [] => []
  | b :: r => shopE n b :: shopsE (n + 1) r
def Fr2.E (f : Fr2) : List Edge := standsE 0 f.ss ++ shopsE 0 f.bs
def eD (e : Edge) : D := .tup [nD e.fr, nD e.to, .int e.c, dd e.d]
def enumB (n : Nat) : List Bd → List D
  | [] => []
  | s :: r => .tup [nD n, s.d] :: enumB (n + 1) r
theorem enumB_eq : ∀ (ss : List Bd) (n : Nat), (List.range' n (ss.map Bd.d).length).zipWith (fun (i : Nat) (d : D) => D.tup [.int (i : Int), d]) (ss.map Bd.d) = enumB n ss
  | [], _ => rfl
  | s :: r, n => by
    rw [List.map_cons, List.length_cons, List.range'_succ, List.zipWith_cons_cons, enumB_eq r (n + 1)]; rfl
theorem enumL_bd (ss : List Bd) : enumL (ss.map Bd.d) = enumB 0 ss := by
  unfold enumL
  rw [List.range_eq_range', enumB_eq]
theorem enumB_at : ∀ {ss : List Bd} {n i : Nat} {d : D}, (enumB n ss)[i]? = some d → ∃ s, ss[i]? = some s ∧ d = .tup [nD (n + i), s.d]
  | [], n, i, d, h => by simp [enumB] at h
  | s :: r, n, 0, d, h => by
    cases h
    exact ⟨s, rfl, rfl⟩
  | s :: r, n, i + 1, d, h => by
    have h : (enumB (n + 1) r)[i]? = some d := h
    obtain ⟨s', h1, h2⟩ := enumB_at h
    refine ⟨s', h1, ?_⟩
    rw [h2, show n + 1 + i = n + (i + 1) by omega]
theorem enumB_len : ∀ (ss : List Bd) (n : Nat), (enumB n ss).length = ss.length
  | [], _ => rfl
  | s :: r, n => by show (enumB (n + 1) r).length + 1 = _; rw [enumB_len r]; rfl
theorem standsE_app : ∀ (a b : List Sd) (n : Nat), standsE n (a ++ b) = standsE n a ++ standsE (n + a.length) b
  | [], b, n => rfl
  | s :: r, b, n => by
    show standE n s ++ standsE (n + 1) (r ++ b) = (standE n s ++ standsE (n + 1) r) ++ _
    rw [standsE_app r b, List.append_assoc, List.length_cons, show n + 1 + r.length = n + (r.length + 1) by omega]
theorem standsE_take {ss : List Sd} {i : Nat} {s : Sd} (h : ss[i]? = some s) : standsE 0 (ss.take (i + 1)) = standsE 0 (ss.take i) ++ standE i s := by
  have hi := (List.getElem?_eq_some_iff.mp h).1
  rw [List.take_add_one, h, standsE_app, List.length_take, Nat.min_eq_left (by omega), Nat.zero_add]
  show _ ++ (standE i s ++ []) = _
  rw [List.append_nil]
theorem shopsE_app : ∀ (a b : List Bd) (n : Nat), shopsE n (a ++ b) = shopsE n a ++ shopsE (n + a.length) b
  | [], b, n => rfl
  | s :: r, b, n => by
    show shopE n s :: shopsE (n + 1) (r ++ b) = shopE n s :: shopsE (n + 1) r ++ _
    rw [shopsE_app r b, List.length_cons, show n + 1 + r.length = n + (r.length + 1) by omega]
    rfl
theorem shopsE_take {ss : List Bd} {i : Nat} {s : Bd} (h : ss[i]? = some s) : shopsE 0 (ss.take (i + 1)) = shopsE 0 (ss.take i) ++ [shopE i s] := by
  have hi := (List.getElem?_eq_some_iff.mp h).1
  rw [List.take_add_one, h, shopsE_app, List.length_take, Nat.min_eq_left (by omega), Nat.zero_add]
  rfl
theorem shopsE_len : ∀ (bs : List Bd) (n : Nat), (shopsE n bs).length = bs.length
  | [], _ => rfl
  | b :: r, n => by show (shopsE (n + 1) r).length + 1 = _; rw [shopsE_len r]; rfl
theorem standsE_len : ∀ (ss : List Sd) (n : Nat), (∀ s ∈ ss, s.ok) → (standsE n ss).length ≤ 4 * ss.length
  | [], _, _ => Nat.le_refl _
  | s :: r, n, h => by
    have := standsE_len r (n + 1) fun s hs => h s (List.mem_cons_of_mem _ hs)
    have := (h s (by simp)).len
    show (standE n s ++ standsE (n + 1) r).length ≤ _
    unfold standE
    simp only [List.length_append, List.length_map, List.length_cons]
    omega
theorem chipN_lt {o : Option Nat} (h : ∀ x ∈ o, x ≤ 2) : chipN o < 7 := by
  cases o with
  | none => decide
  | some x => have := h x rfl; show 4 + x < 7; omega
theorem standsE_lt : ∀ (ss : List Sd) (n : Nat), (∀ s ∈ ss, s.ok) → ∀ e ∈ standsE n ss, e.fr < 7 ∧ e.to < 7
  | s :: r, n, h, e, he => by
    have hs := h s (by simp)
    rcases List.mem_append.mp he with he | he
    · rcases List.mem_cons.mp he with rfl | he
      · exact ⟨chipN_lt hs.chip, by have := hs.cup; show 1 + s.cup < 7; omega⟩
      · obtain ⟨t, ht, rfl⟩ := List.mem_map.mp he
        exact ⟨by have := hs.takes t ht; show 1 + t < 7; omega, chipN_lt hs.needs⟩
    · exact standsE_lt r (n + 1) (fun s hs => h s (List.mem_cons_of_mem _ hs)) e he
theorem shopsE_lt : ∀ (bs : List Bd) (n : Nat), (∀ b ∈ bs, b.ok) → ∀ e ∈ shopsE n bs, e.fr < 7 ∧ e.to < 7
  | b :: r, n, h, e, he => by
    have hs := (h b (by simp)).sort
    rcases List.mem_cons.mp he with rfl | he
    · unfold shopE
      split
      · exact ⟨by show 0 < 7; omega, by show 1 + b.sort < 7; omega⟩
      · exact ⟨by show 4 + b.sort < 7; omega, by show 0 < 7; omega⟩
    · exact shopsE_lt r (n + 1) (fun s hs => h s (List.mem_cons_of_mem _ hs)) e he
theorem Fr2.ok.lt {f : Fr2} (h : f.ok) : ∀ e ∈ f.E, e.fr < 7 ∧ e.to < 7 := fun e he => by
  rcases List.mem_append.mp he with he | he
  · exact standsE_lt _ _ h.s e he
  · exact shopsE_lt _ _ h.b e he
theorem Fr2.ok.len {f : Fr2} (h : f.ok) : f.E.length ≤ 19 := by
  have h1 := standsE_len f.ss 0 h.s
  have h2 := shopsE_len f.bs 0
  have := h.s4
  have := h.b3
  unfold Fr2.E
  rw [List.length_append]
  omega
theorem add_int (M : Mem) (a b : Int) : op2 M .add (.int a) (.int b) = some (.int (a + b)) := rfl
theorem add_nat (M : Mem) (a b : Nat) : op2 M .add (nD a) (nD b) = some (nD (a + b)) := by
  show some (D.int ((a : Int) + (b : Int))) = some (D.int ((a + b : Nat) : Int))
  congr 2
theorem cup_node_spec (k s : Nat) (M : Mem) : callF FDS (k + 1) j_cup_node [nD s] M = .ok (nD (1 + s)) M := by
  rw [callF_at fds_cup_node rfl]
  refine Sat.fin ?_
  show Sat _ (exs _ B_cup_node _ _)
  unfold B_cup_node
  refine Sat.step (p_ret (e_op2 (x := nD 1) e_con (e_var rfl) (add_nat _ _ _))) ?_
  exact fin_ret_same _ _
theorem chip_node_spec (k : Nat) (o : Option Nat) (M : Mem) : callF FDS (k + 1) j_chip_node [oD o] M = .ok (nD (chipN o)) M := by
  rw [callF_at fds_chip_node rfl]
  refine Sat.fin ?_
  show Sat _ (exs _ B_chip_node _ _)
  unfold B_chip_node
  refine Sat.step (p_ret (d := nD (chipN o)) (e_ite (e_isnon (e_var rfl)) (fun h => ?_) fun h => ?_)) ?_
  · cases o with
    | none => exact e_con
    | some x => cases h
  · cases o with
    | none => cases h
    | some x => exact e_op2 (x := nD 4) e_con (e_var rfl) (add_nat _ _ _)
  exact fin_ret_same _ _
theorem chip_node_some (k s : Nat) (M : Mem) : callF FDS (k + 1) j_chip_node [nD s] M = .ok (nD (4 + s)) M := chip_node_spec k (some s) M
theorem str_in_eq : cmp2 [] .eq (.str "cup") (.str "cup") = some true ∧ cmp2 [] .eq (.str "chip") (.str "cup") = some false ∧ cmp2 [] .eq (.str "chip") (.str "chip") = some true ∧ cmp2 [] .eq (.str "cup") (.str "chip") = some false := by decide +kernel
theorem word_cup (M : Mem) (b : Bool) : cmp2 M .eq (.str (wordS b)) (.str "cup") = some b := by
  cases b
  · exact str_in_eq.2.1
  · exact str_in_eq.1
theorem word_chip (M : Mem) (b : Bool) : cmp2 M .eq (.str (wordS b)) (.str "chip") = some (!b) := by
  cases b
  · exact str_in_eq.2.2.1
  · exact str_in_eq.2.2.2
theorem add_tup {M : Mem} {a b : List D} (h : a.length + b.length ≤ 1000) : op2 M .add (.tup a) (.tup b) = some (.tup (a ++ b)) := by
  show (if a.length + b.length ≤ lineN then some (D.tup (a ++ b)) else none) = _
  rw [if_pos (by simp [lineN]; omega)]
theorem edges_of_spec (k : Nat) (f : Fr2) (M : Mem) (h : f.ok) : callF FDS (k + 2) j_edges_of [f.d] M = .ok (.lst (f.E.map eD)) M := by
  have h4 := h.s4
  have h3 := h.b3
  rw [callF_at fds_edges_of rfl]
  refine Sat.fin ?_
  show Sat _ (exs _ B_edges_of _ _)
  unfold B_edges_of
  refine Sat.step (p_set (e_lst es_nil (by simp))) ?_
  refine Sat.step (s_for (ds := enumN 0 f.ss) (by rw [← enumL_sd]; exact i_enum (d := .tup (f.ss.map Sd.d)) (e_ix0 (e_var rfl) rfl) rfl)) ?_
  refine Sat.for_ (fun i δ M' => ∃ x2 x3 x4 x5 x6 x7 x8, δ = [some f.d, some (.lst ((standsE 0 (f.ss.take i)).map eD)), x2, x3, x4, x5, x6, x7, x8, none, none, none, none] ∧ M' = M) ⟨none, none, none, none, none, none, none, rfl, rfl⟩ ?_ ?_
  · rintro i d hd δ M' ⟨x2, x3, x4, x5, x6, x7, x8, rfl, rfl⟩
    obtain ⟨s, hs, rfl⟩ : ∃ s, f.ss[i]? = some s ∧ d = .tup [nD i, s.d] := by have := enumN_at hd; rwa [Nat.zero_add] at this
    have hi := (List.getElem?_eq_some_iff.mp hs).1
    have hso := h.s s (List.mem_of_getElem? hs)
    have hl : (standsE 0 (f.ss.take i)).length ≤ 16 := by
      have := standsE_len (f.ss.take i) 0 fun s hs => h.s s (List.mem_of_mem_take hs)
      rw [List.length_take] at this; omega
    have hl2 := hso.len
    show Sat _ (exs _ _ [some f.d, some (.lst ((standsE 0 (f.ss.take i)).map eD)), some (nD i), some (nD s.dep), some (nD s.cup), some (oD s.chip), some (.tup (s.takes.map nD)), some (oD s.needs), some (nD s.ref), none, none, none, none] M')
    refine Sat.step (p_set (e_op2 (y := .lst [eD (takeE i s)]) (e_var rfl) (e_lst (es_cons (d := eD (takeE i s)) ?_ es_nil) (by simp)) (add_lst (by simp; omega)))) ?_
    · refine e_tup (ds := [nD (chipN s.chip), nD (1 + s.cup), nD s.dep, dd (1000 + i)]) (es_cons (e_call (es_cons (e_var rfl) es_nil) (chip_node_spec k s.chip M')) (es_cons (e_call (es_cons (e_var rfl) es_nil) (cup_node_spec k s.cup M')) (es_cons (e_var rfl) (es_cons ?_ es_nil)))) (by simp)
      rw [dd_take]
      exact e_tup (es_cons e_con (es_cons (e_var rfl) es_nil)) (by simp)
    refine Sat.step (p_set (e_op2 (y := .lst ((s.takes.map (giveE i s)).map eD)) (e_var rfl) ?_ (add_lst (by simp; omega)))) ?_
    · rw [List.map_map]
      refine e_lcq (q := nD) (r := eD ∘ giveE i s) (i_seq (e_var rfl) rfl) (by omega) fun t ht => ?_
      refine e_tup (ds := [nD (1 + t), nD (chipN s.needs), .int (0 - (s.ref : Int)), dd (100 + 10 * i + t)]) (es_cons (e_call (es_cons (e_var rfl) es_nil) (cup_node_spec k t M')) (es_cons (e_call (es_cons (e_var rfl) es_nil) (chip_node_spec k s.needs M')) (es_cons (e_op2 (x := .int 0) (y := .int (s.ref : Int)) e_con (e_var rfl) rfl) (es_cons ?_ es_nil)))) (by simp)
      rw [dd_give (by omega) (hso.takes t ht)]
      exact e_tup (es_cons e_con (es_cons (e_var rfl) (es_cons (e_var rfl) es_nil))) (by simp)
    have e : (standsE 0 (f.ss.take (i + 1))).map eD = (standsE 0 (f.ss.take i)).map eD ++ [eD (takeE i s)] ++ (s.takes.map (giveE i s)).map eD := by
      rw [standsE_take hs]
      unfold standE
      rw [List.map_append, List.map_cons, List.append_assoc]
      rfl
    refine Sat.step s_nil (Sat.go ?_)
    rw [e]
    exact ⟨_, _, _, _, _, _, _, rfl, rfl⟩
  · rintro δ M' ⟨x2, x3, x4, x5, x6, x7, x8, rfl, rfl⟩
    rw [enumN_len, List.take_length]
    refine Sat.step (s_for (ds := enumB 0 f.bs) (by rw [← enumL_bd]; exact i_enum (d := .tup (f.bs.map Bd.d)) (e_ix0 (e_var rfl) rfl) rfl)) ?_
    refine Sat.for_ (fun i δ M2 => ∃ x2 x9 x10 x11 x12, δ = [some f.d, some (.lst ((standsE 0 f.ss ++ shopsE 0 (f.bs.take i)).map eD)), x2, x3, x4, x5, x6, x7, x8, x9, x10, x11, x12] ∧ M2 = M') ⟨x2, none, none, none, none, by simp [shopsE], rfl⟩ ?_ ?_
    · rintro i d hd δ M2 ⟨x2, x9, x10, x11, x12, rfl, rfl⟩
      obtain ⟨b, hs, rfl⟩ : ∃ s, f.bs[i]? = some s ∧ d = .tup [nD i, s.d] := by have := enumB_at hd; rwa [Nat.zero_add] at this
      have hi := (List.getElem?_eq_some_iff.mp hs).1
      have hl : (standsE 0 f.ss ++ shopsE 0 (f.bs.take i)).length ≤ 19 := by
        have := standsE_len f.ss 0 h.s
        have := shopsE_len (f.bs.take i) 0
        rw [List.length_take] at this
        rw [List.length_append]; omega
      show Sat _ (exs _ _ [some f.d, some (.lst ((standsE 0 f.ss ++ shopsE 0 (f.bs.take i)).map eD)), some (nD i), x3, x4, x5, x6, x7, x8, some (.str (wordS b.cup)), some (nD b.sort), some (nD b.price), x12] M2)
      refine Sat.step (p_set (d := .tup [nD (shopE i b).fr, nD (shopE i b).to]) (e_ite (e_cmp (e_var rfl) e_con (word_cup M2 b.cup)) (fun hb => ?_) fun hb => ?_)) ?_
      · unfold shopE
        rw [if_pos hb]
        exact e_tup (ds := [nD 0, nD (1 + b.sort)]) (es_cons e_con (es_cons (e_call (es_cons (e_var rfl) es_nil) (cup_node_spec k _ M2)) es_nil)) (by simp)
      · unfold shopE
        rw [if_neg (by rw [hb]; decide)]
        exact e_tup (ds := [nD (4 + b.sort), nD 0]) (es_cons (e_call (es_cons (e_var rfl) es_nil) (chip_node_some k _ M2)) (es_cons e_con es_nil)) (by simp)
      have hd : dd (shopE i b).d = .tup [.str "buy", nD i] := by
        unfold shopE
        split <;> exact dd_buy (show i < 100 by omega)
      have hc : (shopE i b).c = (b.price : Int) := by
        unfold shopE
        split <;> rfl
      refine Sat.step (p_set (e_op2 (y := .lst [eD (shopE i b)]) (e_var rfl) (e_lst (es_cons (d := eD (shopE i b)) (e_op2 (e_var rfl) (e_tup (ds := [nD b.price, dd (shopE i b).d]) (es_cons (e_var rfl) (es_cons ?_ es_nil)) (by simp)) ?_) es_nil) (by simp)) (add_lst (by simp at hl ⊢; omega)))) ?_
      · rw [hd]
        exact e_tup (es_cons e_con (es_cons (e_var rfl) es_nil)) (by simp)
      · refine (add_tup (by simp)).trans ?_
        unfold eD
        rw [hc]; rfl
      have e : (standsE 0 f.ss ++ shopsE 0 (f.bs.take (i + 1))).map eD = (standsE 0 f.ss ++ shopsE 0 (f.bs.take i)).map eD ++ [eD (shopE i b)] := by
        rw [shopsE_take hs, ← List.append_assoc, List.map_append (l₂ := [shopE i b])]; rfl
      refine Sat.step s_nil (Sat.go ?_)
      rw [e]
      exact ⟨_, _, _, _, _, rfl, rfl⟩
    · rintro δ M2 ⟨x2, x9, x10, x11, x12, rfl, rfl⟩
      rw [enumB_len, List.take_length]
      refine Sat.step (p_ret (e_var rfl)) ?_
      exact fin_ret_same _ _
end CB
end
section
set_option maxHeartbeats 1000000
/-! P28: thrown, longer. -/
namespace CB
open PySem
def valD (x : Int × List Nat) : D := .tup [.int x.1, .tup (x.2.map dd)]
def keyN (k : Nat × Nat) : List Int := [(k.1 : Int), (k.2 : Int)]
def wyD (f : Wy) : List (List Int × D) := f.map fun p => (keyN p.1, valD p.2)
theorem keyN_inj {a b : Nat × Nat} : keyN a = keyN b ↔ a = b := by
  constructor
  · intro h
    unfold keyN at h
    simp only [List.cons.injEq, and_true] at h
    obtain ⟨h1, h2⟩ := h
    exact Prod.ext (by omega) (by omega)
  · rintro rfl; rfl
theorem wyD_get (k : Nat × Nat) : ∀ f : Wy, kGet (keyN k) (wyD f) = (wGet k f).map valD
  | [] => rfl
  | (q, v) :: r => by
    show (if keyN q = keyN k then some (valD v) else kGet (keyN k) (wyD r)) = (if q = k then some v else wGet k r).map valD
    by_cases h : q = k
    · rw [if_pos h, if_pos (keyN_inj.mpr h)]; rfl
    · rw [if_neg h, if_neg fun e => h (keyN_inj.mp e), wyD_get k r]
theorem wyD_put (k : Nat × Nat) (x : Int × List Nat) (f : Wy) : kPut (keyN k) (valD x) (wyD f) = wyD (wPut k x f) := by
  unfold kPut wPut wyD
  have e : ((f.map fun p => (keyN p.1, valD p.2)).any fun p => decide (p.1 = keyN k)) = f.any fun p => decide (p.1 = k) := by
    rw [List.any_map]
    congr 1
    funext p
    show decide (keyN p.1 = keyN k) = decide (p.1 = k)
    by_cases h : p.1 = k
    · rw [decide_eq_true h, decide_eq_true (keyN_inj.mpr h)]
    · rw [decide_eq_false h, decide_eq_false fun e => h (keyN_inj.mp e)]
  rw [e]
  split
  · rw [List.map_map, List.map_map]
    refine List.map_congr_left fun p _ => ?_
    show (if keyN p.1 = keyN k then (keyN p.1, valD x) else (keyN p.1, valD p.2)) = (keyN (if p.1 = k then (p.1, x) else p).1, valD (if p.1 = k then (p.1, x) else p).2)
    by_cases h : p.1 = k
    · rw [if_pos (keyN_inj.mpr h), if_pos h]
    · rw [if_neg fun e => h (keyN_inj.mp e), if_neg h]
  · rw [List.map_append]; rfl
theorem okB_dd (n c : Nat) : okB n (dd c) = true := by
  unfold dd
  split
  · rfl
  · split <;> rfl
theorem okBs_dd (n : Nat) : ∀ l : List Nat, okBs n (l.map dd) = true
  | [] => rfl
  | c :: l => by rw [List.map_cons]; unfold okBs; rw [okB_dd, okBs_dd n l]; rfl
theorem okB_val (n : Nat) (x : Int × List Nat) : okB n (valD x) = true := by
  show (true && (okB n (.tup (x.2.map dd)) && true)) = true
  show (true && (okBs n (x.2.map dd) && true)) = true
  rw [okBs_dd]; rfl
theorem okKs_wy (n : Nat) : ∀ f : Wy, okKs n (wyD f) = true
  | [] => rfl
  | p :: f => by
    show (okB n (valD p.2) && okKs n (wyD f)) = true
    rw [okB_val, okKs_wy n f]; rfl
theorem wyD_len (f : Wy) : (wyD f).length = f.length := by unfold wyD; rw [List.length_map]
section
variable {Φ : Nat → List D → Mem → Rs D} {δ : Env} {B M : Mem}
theorem cell_get {o : MO} : (B ++ [o])[B.length]? = some o := by rw [List.getElem?_append_right (Nat.le_refl _)]; simp
theorem cell_put {f : Wy} {k : Nat × Nat} {x : Int × List Nat} (h : f.length ≤ 99999) : putD (B ++ [.dct (wyD f)]) (.loc B.length) (.key (keyN k)) (valD x) = some (B ++ [.dct (wyD (wPut k x f))]) := by
  unfold putD
  simp only [cell_get]
  rw [if_pos (by rw [wyD_len]; omega), wyD_put, List.set_append_right _ _ (Nat.le_refl _)]
  simp
theorem cell_ix {f : Wy} {k : Nat × Nat} {x : Int × List Nat} (h : wGet k f = some x) : op2 (B ++ [.dct (wyD f)]) .ix (.loc B.length) (.key (keyN k)) = some (valD x) := by
  show (asK (B ++ [.dct (wyD f)]) (.loc B.length)).bind (kGet (keyN k)) = _
  unfold asK
  simp only [cell_get]
  show kGet (keyN k) (wyD f) = _
  rw [wyD_get, h]; rfl
theorem dct_ix {f : Wy} {k : Nat × Nat} {x : Int × List Nat} (h : wGet k f = some x) : op2 M .ix (.dct (wyD f)) (.key (keyN k)) = some (valD x) := by
  show kGet (keyN k) (wyD f) = _
  rw [wyD_get, h]; rfl
theorem dct_in {f : Wy} {k : Nat × Nat} : cmp2 M .in_ (.key (keyN k)) (.dct (wyD f)) = some (wGet k f).isSome := by
  show some (kGet (keyN k) (wyD f)).isSome = _
  rw [wyD_get, Option.isSome_map]
theorem cell_notin {f : Wy} {k : Nat × Nat} : cmp2 (B ++ [.dct (wyD f)]) .notin (.key (keyN k)) (.loc B.length) = some (!(wGet k f).isSome) := by
  show (in2 (B ++ [.dct (wyD f)]) (.key (keyN k)) (.loc B.length)).map (!·) = _
  unfold in2
  simp only [cell_get]
  show some (!(kGet (keyN k) (wyD f)).isSome) = _
  rw [wyD_get, Option.isSome_map]
theorem e_mkd {e : T} {l : List (List Int × D)} (h : ev Φ e δ M = .ok (.dct l) M) : ev Φ (.mk e) δ M = .ok (.loc M.length) (M ++ [.dct l]) := by
  conv => lhs; unfold ev
  rw [h]; rfl
theorem e_frzd {i : Nat} {l : List (List Int × D)} (h : getVar δ i = some (.loc B.length)) : ev Φ (.frz i) δ (B ++ [.dct l]) = .ok (.dct l) (B ++ [.dead]) := by
  have hg : (B ++ [MO.dct l])[B.length]? = some (.dct l) := cell_get
  conv => lhs; unfold ev
  rw [h]
  show frzD (.loc B.length) (B ++ [.dct l]) = _
  unfold frzD
  simp only [hg]
  congr 1
  rw [List.set_append_right _ _ (Nat.le_refl _)]
  simp
theorem e_key2 {a b : T} {x y : Nat} (h : ev Φ a δ M = .ok (nD x) M) (h2 : ev Φ b δ M = .ok (nD y) M) : ev Φ (.key (.cons a (.cons b .nil))) δ M = .ok (.key (keyN (x, y))) M :=
  e_key (ds := [nD x, nD y]) (es_cons h (es_cons h2 es_nil)) (by simp) rfl
end
/-! ### thrown -/
def wp0 (k : Nat × Nat) (f : Wy) : Wy := wPut k (0, []) f
def th1 (i : Nat) : Wy := (List.range i).foldl (fun f n => wp0 (n, n) f) []
def thIn (n : Nat) (f : Wy) (j : Nat) : Wy := (List.range j).foldl (fun f j => wp0 (n, 4 + j) f) (wp0 (0, n + 3) (wp0 (n, 0) f))
def th2 (i : Nat) : Wy := (List.range i).foldl (fun f j => thIn (1 + j) f 3) (th1 7)
theorem th1_s (i : Nat) : th1 (i + 1) = wp0 (i, i) (th1 i) := by unfold th1; rw [List.range_succ, List.foldl_append]; rfl
theorem thIn_s (n : Nat) (f : Wy) (j : Nat) : thIn n f (j + 1) = wp0 (n, 4 + j) (thIn n f j) := by unfold thIn; rw [List.range_succ, List.foldl_append]; rfl
theorem th2_s (i : Nat) : th2 (i + 1) = thIn (1 + i) (th2 i) 3 := by unfold th2; rw [List.range_succ, List.foldl_append]; rfl
theorem th2_TH : th2 3 = TH := by decide +kernel
theorem wp0_kd {k : Nat × Nat} {f : Wy} (h : f.length ≤ 99998) : (wp0 k f).length ≤ f.length + 1 := by
  unfold wp0 wPut
  split <;> simp
theorem thIn_len {n : Nat} {f : Wy} (h : f.length ≤ 1000) : ∀ j, j ≤ 3 → (thIn n f j).length ≤ f.length + 2 + j
  | 0, _ => by
    have h1 := wp0_kd (k := (n, 0)) (f := f) (by omega)
    have h2 := wp0_kd (k := (0, n + 3)) (f := wp0 (n, 0) f) (by omega)
    show (wp0 (0, n + 3) (wp0 (n, 0) f)).length ≤ _
    omega
  | j + 1, hj => by
    have := thIn_len (n := n) h j (by omega)
    rw [thIn_s]
    have h2 := wp0_kd (k := (n, 4 + j)) (f := thIn n f j) (by omega)
    omega
theorem th1_len : ∀ i, i ≤ 7 → (th1 i).length ≤ i
  | 0, _ => Nat.le_refl _
  | i + 1, h => by
    have := th1_len i (by omega)
    rw [th1_s]
    have h2 := wp0_kd (k := (i, i)) (f := th1 i) (by omega)
    omega
theorem th2_len : ∀ i, i ≤ 3 → (th2 i).length ≤ 7 + 5 * i
  | 0, _ => th1_len 7 (by omega)
  | i + 1, h => by
    have := th2_len i (by omega)
    rw [th2_s]
    have h2 := thIn_len (n := 1 + i) (f := th2 i) (by omega) 3 (by omega)
    omega
theorem thrown_spec (k : Nat) (M : Mem) (hc : Clean M) : callF FDS (k + 1) j_thrown [] M = .ok (.dct (wyD TH)) M := by
  rw [callF_at fds_thrown rfl]
  refine Sat.fin ?_
  show Sat _ (exs _ B_thrown [none, none, none] _)
  unfold B_thrown
  have hv : ∀ {δ : Env} {M : Mem}, ev (callF FDS k) (.tup (.cons (.con (.int 0)) (.cons (.tup .nil) .nil))) δ M = .ok (valD (0, [])) M := e_tup (es_cons e_con (es_cons (e_tup es_nil (by simp)) es_nil)) (by simp)
  refine Sat.step (s_set (e_mkd (l := wyD []) e_con)) ?_
  refine Sat.step (s_for (i_rng (n := 7) e_con (by decide))) ?_
  refine Sat.for_ (fun i δ M' => ∃ x, δ = [some (.loc M.length), x, none] ∧ M' = M ++ [.dct (wyD (th1 i))]) ⟨none, rfl, rfl⟩ ?_ ?_
  · rintro i d hd δ M' ⟨x, rfl, rfl⟩
    obtain ⟨hi, rfl⟩ := rngL_get hd
    rw [Int.zero_add]
    show Sat _ (exs _ _ [some (.loc M.length), some (nD i), none] _)
    have hl := th1_len i (by omega)
    refine Sat.step ((s_put hv (e_var rfl) (e_key2 (e_var rfl) (e_var rfl)) (cell_put (by omega))).trans s_nil) (Sat.go ⟨_, rfl, ?_⟩)
    rw [th1_s]; rfl
  · rintro δ M' ⟨x, rfl, rfl⟩
    refine Sat.step (s_for (i_rng2 (x := 1) (y := 4) (ds := rngL 1 3) e_con e_con rfl)) ?_
    refine Sat.for_ (fun i δ M' => ∃ x y, δ = [some (.loc M.length), x, y] ∧ M' = M ++ [.dct (wyD (th2 i))]) ⟨x, none, rfl, rfl⟩ ?_ ?_
    · rintro i d hd δ M' ⟨x, y, rfl, rfl⟩
      obtain ⟨hi, rfl⟩ := rngL_get hd
      rw [show (1 : Int) + (i : Int) = ((1 + i : Nat) : Int) by omega]
      show Sat _ (exs _ _ [some (.loc M.length), some (nD (1 + i)), y] _)
      have hl := th2_len i (by omega)
      refine Sat.step (s_put hv (e_var rfl) (e_key2 (y := 0) (e_var rfl) e_con) (cell_put (by omega))) ?_
      have h1 := wp0_kd (k := (1 + i, 0)) (f := th2 i) (by omega)
      refine Sat.step (s_put hv (e_var rfl) (e_key2 (x := 0) (y := 1 + i + 3) e_con (e_op2 (y := nD 3) (e_var rfl) e_con (add_nat _ _ _))) (cell_put (by unfold wp0 at h1; omega))) ?_
      refine Sat.step (s_for (i_rng2 (x := 4) (y := 7) (ds := rngL 4 3) e_con e_con rfl)) ?_
      refine Sat.for_ (fun j δ M' => ∃ y, δ = [some (.loc M.length), some (nD (1 + i)), y] ∧ M' = M ++ [.dct (wyD (thIn (1 + i) (th2 i) j))]) ⟨y, rfl, rfl⟩ ?_ ?_
      · rintro j d hd δ M' ⟨y, rfl, rfl⟩
        obtain ⟨hj, rfl⟩ := rngL_get hd
        rw [show (4 : Int) + (j : Int) = ((4 + j : Nat) : Int) by omega]
        show Sat _ (exs _ _ [some (.loc M.length), some (nD (1 + i)), some (nD (4 + j))] _)
        have hl2 := thIn_len (n := 1 + i) (f := th2 i) (by omega) j (by omega)
        refine Sat.step ((s_put hv (e_var rfl) (e_key2 (e_var rfl) (e_var rfl)) (cell_put (by omega))).trans s_nil) (Sat.go ⟨_, rfl, ?_⟩)
        rw [thIn_s]; rfl
      · rintro δ M' ⟨y, rfl, rfl⟩
        refine Sat.step s_nil (Sat.go ⟨_, _, rfl, ?_⟩)
        rw [th2_s, rngL_len]
    · rintro δ M' ⟨x, y, rfl, rfl⟩
      rw [rngL_len, th2_TH]
      refine Sat.step (s_ret (e_frzd rfl)) ?_
      exact fin_out rfl hc (okKs_wy _ _) (fun j e => nomatch e)
end CB
end
section
set_option maxHeartbeats 1000000
/-! P29: longer, ways_of. -/
namespace CB
open PySem
theorem Sat.bind {P : Rf → Prop} {Q : Env → Mem → Prop} {r : Rf} {k : Env → Mem → Rf} (h : Sat (NX Q) r) (g : ∀ δ M, Q δ M → Sat P (k δ M)) : Sat P (r.next k) := by
  obtain ⟨δ, M, e, q⟩ := h
  rw [e]
  exact g δ M q
theorem take_snoc {α : Type} {l : List α} {i : Nat} {x : α} (h : l[i]? = some x) : l.take (i + 1) = l.take i ++ [x] := by
  rw [List.take_add_one, h]; rfl
theorem fr_th {a b : Nat} (ha : a < 7) (hb : b < 7) : (wGet (a, b) TH).isSome = decide (Fr a b) := by
  by_cases h : Fr a b
  · rw [decide_eq_true h]
    obtain ⟨x, hx⟩ := wGet_of_mem (k := (a, b)) (v := (0, [])) (l := TH) (List.mem_map.mpr ⟨(a, b), th_all a ha b hb h, rfl⟩)
    rw [hx]; rfl
  · rw [decide_eq_false h]
    cases q : wGet (a, b) TH with
    | none => rfl
    | some x => exact absurd (TH_get q).2.2.1 h
/-- the frame of longer -/
def lgE (W : Wy) (E : List Edge) (n : Nat) (x3 x4 x5 x6 x7 x8 x9 x10 x11 x12 x13 x14 : Option D) : Env := [some (.dct (wyD W)), some (.lst (E.map eD)), some (.loc n), x3, x4, x5, x6, x7, x8, x9, x10, x11, x12, x13, x14]
section
variable {Φ : Nat → List D → Mem → Rs D} {B : Mem} {W : Wy} {E : List Edge}
theorem lg_last {x3 : Option D} {u b z : Nat} {c : Int} {ds : List Nat} {e : Edge} {f : Wy} {x13 x14 : Option D} (hz : z < 7) (he : e.to < 7) (hd : ds.length ≤ 99) (hf : Kp f) :
    Sat (NX fun δ M => δ = lgE W E B.length x3 (some (.dct (wyD TH))) (some (nD u)) (some (nD b)) (some (.int c)) (some (.tup (ds.map dd))) (some (nD e.fr)) (some (nD e.to)) (some (.int e.c)) (some (dd e.d)) (some (nD z)) (some (valD (c + e.c, ds ++ [e.d]))) ∧ M = B ++ [.dct (wyD (rlx u c ds e f z))])
      (exs Φ (.cons (.set 14 (.tup (.cons (.op2 .add (.var 7) (.var 11)) (.cons (.op2 .add (.var 8) (.tup (.cons (.var 12) .nil))) .nil)))) (.cons (.ite (.and (.cmp .in_ (.key (.cons (.var 10) (.cons (.var 13) .nil))) (.var 4)) (.or (.cmp .notin (.key (.cons (.var 5) (.cons (.var 13) .nil))) (.var 2)) (.cmp .lt (.op2 .ix (.var 14) (.con (.int 0))) (.op2 .ix (.op2 .ix (.var 2) (.key (.cons (.var 5) (.cons (.var 13) .nil)))) (.con (.int 0)))))) (.cons (.put (.var 2) (.key (.cons (.var 5) (.cons (.var 13) .nil))) (.var 14)) .nil) .nil) .nil))
        (lgE W E B.length x3 (some (.dct (wyD TH))) (some (nD u)) (some (nD b)) (some (.int c)) (some (.tup (ds.map dd))) (some (nD e.fr)) (some (nD e.to)) (some (.int e.c)) (some (dd e.d)) (some (nD z)) x14) (B ++ [.dct (wyD f)])) := by
  refine Sat.step (p_set (d := valD (c + e.c, ds ++ [e.d])) (e_tup (ds := [.int (c + e.c), .tup ((ds ++ [e.d]).map dd)]) (es_cons (e_op2 (e_var rfl) (e_var rfl) (add_int _ _ _)) (es_cons (e_op2 (y := .tup [dd e.d]) (e_var rfl) (e_tup (es_cons (e_var rfl) es_nil) (by simp)) ?_) es_nil)) (by simp))) ?_
  · rw [List.map_append]
    exact add_tup (by simp; omega)
  have hcond : ev Φ (.and (.cmp .in_ (.key (.cons (.var 10) (.cons (.var 13) .nil))) (.var 4)) (.or (.cmp .notin (.key (.cons (.var 5) (.cons (.var 13) .nil))) (.var 2)) (.cmp .lt (.op2 .ix (.var 14) (.con (.int 0))) (.op2 .ix (.op2 .ix (.var 2) (.key (.cons (.var 5) (.cons (.var 13) .nil)))) (.con (.int 0))))))
      (lgE W E B.length x3 (some (.dct (wyD TH))) (some (nD u)) (some (nD b)) (some (.int c)) (some (.tup (ds.map dd))) (some (nD e.fr)) (some (nD e.to)) (some (.int e.c)) (some (dd e.d)) (some (nD z)) (some (valD (c + e.c, ds ++ [e.d])))) (B ++ [.dct (wyD f)]) = .ok (.bl (decide (Fr e.to z) && betB (c + e.c) (wGet (u, z) f))) (B ++ [.dct (wyD f)]) := by
    refine e_and (e_cmp (e_key2 (e_var rfl) (e_var rfl)) (e_var rfl) (by rw [dct_in, fr_th he hz])) fun _ => ?_
    cases q : wGet (u, z) f with
    | none => exact e_or (x := true) (y := true) (e_cmp (e_key2 (e_var rfl) (e_var rfl)) (e_var rfl) (by rw [cell_notin, q]; rfl)) fun h => nomatch h
    | some p => exact e_or (x := false) (y := decide (c + e.c < p.1)) (e_cmp (e_key2 (e_var rfl) (e_var rfl)) (e_var rfl) (by rw [cell_notin, q]; rfl)) fun _ => e_cmp (e_op2 (x := valD (c + e.c, ds ++ [e.d])) (d := .int (c + e.c)) (e_var rfl) e_con rfl) (e_op2 (x := valD p) (d := .int p.1) (e_op2 (e_var rfl) (e_key2 (e_var rfl) (e_var rfl)) (cell_ix q)) e_con rfl) rfl
  by_cases hb : (decide (Fr e.to z) && betB (c + e.c) (wGet (u, z) f)) = true
  · rw [hb] at hcond
    refine Sat.step (p_itet hcond) ?_
    refine Sat.step (congrArg (fun r => Rf.next r _) ((s_put (e_var rfl) (e_var rfl) (e_key2 (e_var rfl) (e_var rfl)) (cell_put (by have := hf.toKd.len; omega))).trans s_nil)) ?_
    refine Sat.next (Sat.step s_nil (Sat.nx ⟨rfl, ?_⟩))
    unfold rlx
    rw [Bool.and_eq_true, decide_eq_true_eq] at hb
    rw [if_pos hb]
  · rw [Bool.not_eq_true] at hb
    rw [hb] at hcond
    refine Sat.step (p_itef hcond) ?_
    refine Sat.step s_nil (Sat.nx ⟨rfl, ?_⟩)
    unfold rlx
    rw [if_neg]
    intro q
    rw [q.2, decide_eq_true q.1] at hb
    cases hb
theorem kp_range {u : Nat} {c : Int} {ds : List Nat} {e : Edge} {f : Wy} (hu : u < 7) (hd : ds.length ≤ 99) (h : Kp f) : ∀ i, i ≤ 7 → Kp ((List.range i).foldl (rlx u c ds e) f) := fun i hi =>
  foldl_keep (P := Kp) f (fun f z hz h => kp_rlx hu (by have := List.mem_range.mp hz; omega) hd h) h
end
theorem longer_spec (k : Nat) (W : Wy) (E : List Edge) (M : Mem) (hc : Clean M) (hW : Kp W) (h99 : ∀ k x, wGet k W = some x → x.2.length ≤ 99) (hE : ∀ e ∈ E, e.fr < 7 ∧ e.to < 7) : callF FDS (k + 2) j_longer [.dct (wyD W), .lst (E.map eD)] M = .ok (.dct (wyD (longerP E W))) M := by
  rw [callF_at fds_longer rfl]
  refine Sat.fin ?_
  show Sat _ (exs _ B_longer (lgE W E M.length none none none none none none none none none none none none |>.set 2 none) _)
  unfold B_longer
  refine Sat.step (s_set (e_mkd (l := wyD []) e_con)) ?_
  refine Sat.step (s_forK (l := wyD W) rfl) ?_
  refine Sat.forK (fun i δ M' => ∃ x, δ = lgE W E M.length x none none none none none none none none none none none ∧ M' = M ++ [.dct (wyD ((W.take i).foldl (copyS W) []))]) ⟨none, rfl, rfl⟩ ?_ ?_
  · rintro i d hd δ M' ⟨x, rfl, rfl⟩
    rw [List.getElem?_map] at hd
    unfold wyD at hd
    rw [List.getElem?_map] at hd
    cases hp : W[i]? with
    | none => rw [hp] at hd; cases hd
    | some p =>
      rw [hp] at hd
      cases hd
      obtain ⟨v, hv⟩ := wGet_of_mem (k := p.1) (v := p.2) (List.mem_of_getElem? hp)
      show Sat _ (exs _ _ (lgE W E M.length (some (.key (keyN p.1))) none none none none none none none none none none none) _)
      have hl := (kp_copy hW (W.take i) fun q hq => List.mem_of_mem_take hq).toKd.len
      refine Sat.step ((s_put (e_op2 (e_var rfl) (e_var rfl) (dct_ix hv)) (e_var rfl) (e_var rfl) (cell_put (by omega))).trans s_nil) (Sat.nx ⟨_, rfl, ?_⟩)
      rw [take_snoc hp, List.foldl_append]
      show _ = M ++ [MO.dct (wyD (copyS W ((W.take i).foldl (copyS W) []) p))]
      unfold copyS
      rw [hv]
  · rintro δ M' ⟨x, rfl, rfl⟩
    have e0 : W.take (List.map (fun q => D.key q.1) (wyD W)).length = W := by rw [List.length_map, wyD_len, List.take_length]
    rw [e0]
    have hcB : Clean (M ++ [.dct (wyD (copyP W))]) := fun n => by
      rw [List.all_append, hc n]
      show (true && (okKs n (wyD (copyP W)) && true)) = true
      rw [okKs_wy]; rfl
    show Sat _ (exs _ _ _ (M ++ [.dct (wyD (copyP W))]))
    refine Sat.step (p_set (e_call0 (thrown_spec k _ hcB))) ?_
    show Sat _ (exs _ _ (lgE W E M.length x (some (.dct (wyD TH))) none none none none none none none none none none) _)
    refine Sat.step (s_forK (l := wyD W) rfl) ?_
    refine Sat.forK (fun i δ M' => ∃ x5 x6 x7 x8 x9 x10 x11 x12 x13 x14, δ = lgE W E M.length x (some (.dct (wyD TH))) x5 x6 x7 x8 x9 x10 x11 x12 x13 x14 ∧ M' = M ++ [.dct (wyD ((W.take i).foldl (rlxP E W) (copyP W)))]) ⟨_, _, _, _, _, _, _, _, _, _, rfl, rfl⟩ ?_ ?_
    · rintro i d hd δ M' ⟨x5, x6, x7, x8, x9, x10, x11, x12, x13, x14, rfl, rfl⟩
      rw [List.getElem?_map] at hd
      unfold wyD at hd
      rw [List.getElem?_map] at hd
      cases hp : W[i]? with
      | none => rw [hp] at hd; cases hd
      | some p =>
        rw [hp] at hd
        cases hd
        have hpW := List.mem_of_getElem? hp
        obtain ⟨v, hv⟩ := wGet_of_mem (k := p.1) (v := p.2) hpW
        obtain ⟨hu, hb⟩ := hW.rg p hpW
        have hv99 := h99 _ _ hv
        have hkp : Kp ((W.take i).foldl (rlxP E W) (copyP W)) := foldl_keep (P := Kp) _ (fun f q hq h => kp_rlxP hW h99 (List.mem_of_mem_take hq) h) (kp_copy hW W fun _ h => h)
        generalize hf0 : (W.take i).foldl (rlxP E W) (copyP W) = f0 at hkp
        have hend : (W.take (i + 1)).foldl (rlxP E W) (copyP W) = E.foldl (rlxE p.1.1 p.1.2 v.1 v.2) f0 := by
          rw [take_snoc hp, List.foldl_append, hf0]
          show rlxP E W f0 p = _
          unfold rlxP
          rw [hv]
        show Sat _ (exs _ _ (lgE W E M.length x (some (.dct (wyD TH))) (some (nD p.1.1)) (some (nD p.1.2)) x7 x8 x9 x10 x11 x12 x13 x14) _)
        refine Sat.step (p_asg (d := valD v) (e_op2 (e_var rfl) (e_key2 (x := p.1.1) (y := p.1.2) (e_var rfl) (e_var rfl)) (dct_ix hv)) rfl) ?_
        show Sat _ (exs _ _ (lgE W E M.length x (some (.dct (wyD TH))) (some (nD p.1.1)) (some (nD p.1.2)) (some (.int v.1)) (some (.tup (v.2.map dd))) x9 x10 x11 x12 x13 x14) _)
        refine Sat.step (s_for (i_seq (d := .lst (E.map eD)) (e_var rfl) rfl)) ?_
        refine Sat.forN (fun j δ M' => ∃ x9 x10 x11 x12 x13 x14, δ = lgE W E M.length x (some (.dct (wyD TH))) (some (nD p.1.1)) (some (nD p.1.2)) (some (.int v.1)) (some (.tup (v.2.map dd))) x9 x10 x11 x12 x13 x14 ∧ M' = M ++ [.dct (wyD ((E.take j).foldl (rlxE p.1.1 p.1.2 v.1 v.2) f0))]) ⟨_, _, _, _, _, _, rfl, rfl⟩ ?_ ?_
        · rintro j d hd δ M' ⟨x9, x10, x11, x12, x13, x14, rfl, rfl⟩
          rw [List.getElem?_map] at hd
          cases he : E[j]? with
          | none => rw [he] at hd; cases hd
          | some e =>
            rw [he] at hd
            cases hd
            have heE := List.mem_of_getElem? he
            have hkp1 : Kp ((E.take j).foldl (rlxE p.1.1 p.1.2 v.1 v.2) f0) := foldl_keep (P := Kp) _ (fun f q _ h => kp_rlxE hu hv99 h) hkp
            have hend1 : (E.take (j + 1)).foldl (rlxE p.1.1 p.1.2 v.1 v.2) f0 = rlxE p.1.1 p.1.2 v.1 v.2 ((E.take j).foldl (rlxE p.1.1 p.1.2 v.1 v.2) f0) e := by
              rw [take_snoc he, List.foldl_append]; rfl
            rw [hend1]
            generalize (E.take j).foldl (rlxE p.1.1 p.1.2 v.1 v.2) f0 = f1 at hkp1
            show Sat _ (exs _ _ (lgE W E M.length x (some (.dct (wyD TH))) (some (nD p.1.1)) (some (nD p.1.2)) (some (.int v.1)) (some (.tup (v.2.map dd))) (some (nD e.fr)) (some (nD e.to)) (some (.int e.c)) (some (dd e.d)) x13 x14) _)
            have hc1 := e_cmp (Φ := callF FDS (k + 1)) (δ := lgE W E M.length x (some (.dct (wyD TH))) (some (nD p.1.1)) (some (nD p.1.2)) (some (.int v.1)) (some (.tup (v.2.map dd))) (some (nD e.fr)) (some (nD e.to)) (some (.int e.c)) (some (dd e.d)) x13 x14) (M := M ++ [.dct (wyD f1)]) (a := .var 9) (b := .var 6) (e_var rfl) (e_var rfl) (eq_nat _ e.fr p.1.2)
            unfold rlxE
            by_cases hfr : e.fr = p.1.2
            · rw [decide_eq_true hfr] at hc1
              rw [if_pos hfr]
              refine Sat.step (p_itet hc1) ?_
              refine Sat.bind (Q := fun δ M' => ∃ x13 x14, δ = lgE W E M.length x (some (.dct (wyD TH))) (some (nD p.1.1)) (some (nD p.1.2)) (some (.int v.1)) (some (.tup (v.2.map dd))) (some (nD e.fr)) (some (nD e.to)) (some (.int e.c)) (some (dd e.d)) x13 x14 ∧ M' = M ++ [.dct (wyD ((List.range 7).foldl (rlx p.1.1 v.1 v.2 e) f1))]) ?_ ?_
              · refine Sat.step (s_for (i_rng (n := 7) e_con (by decide))) ?_
                refine Sat.forN (fun z δ M' => ∃ x13 x14, δ = lgE W E M.length x (some (.dct (wyD TH))) (some (nD p.1.1)) (some (nD p.1.2)) (some (.int v.1)) (some (.tup (v.2.map dd))) (some (nD e.fr)) (some (nD e.to)) (some (.int e.c)) (some (dd e.d)) x13 x14 ∧ M' = M ++ [.dct (wyD ((List.range z).foldl (rlx p.1.1 v.1 v.2 e) f1))]) ⟨_, _, rfl, rfl⟩ ?_ ?_
                · rintro z d hd δ M' ⟨x13, x14, rfl, rfl⟩
                  obtain ⟨hz, rfl⟩ := rngL_get hd
                  rw [Int.zero_add]
                  obtain ⟨δ2, M2, e2, q1, q2⟩ := lg_last (Φ := callF FDS (k + 1)) (B := M) (W := W) (E := E) (x3 := x) (u := p.1.1) (b := p.1.2) (z := z) (c := v.1) (ds := v.2) (e := e) (f := (List.range z).foldl (rlx p.1.1 v.1 v.2 e) f1) (x13 := some (nD z)) (x14 := x14) hz (hE e heE).2 hv99 (kp_range hu hv99 hkp1 z (by omega))
                  refine ⟨δ2, M2, e2, _, _, q1, ?_⟩
                  rw [q2, List.range_succ, List.foldl_append]; rfl
                · rintro δ M' ⟨x13, x14, rfl, rfl⟩
                  rw [rngL_len]
                  exact Sat.step s_nil (Sat.nx ⟨_, _, rfl, rfl⟩)
              · rintro δ M' ⟨x13, x14, rfl, rfl⟩
                exact Sat.step s_nil (Sat.nx ⟨_, _, _, _, _, _, rfl, rfl⟩)
            · rw [decide_eq_false hfr] at hc1
              rw [if_neg hfr]
              refine Sat.step (p_itef hc1) ?_
              exact Sat.step s_nil (Sat.nx ⟨_, _, _, _, _, _, rfl, rfl⟩)
        · rintro δ M' ⟨x9, x10, x11, x12, x13, x14, rfl, rfl⟩
          rw [List.length_map, List.take_length]
          refine Sat.step s_nil (Sat.nx ?_)
          rw [hend]
          exact ⟨_, _, _, _, _, _, _, _, _, _, rfl, rfl⟩
    · rintro δ M' ⟨x5, x6, x7, x8, x9, x10, x11, x12, x13, x14, rfl, rfl⟩
      rw [List.length_map, wyD_len, List.take_length]
      refine Sat.step (s_ret (e_frzd rfl)) ?_
      exact fin_out rfl hc (okKs_wy _ _) (fun j e => nomatch e)
end CB
end
section
set_option maxHeartbeats 1000000
/-! P30: ways_of, is_sound, price_tags. -/
namespace CB
open PySem
theorem isFrom_nat {n hi : Nat} (h : n ≤ hi) : isFrom (nD n) 0 (hi : Int) = true := isFrom_mk (by omega) (by omega)
theorem optB_oD {o : Option Nat} (h : ∀ x ∈ o, x ≤ 2) : optB (oD o) = true := by
  cases o with
  | none => rfl
  | some x =>
    show ((nD x).isNon || isFrom (nD x) 0 2) = true
    rw [show isFrom (nD x) 0 2 = true from isFrom_nat (hi := 2) (h x rfl)]
    simp
theorem stand_ok {s : Sd} (h : s.ok) : standB s.d = true := by
  have h1 : isFrom (nD s.dep) 0 9 = true := isFrom_nat (hi := 9) h.dep
  have h2 : isFrom (nD s.ref) 0 9 = true := isFrom_nat (hi := 9) h.ref
  have h3 : isFrom (nD s.cup) 0 2 = true := isFrom_nat (hi := 2) h.cup
  have h6 : takesB (.tup (s.takes.map nD)) = true := by
    show (decide ((s.takes.map nD).length ≤ 3) && (s.takes.map nD).all (fun d => isFrom d 0 2) && ascB (s.takes.map nD)) = true
    rw [decide_eq_true (by rw [List.length_map]; exact h.len)]
    have ha : ((s.takes.map nD).all fun d => isFrom d 0 2) = true := List.all_eq_true.mpr fun d hd => by
      obtain ⟨x, hx, rfl⟩ := List.mem_map.mp hd
      exact isFrom_nat (hi := 2) (h.takes x hx)
    rw [ha, map_nD]
    have := (ascB_iff (s.takes.map fun n : Nat => (n : Int))).mpr (List.pairwise_map.mpr (h.asc.imp fun h => by omega))
    rw [this]; rfl
  show (isFrom (nD s.dep) 0 9 && isFrom (nD s.ref) 0 9 && isFrom (nD s.cup) 0 2 && optB (oD s.chip) && optB (oD s.needs) && takesB (.tup (s.takes.map nD))) = true
  rw [h1, h2, h3, h6, optB_oD h.chip, optB_oD h.needs]; rfl
theorem word_ok (b : Bool) : wordB (.str (wordS b)) = true := by cases b <;> decide +kernel
theorem shop_ok {b : Bd} (h : b.ok) : shopB b.d = true := by
  show (wordB (.str (wordS b.cup)) && isFrom (nD b.sort) 0 2 && isFrom (nD b.price) 0 9) = true
  rw [word_ok, show isFrom (nD b.sort) 0 2 = true from isFrom_nat (hi := 2) h.sort, show isFrom (nD b.price) 0 9 = true from isFrom_nat (hi := 9) h.price]; rfl
theorem fr_fairB {f : Fr2} (h : f.ok) : fairB f.d = true := by
  show (tupAll (.tup (f.ss.map Sd.d)) 1 4 standB && tupAll (.tup (f.bs.map Bd.d)) 0 3 shopB) = true
  have h1 := h.s1
  have h4 := h.s4
  have h3 := h.b3
  show ((decide (1 ≤ (f.ss.map Sd.d).length) && decide ((f.ss.map Sd.d).length ≤ 4) && (f.ss.map Sd.d).all standB) && (decide (0 ≤ (f.bs.map Bd.d).length) && decide ((f.bs.map Bd.d).length ≤ 3) && (f.bs.map Bd.d).all shopB)) = true
  rw [List.length_map, List.length_map, decide_eq_true h1, decide_eq_true h4, decide_eq_true h3, decide_eq_true (Nat.zero_le _)]
  have a1 : (f.ss.map Sd.d).all standB = true := List.all_eq_true.mpr fun d hd => by
    obtain ⟨s, hs, rfl⟩ := List.mem_map.mp hd
    exact stand_ok (h.s s hs)
  have a2 : (f.bs.map Bd.d).all shopB = true := List.all_eq_true.mpr fun d hd => by
    obtain ⟨s, hs, rfl⟩ := List.mem_map.mp hd
    exact shop_ok (h.b s hs)
  rw [a1, a2]; rfl
section
variable {Φ : Nat → List D → Mem → Rs D} {δ : Env} {M : Mem}
theorem e_get {a e x : T} {l : List (List Int × D)} {k : List Int} {y : D} (h : ev Φ a δ M = .ok (.dct l) M) (h2 : ev Φ e δ M = .ok (.key k) M) (h3 : ev Φ x δ M = .ok y M) : ev Φ (.m .get a (.cons e (.cons x .nil))) δ M = .ok ((kGet k l).getD y) M := by
  conv => lhs; unfold ev
  rw [h]
  show (if mFit .get .dct = true then (evs Φ (.cons e (.cons x .nil)) δ M).bind fun ds M2 => lift M2 (callM .dct M2 .get (.dct l) ds) else .stuck) = _
  rw [if_pos (show mFit .get .dct = true from rfl), es_cons h2 (es_cons h3 es_nil), Rs.bind_ok]
  rfl
end
def waysD (o : Option Wy) : D := match o with
  | none => .non
  | some W => .dct (wyD W)
theorem ways_self {E : List Edge} {t n : Nat} {W : Wy} (h : Ways E t W) (hn : n < 7) : ∃ x, wGet (n, n) W = some x := by
  obtain ⟨x, hx, _⟩ := h.full n n [] hn hn (by simp) Fr.rfl (by simp)
  exact ⟨x, hx⟩
theorem waysN_99 {E : List Edge} (hE : ∀ e ∈ E, e.fr < 7) {t : Nat} (ht : t ≤ 50) : ∀ k x, wGet k (waysN E t) = some x → x.2.length ≤ 99 := fun k x h => by
  obtain ⟨_, _, es, _, _, _, e, hl⟩ := (waysN_ok hE t).real k.1 k.2 x h
  rw [← e, List.length_map]; omega
theorem ways_of_spec (k : Nat) (E : List Edge) (M : Mem) (hc : Clean M) (hE : ∀ e ∈ E, e.fr < 7 ∧ e.to < 7) : callF FDS (k + 3) j_ways_of [.lst (E.map eD)] M = .ok (waysD (waysP E)) M := by
  have hn : ∀ e ∈ E, e.fr < 7 := fun e he => (hE e he).1
  rw [callF_at fds_ways_of rfl]
  refine Sat.fin ?_
  show Sat _ (exs _ B_ways_of [some (.lst (E.map eD)), none, none, none] _)
  unfold B_ways_of
  refine Sat.step (p_set (e_call0 (thrown_spec (k + 1) M hc))) ?_
  refine Sat.step (s_for (i_rng (n := 7) e_con (by decide))) ?_
  refine Sat.for_ (fun t δ M' => ∃ x, δ = [some (.lst (E.map eD)), some (.dct (wyD (waysN E t))), x, none] ∧ M' = M ∧ waysP E = waysFrom E (7 - t) (waysN E t)) ⟨none, rfl, rfl, rfl⟩ ?_ ?_
  · rintro t d hd δ M' ⟨x, rfl, rfl, hw⟩
    obtain ⟨ht, rfl⟩ := rngL_get hd
    rw [Int.zero_add]
    show Sat _ (exs _ _ [some (.lst (E.map eD)), some (.dct (wyD (waysN E t))), some (nD t), none] _)
    refine Sat.step (p_set (e_call (es_cons (e_var rfl) (es_cons (e_var rfl) es_nil)) (longer_spec k (waysN E t) E M' hc (kd_waysN hn t (by omega)) (waysN_99 hn (by omega)) hE))) ?_
    show Sat _ (exs _ _ [some (.lst (E.map eD)), some (.dct (wyD (waysN E (t + 1)))), some (nD t), none] _)
    have hc1 : ev (callF FDS (k + 2)) (.b .any (.cons (.lc (.nm 3) (.rng (.con (.int 7))) (.con (.bl true)) (.cmp .lt (.op2 .ix (.op2 .ix (.var 1) (.key (.cons (.var 3) (.cons (.var 3) .nil)))) (.con (.int 0))) (.con (.int 0))) [3]) .nil)) [some (.lst (E.map eD)), some (.dct (wyD (waysN E (t + 1)))), some (nD t), none] M' = .ok (.bl (negB (waysN E (t + 1)))) M' := by
      refine e_b (es_cons (e_lcq (q := nD) (r := fun n => .bl (match wGet (n, n) (waysN E (t + 1)) with | some x => decide (x.1 < 0) | none => false)) (l := List.range 7) (by rw [← rng_nD]; exact i_rng (n := 7) e_con (by decide)) (by simp) fun n hn7 => ?_) es_nil) (any_map _ _ _)
      obtain ⟨x, hx⟩ := ways_self (waysN_ok hn (t + 1)) (List.mem_range.mp hn7)
      rw [hx]
      exact e_cmp (e_op2 (x := valD x) (d := .int x.1) (e_op2 (e_var rfl) (e_key2 (e_var rfl) (e_var rfl)) (dct_ix hx)) e_con rfl) e_con rfl
    have hstep : waysP E = if negB (waysN E (t + 1)) = true then none else waysFrom E (7 - (t + 1)) (waysN E (t + 1)) := by
      rw [hw, show 7 - t = (7 - (t + 1)) + 1 by omega]; rfl
    by_cases hb : negB (waysN E (t + 1)) = true
    · rw [hb] at hc1
      refine Sat.step (p_ifyes hc1) (.inr ⟨.inl ⟨_, _, rfl⟩, ?_⟩)
      show fin M'.length (.ret .non M') = _
      rw [fin_ret_same, hstep, if_pos hb]; rfl
    · rw [Bool.not_eq_true] at hb
      rw [hb] at hc1
      refine Sat.step (p_ifno hc1) (Sat.step s_nil (Sat.go ⟨_, rfl, rfl, ?_⟩))
      rw [hstep, hb]; rfl
  · rintro δ M' ⟨x, rfl, rfl, hw⟩
    rw [rngL_len] at hw ⊢
    refine Sat.step (p_ret (e_var rfl)) ?_
    show fin M'.length (.ret _ M') = _
    rw [fin_ret_same, hw]; rfl
theorem waysD_non (o : Option Wy) : (waysD o).isNon = o.isNone := by cases o <;> rfl
theorem need_fair_ok (k : Nat) (f : Fr2) (M : Mem) (h : f.ok) : callF FDS (k + 5) j_need_fair [f.d] M = .ok .non M := by
  have hf : fairB f.d = true := fr_fairB h
  exact need_fair_spec k _ M (good_fair (m := 6) (n := 0) (by decide) hf) hf
theorem is_sound_spec (k : Nat) (f : Fr2) (M : Mem) (hc : Clean M) (h : f.ok) : callF FDS (k + 6) j_is_sound [f.d] M = .ok (.bl (waysP f.E).isSome) M := by
  rw [callF_at fds_is_sound rfl]
  refine Sat.fin ?_
  show Sat _ (exs _ B_is_sound _ _)
  unfold B_is_sound
  refine Sat.step (p_expr (e_call (es_cons (e_var rfl) es_nil) (need_fair_ok k f M h))) ?_
  refine Sat.step (p_ret (d := .bl (waysP f.E).isSome) (e_cmp (e_call (es_cons (e_call (es_cons (e_var rfl) es_nil) (edges_of_spec (k + 3) f M h)) es_nil) (ways_of_spec (k + 2) f.E M hc h.lt)) e_con ?_)) ?_
  · rw [isnot_non, waysD_non]
    cases waysP f.E <;> rfl
  · exact fin_ret_same _ _
/-- prices of cups and of chips -/
def pcup (W : Wy) (s : Nat) : Int := match wGet (1 + s, 0) W with | some x => 0 - x.1 | none => 0
def pchip (W : Wy) (s : Nat) : Int := match wGet (4 + s, 0) W with | some x => x.1 | none => 9
def pricesD (W : Wy) : D := .tup [.tup ((List.range 3).map fun s => .int (pcup W s)), .tup ((List.range 3).map fun s => .int (pchip W s))]
theorem price_tags_spec (k : Nat) (f : Fr2) (M : Mem) (hc : Clean M) (h : f.ok) : callF FDS (k + 6) j_price_tags [f.d] M = .ok (match waysP f.E with | none => .non | some W => pricesD W) M := by
  have hn : ∀ e ∈ f.E, e.fr < 7 := fun e he => (h.lt e he).1
  rw [callF_at fds_price_tags rfl]
  refine Sat.fin ?_
  show Sat _ (exs _ B_price_tags [some f.d, none, none, none] _)
  unfold B_price_tags
  refine Sat.step (p_expr (e_call (es_cons (e_var rfl) es_nil) (need_fair_ok k f M h))) ?_
  refine Sat.step (p_set (e_call (es_cons (e_call (es_cons (e_var rfl) es_nil) (edges_of_spec (k + 3) f M h)) es_nil) (ways_of_spec (k + 2) f.E M hc h.lt))) ?_
  have hc1 := e_isnon (Φ := callF FDS (k + 5)) (δ := [some f.d, some (waysD (waysP f.E)), none, none]) (M := M) (e := .var 1) (e_var rfl)
  cases q : waysP f.E with
  | none =>
    rw [q] at hc1
    refine Sat.step (p_ifyes hc1) ?_
    exact fin_ret_same _ _
  | some W =>
    rw [q] at hc1
    have b := waysP_some hn q
    refine Sat.step (p_ifno hc1) ?_
    refine Sat.step (p_set (d := .tup ((List.range 3).map fun s => .int (pcup W s))) (e_b (es_cons (e_lcq (q := nD) (r := fun s => .int (pcup W s)) (l := List.range 3) (by rw [← rng_nD]; exact i_rng (n := 3) e_con (by decide)) (by simp) fun s hs => ?_) es_nil) rfl)) ?_
    · have hs3 := List.mem_range.mp hs
      obtain ⟨x, hx, _⟩ := b.best (1 + s) 0 [] (by omega) (by omega) (fun _ h => nomatch h) (by show Fr _ _; unfold Fr; omega)
      refine e_op2 (x := .int 0) (y := .int x.1) e_con (e_op2 (x := valD x) (e_op2 (x := .dct (wyD W)) (e_var rfl) (e_key2 (x := 1 + s) (y := 0) (e_call (es_cons (e_var rfl) es_nil) (cup_node_spec (k + 4) s M)) e_con) (dct_ix hx)) e_con rfl) ?_
      show some (D.int (0 - x.1)) = _
      unfold pcup
      rw [hx]
    refine Sat.step (p_ret (d := pricesD W) (e_tup (ds := [.tup ((List.range 3).map fun s => .int (pcup W s)), .tup ((List.range 3).map fun s => .int (pchip W s))]) (es_cons (e_var rfl) (es_cons (e_b (es_cons (e_lcq (q := nD) (r := fun s => .int (pchip W s)) (l := List.range 3) (by rw [← rng_nD]; exact i_rng (n := 3) e_con (by decide)) (by simp) fun s hs => ?_) es_nil) rfl) es_nil)) (by simp))) ?_
    · have hd : ev (callF FDS (k + 5)) (.m .get (.var 1) (.cons (.key (.cons (.call j_chip_node (.cons (.var 3) .nil)) (.cons (.con (.int 0)) .nil))) (.cons (.tup (.cons (.con (.int 9)) (.cons (.tup .nil) .nil))) .nil))) ((wipeD [some f.d, some (.dct (wyD W)), some (.tup ((List.range 3).map fun s => .int (pcup W s))), none] [3]).set 3 (some (nD s))) M = .ok (((wGet (4 + s, 0) W).map valD).getD (valD (9, []))) M := by
        rw [← wyD_get]
        exact e_get (e_var rfl) (e_key2 (x := 4 + s) (y := 0) (e_call (es_cons (e_var rfl) es_nil) (chip_node_some (k + 4) s M)) e_con) (e_tup (es_cons e_con (es_cons (e_tup es_nil (by simp)) es_nil)) (by simp))
      unfold pchip
      cases q2 : wGet (4 + s, 0) W with
      | none => rw [q2] at hd; exact e_op2 (d := .int 9) hd e_con rfl
      | some x => rw [q2] at hd; exact e_op2 (d := .int x.1) hd e_con rfl
    · exact fin_ret_same _ _
end CB
end
section
set_option maxHeartbeats 1000000
/-! P31: prices by which no deed gains; _law_price, _law_right. -/
namespace CB
open PySem
theorem filt_no {α : Type} (l : List α) : (l.filter fun _ => false) = [] := by simp
theorem Best.tri {E : List Edge} {W : Wy} (b : Best E W) {e : Edge} {v : Nat} {x : Int × List Nat} (he : e ∈ E) (hf : e.fr < 7) (h : wGet (e.to, v) W = some x) : AtMost e.fr v (e.c + x.1) W := by
  obtain ⟨h1, h2, es, h3, h4, h5, _⟩ := b.real _ _ _ h
  have := b.best e.fr v (e :: es) hf h2 (fun q hq => by rcases List.mem_cons.mp hq with rfl | hq; exact he; exact h3 q hq) ⟨Fr.rfl, h4⟩
  rw [costE_cons, h5] at this
  exact this
theorem Best.zero {E : List Edge} {W : Wy} (b : Best E W) {u v : Nat} (hu : u < 7) (hv : v < 7) (h : Fr u v) : AtMost u v 0 W := b.best u v [] hu hv (fun _ h => nomatch h) h
theorem pcup_get {E : List Edge} {W : Wy} (b : Best E W) {s : Nat} (hs : s ≤ 2) : ∃ x, wGet (1 + s, 0) W = some x ∧ pcup W s = 0 - x.1 ∧ x.1 ≤ 0 := by
  obtain ⟨x, hx, h0⟩ := b.zero (u := 1 + s) (v := 0) (by omega) (by omega) (by unfold Fr; omega)
  exact ⟨x, hx, by unfold pcup; rw [hx], h0⟩
/-- the price of a thing, 0 for none -/
def pval (pc ph : Nat → Int) (b : Bool) : Option Nat → Int
  | none => 0
  | some s => if b = true then pc s else ph s
structure RightP (f : Fr2) (pc ph : Nat → Int) : Prop where
  c0 : ∀ s, s ≤ 2 → 0 ≤ pc s
  h0 : ∀ s, s ≤ 2 → 0 ≤ ph s
  dep : ∀ s ∈ f.ss, pc s.cup + pval pc ph false s.chip ≤ (s.dep : Int)
  ref : ∀ s ∈ f.ss, ∀ t ∈ s.takes, (s.ref : Int) ≤ pc t + pval pc ph false s.needs
  shp : ∀ b ∈ f.bs, pval pc ph b.cup (some b.sort) ≤ (b.price : Int)
theorem standsE_mem : ∀ {ss : List Sd} {n : Nat} {s : Sd}, s ∈ ss → ∃ i, takeE i s ∈ standsE n ss ∧ ∀ t ∈ s.takes, giveE i s t ∈ standsE n ss
  | x :: r, n, s, h => by
    rcases List.mem_cons.mp h with rfl | h
    · exact ⟨n, List.mem_append_left _ List.mem_cons_self, fun t ht => List.mem_append_left _ (List.mem_cons_of_mem _ (List.mem_map.mpr ⟨t, ht, rfl⟩))⟩
    · obtain ⟨i, h1, h2⟩ := standsE_mem (n := n + 1) h
      exact ⟨i, List.mem_append_right _ h1, fun t ht => List.mem_append_right _ (h2 t ht)⟩
theorem shopsE_mem : ∀ {bs : List Bd} {n : Nat} {b : Bd}, b ∈ bs → ∃ i, shopE i b ∈ shopsE n bs
  | x :: r, n, b, h => by
    rcases List.mem_cons.mp h with rfl | h
    · exact ⟨n, List.mem_cons_self⟩
    · obtain ⟨i, h1⟩ := shopsE_mem (n := n + 1) h
      exact ⟨i, List.mem_cons_of_mem _ h1⟩
theorem right_of {f : Fr2} {W : Wy} (hf : f.ok) (b : Best f.E W) : RightP f (pcup W) (pchip W) := by
  have hd0 : ∀ x, wGet (0, 0) W = some x → 0 ≤ x.1 ∧ x.1 ≤ 0 := fun x hx => by
    obtain ⟨y, hy, h0⟩ := b.zero (u := 0) (v := 0) (by omega) (by omega) Fr.rfl
    rw [hx] at hy; cases hy
    exact ⟨b.diag 0 x (by omega) hx, h0⟩
  have h00 : ∃ x, wGet (0, 0) W = some x := by
    obtain ⟨y, hy, _⟩ := b.zero (u := 0) (v := 0) (by omega) (by omega) Fr.rfl
    exact ⟨y, hy⟩
  refine ⟨fun s hs => ?_, fun s hs => ?_, fun s hs => ?_, fun s hs t ht => ?_, fun p hp => ?_⟩
  · obtain ⟨x, _, h1, h2⟩ := pcup_get b hs
    rw [h1]; omega
  · unfold pchip
    cases q : wGet (4 + s, 0) W with
    | none => show (0 : Int) ≤ 9; decide
    | some x =>
      obtain ⟨h1, h2, es, h3, h4, h5, _⟩ := b.real _ _ _ q
      obtain ⟨y, hy, h6⟩ := b.best 0 0 es (by omega) (by omega) h3 (by
        have := ch_join (a := []) (u := 0) (v := 4 + s) (show Fr 0 (4 + s) by unfold Fr; omega) h4
        exact this)
      have := (hd0 y hy).1
      show 0 ≤ x.1
      omega
  · have so := hf.s s hs
    obtain ⟨i, h1, _⟩ := standsE_mem (n := 0) hs
    obtain ⟨x, hx, hpc, hx0⟩ := pcup_get b so.cup
    obtain ⟨y, hy, hle⟩ := b.tri (e := takeE i s) (v := 0) (List.mem_append_left _ h1) (chipN_lt so.chip) hx
    have hle : y.1 ≤ (s.dep : Int) + x.1 := hle
    have hy : wGet (chipN s.chip, 0) W = some y := hy
    cases hc : s.chip with
    | none =>
      rw [hc] at hy
      have := (hd0 y hy).1
      show pcup W s.cup + 0 ≤ _
      omega
    | some c =>
      rw [hc] at hy
      have : pchip W c = y.1 := by unfold pchip; rw [show (4 + c, 0) = (chipN (some c), 0) from rfl, hy]
      show pcup W s.cup + pchip W c ≤ _
      omega
  · have so := hf.s s hs
    obtain ⟨i, _, h2⟩ := standsE_mem (n := 0) hs
    have he := h2 t ht
    obtain ⟨x, hx, hpc, hx0⟩ := pcup_get b (so.takes t ht)
    have hfr : (giveE i s t).fr < 7 := by have := so.takes t ht; show 1 + t < 7; omega
    cases hn : s.needs with
    | none =>
      obtain ⟨z, hz⟩ := h00
      have hz0 := hd0 z hz
      obtain ⟨y, hy, hle⟩ := b.tri (e := giveE i s t) (v := 0) (x := z) (List.mem_append_left _ he) hfr (by show wGet (chipN s.needs, 0) W = _; rw [hn]; exact hz)
      have hy : wGet (1 + t, 0) W = some y := hy
      rw [hx] at hy; cases hy
      have hle : x.1 ≤ 0 - (s.ref : Int) + z.1 := hle
      show (s.ref : Int) ≤ pcup W t + 0
      omega
    | some c =>
      show (s.ref : Int) ≤ pcup W t + pchip W c
      cases q : wGet (4 + c, 0) W with
      | none =>
        have : pchip W c = 9 := by unfold pchip; rw [q]
        have := so.ref
        omega
      | some z =>
        have hz : pchip W c = z.1 := by unfold pchip; rw [q]
        obtain ⟨y, hy, hle⟩ := b.tri (e := giveE i s t) (v := 0) (x := z) (List.mem_append_left _ he) hfr (by show wGet (chipN s.needs, 0) W = _; rw [hn]; exact q)
        have hy : wGet (1 + t, 0) W = some y := hy
        rw [hx] at hy; cases hy
        have hle : x.1 ≤ 0 - (s.ref : Int) + z.1 := hle
        omega
  · have so := hf.b p hp
    obtain ⟨i, h1⟩ := shopsE_mem (n := 0) hp
    have h1 : shopE i p ∈ f.E := List.mem_append_right _ h1
    cases hc : p.cup with
    | true =>
      obtain ⟨x, hx, hpc, hx0⟩ := pcup_get b so.sort
      have e : shopE i p = ⟨0, 1 + p.sort, p.price, i⟩ := by unfold shopE; rw [if_pos hc]
      rw [e] at h1
      obtain ⟨y, hy, hle⟩ := b.tri (v := 0) (x := x) h1 (by show 0 < 7; omega) hx
      have := (hd0 y hy).1
      have hle : y.1 ≤ (p.price : Int) + x.1 := hle
      show pcup W p.sort ≤ _
      omega
    | false =>
      have e : shopE i p = ⟨4 + p.sort, 0, p.price, i⟩ := by unfold shopE; rw [if_neg (by rw [hc]; decide)]
      rw [e] at h1
      obtain ⟨z, hz⟩ := h00
      have hz0 := hd0 z hz
      obtain ⟨y, hy, hle⟩ := b.tri (v := 0) (x := z) h1 (by have := so.sort; show 4 + p.sort < 7; omega) hz
      have hy : wGet (4 + p.sort, 0) W = some y := hy
      have hle : y.1 ≤ (p.price : Int) + z.1 := hle
      have : pchip W p.sort = y.1 := by unfold pchip; rw [hy]
      show pchip W p.sort ≤ _
      omega
/-! ### the walks -/
def pricesF (pc ph : Nat → Int) : D := .tup [.tup ((List.range 3).map fun s => .int (pc s)), .tup ((List.range 3).map fun s => .int (ph s))]
theorem law_price_spec (k : Nat) (pc ph : Nat → Int) (b : Bool) (o : Option Nat) (M : Mem) (ho : ∀ x ∈ o, x ≤ 2) : callF FDS (k + 1) j__law_price [pricesF pc ph, .str (wordS b), oD o] M = .ok (.int (pval pc ph b o)) M := by
  rw [callF_at fds__law_price rfl]
  refine Sat.fin ?_
  show Sat _ (exs _ B__law_price _ _)
  unfold B__law_price
  refine Sat.step (p_ret (d := .int (pval pc ph b o)) (e_ite (e_isnon (e_var rfl)) (fun h => ?_) fun h => ?_)) ?_
  · cases o with
    | none => exact e_con
    | some x => cases h
  · cases o with
    | none => cases h
    | some s =>
      have hs := ho s rfl
      refine e_op2 (x := .tup ((List.range 3).map fun s => .int (if b = true then pc s else ph s))) (y := nD s) (e_op2 (x := pricesF pc ph) (y := .int (if (!b) = true then 1 else 0)) (e_var rfl) (e_b (es_cons (e_cmp (e_var rfl) e_con (word_chip M b)) es_nil) rfl) ?_) (e_var rfl) (at_nat ?_)
      · cases b <;> rfl
      · rw [List.getElem?_map, List.getElem?_range (by omega)]; rfl
  exact fin_ret_same _ _
theorem law_price_some (k : Nat) (pc ph : Nat → Int) (b : Bool) (s : Nat) (M : Mem) (hs : s ≤ 2) : callF FDS (k + 1) j__law_price [pricesF pc ph, .str (wordS b), nD s] M = .ok (.int (pval pc ph b (some s))) M :=
  law_price_spec k pc ph b (some s) M fun x hx => by cases hx; exact hs
theorem lt_int (M : Mem) (a b : Int) : cmp2 M .lt (.int a) (.int b) = some (decide (a < b)) := rfl
theorem gt_int (M : Mem) (a b : Int) : cmp2 M .gt (.int a) (.int b) = some (decide (b < a)) := rfl
theorem law_right_spec (k : Nat) (f : Fr2) (pc ph : Nat → Int) (M : Mem) (hf : f.ok) (h : RightP f pc ph) : callF FDS (k + 2) j__law_right [f.d, pricesF pc ph] M = .ok (.bl true) M := by
  rw [callF_at fds__law_right rfl]
  refine Sat.fin ?_
  show Sat _ (exs _ B__law_right [some f.d, some (pricesF pc ph), none, none, none, none, none, none, none, none, none, none, none] _)
  unfold B__law_right
  refine Sat.step (p_ifno (e_or (x := false) (y := false) (e_not (x := true) (e_isi (e_var rfl) rfl)) fun _ => e_cmp (x := .lst [.int 3, .int 3]) (y := .lst [.int 3, .int 3]) (ev_lc1 (ds := [.tup ((List.range 3).map fun s => .int (pc s)), .tup ((List.range 3).map fun s => .int (ph s))]) (fun _ => .int 3) (i_seq (e_var rfl) rfl) (by simp) fun d hd => ?_) (e_lst (es_cons e_con (es_cons e_con es_nil)) (by simp)) rfl)) ?_
  · simp only [List.mem_cons, List.not_mem_nil, or_false] at hd
    rcases hd with rfl | rfl
    · exact ⟨_, rfl, e_b (es_cons (e_var rfl) es_nil) rfl⟩
    · exact ⟨_, rfl, e_b (es_cons (e_var rfl) es_nil) rfl⟩
  refine Sat.step (p_ifno (e_cmp (x := .lst ((((List.range 3).map pc ++ (List.range 3).map ph).filter fun _ => false).map D.int)) (e_lcf (q := D.int) (l := (List.range 3).map pc ++ (List.range 3).map ph) (i_seq (d := .tup ((List.range 3).map (fun s => .int (pc s)) ++ (List.range 3).map (fun s => .int (ph s)))) (e_op2 (e_op2 (x := pricesF pc ph) (e_var rfl) e_con rfl) (e_op2 (x := pricesF pc ph) (e_var rfl) e_con rfl) (add_tup (by simp))) ?_) (by simp) (fun i hi => e_not (x := true) ?_) fun i hi hh => nomatch hh) (e_lst es_nil (by simp)) ?_)) ?_
  · rw [List.map_append, List.map_map, List.map_map]; rfl
  · have h0 : 0 ≤ i := by
      rcases List.mem_append.mp hi with hi | hi
      · obtain ⟨s, hs, rfl⟩ := List.mem_map.mp hi
        exact h.c0 s (by have := List.mem_range.mp hs; omega)
      · obtain ⟨s, hs, rfl⟩ := List.mem_map.mp hi
        exact h.h0 s (by have := List.mem_range.mp hs; omega)
    have := law_from_spec k (.int i) 0 i M rfl
    rw [isFrom_mk h0 (Int.le_refl _)] at this
    exact e_call (es_cons (e_var rfl) (es_cons e_con (es_cons (e_var rfl) es_nil))) this
  · rw [filt_no]; rfl
  have hwc : wordS true = "cup" := rfl
  have hwh : wordS false = "chip" := rfl
  refine Sat.step (s_for (ds := f.ss.map Sd.d) (i_seq (d := .tup (f.ss.map Sd.d)) (e_ix0 (e_var rfl) rfl) rfl)) ?_
  refine Sat.for_ (fun i δ M' => ∃ x2 x3 x4 x5 x6 x7 x8, δ = [some f.d, some (pricesF pc ph), x2, x3, x4, x5, x6, x7, x8, none, none, none, none] ∧ M' = M) ⟨_, _, _, _, _, _, _, rfl, rfl⟩ ?_ ?_
  · rintro i d hd δ M' ⟨x2, x3, x4, x5, x6, x7, x8, rfl, rfl⟩
    rw [List.getElem?_map] at hd
    cases hq : f.ss[i]? with
    | none => rw [hq] at hd; cases hd
    | some s =>
      rw [hq] at hd
      cases hd
      have hs := List.mem_of_getElem? hq
      have so := hf.s s hs
      show Sat _ (exs _ _ [some f.d, some (pricesF pc ph), some (nD s.dep), some (nD s.cup), some (oD s.chip), some (.tup (s.takes.map nD)), some (oD s.needs), some (nD s.ref), x8, none, none, none, none] _)
      refine Sat.step (p_ifno (e_cmp (e_var rfl) (e_op2 (e_call (es_cons (e_var rfl) (es_cons e_con (es_cons (e_var rfl) es_nil))) (law_price_some k pc ph true s.cup _ so.cup)) (e_call (es_cons (e_var rfl) (es_cons e_con (es_cons (e_var rfl) es_nil))) (law_price_spec k pc ph false s.chip _ so.chip)) (add_int _ _ _)) ?_)) ?_
      · refine (lt_int _ _ _).trans ?_
        have := h.dep s hs
        exact congrArg some (decide_eq_false (by show ¬ ((s.dep : Int) < pc s.cup + pval pc ph false s.chip); omega))
      refine Sat.step (s_for (ds := s.takes.map nD) (i_seq (d := .tup (s.takes.map nD)) (e_var rfl) rfl)) ?_
      refine Sat.for_ (fun j δ M2 => ∃ x8, δ = [some f.d, some (pricesF pc ph), some (nD s.dep), some (nD s.cup), some (oD s.chip), some (.tup (s.takes.map nD)), some (oD s.needs), some (nD s.ref), x8, none, none, none, none] ∧ M2 = M') ⟨_, rfl, rfl⟩ ?_ ?_
      · rintro j d hd δ M2 ⟨x8, rfl, rfl⟩
        rw [List.getElem?_map] at hd
        cases hj : s.takes[j]? with
        | none => rw [hj] at hd; cases hd
        | some t =>
          rw [hj] at hd
          cases hd
          have ht := List.mem_of_getElem? hj
          show Sat _ (exs _ _ [some f.d, some (pricesF pc ph), some (nD s.dep), some (nD s.cup), some (oD s.chip), some (.tup (s.takes.map nD)), some (oD s.needs), some (nD s.ref), some (nD t), none, none, none, none] _)
          refine Sat.step (p_ifno (e_cmp (e_var rfl) (e_op2 (e_call (es_cons (e_var rfl) (es_cons e_con (es_cons (e_var rfl) es_nil))) (law_price_some k pc ph true t _ (so.takes t ht))) (e_call (es_cons (e_var rfl) (es_cons e_con (es_cons (e_var rfl) es_nil))) (law_price_spec k pc ph false s.needs _ so.needs)) (add_int _ _ _)) ?_)) ?_
          · refine (gt_int _ _ _).trans ?_
            have := h.ref s hs t ht
            exact congrArg some (decide_eq_false (by show ¬ (pc t + pval pc ph false s.needs < (s.ref : Int)); omega))
          exact Sat.step s_nil (Sat.go ⟨_, rfl, rfl⟩)
      · rintro δ M2 ⟨x8, rfl, rfl⟩
        exact Sat.step s_nil (Sat.go ⟨_, _, _, _, _, _, _, rfl, rfl⟩)
  · rintro δ M' ⟨x2, x3, x4, x5, x6, x7, x8, rfl, rfl⟩
    refine Sat.step (p_ret (d := .bl true) (e_cmp (x := .lst (((f.bs.map Bd.d).filter fun _ => false).map fun _ => .int 1)) (ev_lc (ds := f.bs.map Bd.d) (fun _ => false) (fun _ => .int 1) (i_seq (d := .tup (f.bs.map Bd.d)) (e_ix0 (e_var rfl) rfl) rfl) (by have := hf.b3; rw [List.length_map]; omega) fun d hd => ?_) (e_lst es_nil (by simp)) ?_)) ?_
    · obtain ⟨b, hb, rfl⟩ := List.mem_map.mp hd
      have bo := hf.b b hb
      refine ⟨[some f.d, some (pricesF pc ph), x2, x3, x4, x5, x6, x7, some (nD b.sort), none, some (.str (wordS b.cup)), some (nD b.price), none], rfl, e_cmp (e_var rfl) (e_call (es_cons (e_var rfl) (es_cons (e_var rfl) (es_cons (e_var rfl) es_nil))) (law_price_some k pc ph b.cup b.sort _ bo.sort)) ?_, fun h => nomatch h⟩
      refine (lt_int _ _ _).trans ?_
      have := h.shp b hb
      exact congrArg some (decide_eq_false (by show ¬ ((b.price : Int) < pval pc ph b.cup (some b.sort)); omega))
    · rw [filt_no]; rfl
    · exact fin_ret_same _ _
end CB
end
section
set_option maxHeartbeats 1000000
/-! P32: the law k05. -/
namespace CB
open PySem
/-- the head of a cell's turn: a new source -/
theorem cell_source (k i : Nat) (ns : List Int) (M : Mem) (ha : AllSrc M) (hi : i ≤ 1000) : ∃ x y : Int, callF FDS (k + 1) j__law_source [.scr ns, nD i] M = .ok (.loc M.length) (M ++ [.lst [.int x, .int y]]) ∧ SrcM (M ++ [.lst [.int x, .int y]]) M.length ∧ AllSrc (M ++ [.lst [.int x, .int y]]) := by
  obtain ⟨x, y, a1, y0, y1⟩ := source_spec k i ns M ha hi
  refine ⟨x, y, a1, ⟨x, y, by rw [List.getElem?_append_right (Nat.le_refl _)]; simp, y0, y1⟩, fun o ho => ?_⟩
  rcases List.mem_append.mp ho with h | h
  · exact ha o h
  · exact ⟨x, y, by simpa using h⟩
theorem fair_draw (k n : Nat) (most : Int) (M : Mem) (hs : SrcM M n) (ha : AllSrc M) (h1 : 1 ≤ most) (h4 : most ≤ 4) : ∃ (f : Fr2) (M' : Mem), callF FDS (k + 4) j__law_fair [.loc n, .int most] M = .ok f.d M' ∧ f.ok ∧ SrcM M' n ∧ AllSrc M' := by
  obtain ⟨F, M1, b1, hF, b2⟩ := fair_spec k n most M hs ha h1 h4
  obtain ⟨f, rfl, hf⟩ := fair_plain hF
  exact ⟨f, M1, b1, hf, b2.src, ha.drw b2⟩
theorem cells_rng {Φ : Nat → List D → Mem → Rs D} {δ : Env} {M : Mem} {ns : List Int} (m : Nat) (h : getVar δ 0 = some (.scr ns)) (hm : m ≤ 1000) : evi Φ (.rng (.op2 .add (.con (.int 1)) (.b .min2 (.cons (.b .len (.cons (.var 0) .nil)) (.cons (.con (.int (m : Int))) .nil))))) δ M = .ok (rngL 0 (1 + min ns.length m)) M :=
  i_rng (n := 1 + min ns.length m) (e_op2 e_con (e_b (d := .int ((min ns.length m : Nat) : Int)) (es_cons (e_b (d := .int (ns.length : Int)) (es_cons (e_var h) es_nil) rfl) (es_cons e_con es_nil)) (by
      show some (D.int (if (m : Int) < (ns.length : Int) then (m : Int) else (ns.length : Int))) = _
      congr 2
      split <;> omega)) (by
      show some (D.int (1 + ((min ns.length m : Nat) : Int))) = _
      congr 2)) (by omega)
def chipsF : Fr2 := ⟨[⟨3, 0, some 0, [0], some 0, 3⟩, ⟨1, 0, none, [0], none, 1⟩], []⟩
def farF : Fr2 := ⟨[⟨1, 0, none, [0], some 2, 9⟩], []⟩
def twoF : Fr2 := ⟨[⟨1, 0, none, [0], none, 1⟩, ⟨2, 0, none, [0], none, 2⟩], []⟩
theorem mk_ok {s : Sd} (h : (decide (s.dep ≤ 9) && decide (s.cup ≤ 2) && s.chip.all (fun x => decide (x ≤ 2)) && s.needs.all (fun x => decide (x ≤ 2)) && s.takes.all (fun x => decide (x ≤ 2)) && decide (s.takes.Pairwise (· < ·)) && decide (s.ref ≤ 9) && decide (s.takes.length ≤ 3)) = true) : s.ok := by
  simp only [Bool.and_eq_true, decide_eq_true_eq, List.all_eq_true] at h
  obtain ⟨⟨⟨⟨⟨⟨⟨h1, h2⟩, h3⟩, h4⟩, h5⟩, h6⟩, h7⟩, h8⟩ := h
  refine ⟨h1, h2, fun x hx => ?_, fun x hx => ?_, h5, h6, h7, h8⟩
  · rw [Option.mem_def] at hx; rw [hx] at h3; simpa using h3
  · rw [Option.mem_def] at hx; rw [hx] at h4; simpa using h4
def Fr2.good (f : Fr2) : Bool := f.ss.all (fun s => decide (s.dep ≤ 9) && decide (s.cup ≤ 2) && s.chip.all (fun x => decide (x ≤ 2)) && s.needs.all (fun x => decide (x ≤ 2)) && s.takes.all (fun x => decide (x ≤ 2)) && decide (s.takes.Pairwise (· < ·)) && decide (s.ref ≤ 9) && decide (s.takes.length ≤ 3)) && f.bs.all (fun b => decide (b.sort ≤ 2) && decide (b.price ≤ 9)) && decide (1 ≤ f.ss.length) && decide (f.ss.length ≤ 4) && decide (f.bs.length ≤ 3)
theorem Fr2.good_ok {f : Fr2} (h : f.good = true) : f.ok := by
  unfold Fr2.good at h
  simp only [Bool.and_eq_true, decide_eq_true_eq, List.all_eq_true (l := f.ss), List.all_eq_true (l := f.bs)] at h
  obtain ⟨⟨⟨⟨h1, h2⟩, h3⟩, h4⟩, h5⟩ := h
  refine ⟨fun s hs => mk_ok ?_, fun b hb => ⟨(h2 b hb).1, (h2 b hb).2⟩, h3, h4, h5⟩
  have := h1 s hs
  simp only [Bool.and_eq_true, decide_eq_true_eq]
  exact this
theorem chipsF_ok : chipsF.ok := Fr2.good_ok (by decide +kernel)
theorem farF_ok : farF.ok := Fr2.good_ok (by decide +kernel)
theorem twoF_ok : twoF.ok := Fr2.good_ok (by decide +kernel)
theorem chips_w : (match waysP chipsF.E with | some W => decide (pcup W 0 = 1) && decide (pchip W 0 = 2) | none => false) = true := by decide +kernel
theorem far_w : (waysP farF.E).isSome = true := by decide +kernel
theorem two_w : (waysP twoF.E).isNone = true := by decide +kernel
theorem k05_true (ns : List Int) (hn : ns.length ≤ 63) : callF FDS 20 j_law_k05 [.scr ns] [] = .ok (.bl true) [] := by
  rw [callF_at fds_law_k05 rfl]
  refine Sat.fin ?_
  show Sat (fun r => fin 0 r = _) (exs _ B_law_k05 [some (.scr ns), none, none, none, none, none, none, none, none] [])
  unfold B_law_k05
  refine Sat.step (s_for (cells_rng 10 rfl (by decide))) ?_
  refine Sat.for_ (fun i δ M => ∃ x1 x2 x3 x4 x5, δ = [some (.scr ns), x1, x2, x3, x4, x5, none, none, none] ∧ AllSrc M) ⟨_, _, _, _, _, rfl, fun o ho => by simp at ho⟩ ?_ ?_
  · rintro i d hd δ M ⟨x1, x2, x3, x4, x5, rfl, ha⟩
    obtain ⟨hi, rfl⟩ := rngL_get hd
    rw [Int.zero_add]
    show Sat _ (exs _ _ [some (.scr ns), some (nD i), x2, x3, x4, x5, none, none, none] M)
    obtain ⟨x, y, a1, hs, ha1⟩ := cell_source 18 i ns M ha (by omega)
    refine Sat.step (s_set (e_call (es_cons (e_var rfl) (es_cons (e_var rfl) es_nil)) a1)) ?_
    refine Sat.step (s_for (i_rng (n := 4) e_con (by decide))) ?_
    refine Sat.for_ (fun j δ M' => ∃ x3 x4 x5, δ = [some (.scr ns), some (nD i), some (.loc M.length), x3, x4, x5, none, none, none] ∧ SrcM M' M.length ∧ AllSrc M') ⟨_, _, _, rfl, hs, ha1⟩ ?_ ?_
    · rintro j d hd δ M' ⟨x3, x4, x5, rfl, hs, ha⟩
      obtain ⟨hj, rfl⟩ := rngL_get hd
      rw [Int.zero_add]
      show Sat _ (exs _ _ [some (.scr ns), some (nD i), some (.loc M.length), some (nD j), x4, x5, none, none, none] M')
      obtain ⟨f, M2, b1, hf, hs2, ha2⟩ := fair_draw 15 M.length 4 M' hs ha (by decide) (by decide)
      refine Sat.step (s_set (e_call (es_cons (e_var rfl) (es_cons e_con es_nil)) b1)) ?_
      refine Sat.step (p_set (e_call (es_cons (e_var rfl) es_nil) (price_tags_spec 13 f M2 ha2.clean hf))) ?_
      have hsnd := is_sound_spec 13 f M2 ha2.clean hf
      have hb : ∀ e ∈ f.E, e.fr < 7 := fun e he => (hf.lt e he).1
      cases q : waysP f.E with
      | none =>
        rw [q] at hsnd
        refine Sat.step (p_ifno (e_or (x := false) (y := false) (e_cmp (e_cmp (x := .non) (t := false) (e_var rfl) e_con rfl) (e_call (es_cons (e_var rfl) es_nil) hsnd) rfl) fun _ => e_and (x := false) (y := false) (e_cmp (x := .non) (e_var rfl) e_con rfl) fun h => nomatch h)) ?_
        exact Sat.step s_nil (Sat.go ⟨_, _, _, rfl, hs2, ha2⟩)
      | some W =>
        rw [q] at hsnd
        have hr := law_right_spec 17 f (pcup W) (pchip W) M2 hf (right_of hf (waysP_some hb q))
        refine Sat.step (p_ifno (e_or (x := false) (y := false) (e_cmp (e_cmp (x := pricesD W) (t := true) (e_var rfl) e_con rfl) (e_call (es_cons (e_var rfl) es_nil) hsnd) rfl) fun _ => e_and (x := true) (y := false) (e_cmp (x := pricesD W) (e_var rfl) e_con rfl) fun _ => e_not (e_call (es_cons (e_var rfl) (es_cons (e_var rfl) es_nil)) hr))) ?_
        exact Sat.step s_nil (Sat.go ⟨_, _, _, rfl, hs2, ha2⟩)
    · rintro δ M' ⟨x3, x4, x5, rfl, hs, ha⟩
      exact Sat.step s_nil (Sat.go ⟨_, _, _, _, _, rfl, ha⟩)
  · rintro δ M ⟨x1, x2, x3, x4, x5, rfl, ha⟩
    refine Sat.step (p_set (d := chipsF.d) rfl) ?_
    have p1 := price_tags_spec 13 chipsF M ha.clean chipsF_ok
    have p2 := price_tags_spec 13 farF M ha.clean farF_ok
    have p3 := price_tags_spec 13 twoF M ha.clean twoF_ok
    cases q1 : waysP chipsF.E with
    | none => have := chips_w; rw [q1] at this; cases this
    | some W1 =>
      have w1 := chips_w
      rw [q1] at p1 w1
      simp only [Bool.and_eq_true, decide_eq_true_eq] at w1
      obtain ⟨c1, c2⟩ := w1
      cases q2 : waysP farF.E with
      | none => have := far_w; rw [q2] at this; cases this
      | some W2 =>
        cases q3 : waysP twoF.E with
        | some W3 => have := two_w; rw [q3] at this; cases this
        | none =>
          rw [q2] at p2
          rw [q3] at p3
          refine Sat.step (p_set (e_call (es_cons (e_var rfl) es_nil) p1)) ?_
          have r1 := law_right_spec 17 chipsF (pcup W1) (pchip W1) M chipsF_ok (right_of chipsF_ok (waysP_some (fun e he => (chipsF_ok.lt e he).1) q1))
          have r2 := law_right_spec 17 farF (pcup W2) (pchip W2) M farF_ok (right_of farF_ok (waysP_some (fun e he => (farF_ok.lt e he).1) q2))
          refine Sat.step (p_ifno (e_or (x := false) (y := false) (e_not (x := true) (e_call (es_cons (e_var rfl) (es_cons (e_var rfl) es_nil)) r1)) fun _ => e_cmp (x := .tup [.int (pcup W1 0), .int (pchip W1 0)]) (y := .tup [.int 1, .int 2]) (e_tup (es_cons (e_op2 (x := .tup ((List.range 3).map fun s => .int (pcup W1 s))) (e_op2 (x := pricesD W1) (e_var rfl) e_con rfl) e_con rfl) (es_cons (e_op2 (x := .tup ((List.range 3).map fun s => .int (pchip W1 s))) (e_op2 (x := pricesD W1) (e_var rfl) e_con rfl) e_con rfl) es_nil)) (by simp)) (e_tup (es_cons e_con (es_cons e_con es_nil)) (by simp)) (by rw [c1, c2]; rfl))) ?_
          refine Sat.step (p_set (d := farF.d) rfl) ?_
          refine Sat.step (p_set (d := twoF.d) rfl) ?_
          refine Sat.step (p_ret (d := .bl true) (e_and (x := true) (y := true) (e_call (es_cons (e_var rfl) (es_cons (e_call (es_cons (e_var rfl) es_nil) p2) es_nil)) r2) fun _ => e_cmp (e_call (es_cons (e_var rfl) es_nil) p3) e_con rfl)) ?_
          exact fin0 M
end CB
end
section
namespace CBL
open PySem PySem.Spec L2 CB
open PyProof.Rows hiding St
set_option maxHeartbeats 4000000
def topS (i : Nat) : Stmt := PySem.Challenge.pw_cupsback_k05_whole_prices_of_things.main.body.getD i (.Pass ⟨0, 0, 0, 0⟩)
def D_law_k05 : DefI := ⟨"law", N_law_k05, 1, B_law_k05, topS 35⟩
def D__law_fair : DefI := ⟨"_law_fair", N__law_fair, 2, B__law_fair, topS 32⟩
def D__law_right : DefI := ⟨"_law_right", N__law_right, 2, B__law_right, topS 34⟩
def D__law_source : DefI := ⟨"_law_source", N__law_source, 2, B__law_source, topS 27⟩
def D_is_sound : DefI := ⟨"is_sound", N_is_sound, 1, B_is_sound, topS 24⟩
def D_price_tags : DefI := ⟨"price_tags", N_price_tags, 1, B_price_tags, topS 25⟩
def D__law_choice : DefI := ⟨"_law_choice", N__law_choice, 2, B__law_choice, topS 29⟩
def D__law_draw : DefI := ⟨"_law_draw", N__law_draw, 2, B__law_draw, topS 28⟩
def D__law_stand : DefI := ⟨"_law_stand", N__law_stand, 1, B__law_stand, topS 31⟩
def D__law_from : DefI := ⟨"_law_from", N__law_from, 3, B__law_from, topS 30⟩
def D__law_price : DefI := ⟨"_law_price", N__law_price, 3, B__law_price, topS 33⟩
def D_edges_of : DefI := ⟨"edges_of", N_edges_of, 1, B_edges_of, topS 18⟩
def D_need_fair : DefI := ⟨"need_fair", N_need_fair, 1, B_need_fair, topS 12⟩
def D_ways_of : DefI := ⟨"ways_of", N_ways_of, 1, B_ways_of, topS 21⟩
def D_chip_node : DefI := ⟨"chip_node", N_chip_node, 1, B_chip_node, topS 17⟩
def D_cup_node : DefI := ⟨"cup_node", N_cup_node, 1, B_cup_node, topS 16⟩
def D_is_fair : DefI := ⟨"is_fair", N_is_fair, 1, B_is_fair, topS 11⟩
def D_longer : DefI := ⟨"longer", N_longer, 2, B_longer, topS 20⟩
def D_thrown : DefI := ⟨"thrown", N_thrown, 0, B_thrown, topS 19⟩
def D_is_shop : DefI := ⟨"is_shop", N_is_shop, 1, B_is_shop, topS 10⟩
def D_is_stand : DefI := ⟨"is_stand", N_is_stand, 1, B_is_stand, topS 9⟩
def D_is_tuple : DefI := ⟨"is_tuple", N_is_tuple, 3, B_is_tuple, topS 7⟩
def D_is_from : DefI := ⟨"is_from", N_is_from, 3, B_is_from, topS 6⟩
def D_is_sort : DefI := ⟨"is_sort", N_is_sort, 1, B_is_sort, topS 8⟩
def DT : Nat → Option DefI
  | 61 => some D_law_k05
  | 3 => some D__law_fair
  | 62 => some D__law_right
  | 7 => some D__law_source
  | 35 => some D_is_sound
  | 63 => some D_price_tags
  | 13 => some D__law_choice
  | 14 => some D__law_draw
  | 15 => some D__law_stand
  | 16 => some D__law_from
  | 64 => some D__law_price
  | 39 => some D_edges_of
  | 22 => some D_need_fair
  | 40 => some D_ways_of
  | 43 => some D_chip_node
  | 44 => some D_cup_node
  | 10 => some D_is_fair
  | 45 => some D_longer
  | 46 => some D_thrown
  | 23 => some D_is_shop
  | 24 => some D_is_stand
  | 25 => some D_is_tuple
  | 27 => some D_is_from
  | 28 => some D_is_sort
  | _ => none
def G : Gx := ⟨[("law", 61), ("_law_fair", 3), ("_law_right", 62), ("_law_source", 7), ("is_sound", 35), ("price_tags", 63), ("_law_choice", 13), ("_law_draw", 14), ("_law_stand", 15), ("_law_from", 16), ("_law_price", 64), ("edges_of", 39), ("need_fair", 22), ("ways_of", 40), ("chip_node", 43), ("cup_node", 44), ("is_fair", 10), ("longer", 45), ("thrown", 46), ("is_shop", 23), ("is_stand", 24), ("is_tuple", 25), ("is_from", 27), ("is_sort", 28)], [("SORTS", (.int 3)), ("WORDS", (.tup [(.str "chip"), (.str "cup")])), ("ROOT", (.int 0)), ("NODES", (.int 7)), ("FREE_PRICE", (.int 9))], [("InvalidFair", 0)], []⟩
theorem sc_law_k05 : FnScope D_law_k05.N D_law_k05.ps (defScope D_law_k05.st) := ⟨rfl, rfl, rfl, by decide +kernel, rfl, by decide +kernel, by decide +kernel⟩
theorem ck_law_k05 : chkSs G D_law_k05.N (defScope D_law_k05.st) D_law_k05.body (defBody D_law_k05.st) = true := by decide +kernel
theorem dc_law_k05 : DefC G D_law_k05 := ⟨sc_law_k05, ck_law_k05, by decide⟩
theorem at_law_k05 {K : PySem.W.Frag} {mg : Str → Option Value} {h : Heap} {f : Addr} {oc : Value} {od an : Option Addr} {sl : Array (Option Value)} {kV dc pm cd ct : Value} (X : K.In h) (G0 : h.Ns mainGlobals mg) (a : PySem.W.nsIn K mainGlobals "law" = some (some (.ref f)))
    (l : K.lookup f = some ⟨oc, od, .func (PySem.W.fnOf "law" "law" (defArgs (topS 35)) (defBody (topS 35)) (defScope (topS 35)) .none kV dc pm an cd ct), sl⟩) (c : PySem.W.codeIn K cd "law" = true) (k : PySem.W.keepIn K (.ref f) = true) : ∃ f fd, DefAt K mg D_law_k05 f fd :=
  at_of (d := D_law_k05) X G0 a l c k fun _ _ _ _ _ _ us hl => match us, hl with | [_], _ => rfl
theorem sc__law_fair : FnScope D__law_fair.N D__law_fair.ps (defScope D__law_fair.st) := ⟨rfl, rfl, rfl, by decide +kernel, rfl, by decide +kernel, by decide +kernel⟩
theorem ck__law_fair : chkSs G D__law_fair.N (defScope D__law_fair.st) D__law_fair.body (defBody D__law_fair.st) = true := by decide +kernel
theorem dc__law_fair : DefC G D__law_fair := ⟨sc__law_fair, ck__law_fair, by decide⟩
theorem at__law_fair {K : PySem.W.Frag} {mg : Str → Option Value} {h : Heap} {f : Addr} {oc : Value} {od an : Option Addr} {sl : Array (Option Value)} {kV dc pm cd ct : Value} (X : K.In h) (G0 : h.Ns mainGlobals mg) (a : PySem.W.nsIn K mainGlobals "_law_fair" = some (some (.ref f)))
    (l : K.lookup f = some ⟨oc, od, .func (PySem.W.fnOf "_law_fair" "_law_fair" (defArgs (topS 32)) (defBody (topS 32)) (defScope (topS 32)) .none kV dc pm an cd ct), sl⟩) (c : PySem.W.codeIn K cd "_law_fair" = true) (k : PySem.W.keepIn K (.ref f) = true) : ∃ f fd, DefAt K mg D__law_fair f fd :=
  at_of (d := D__law_fair) X G0 a l c k fun _ _ _ _ _ _ us hl => match us, hl with | [_, _], _ => rfl
theorem sc__law_right : FnScope D__law_right.N D__law_right.ps (defScope D__law_right.st) := ⟨rfl, rfl, rfl, by decide +kernel, rfl, by decide +kernel, by decide +kernel⟩
theorem ck__law_right : chkSs G D__law_right.N (defScope D__law_right.st) D__law_right.body (defBody D__law_right.st) = true := by decide +kernel
theorem dc__law_right : DefC G D__law_right := ⟨sc__law_right, ck__law_right, by decide⟩
theorem at__law_right {K : PySem.W.Frag} {mg : Str → Option Value} {h : Heap} {f : Addr} {oc : Value} {od an : Option Addr} {sl : Array (Option Value)} {kV dc pm cd ct : Value} (X : K.In h) (G0 : h.Ns mainGlobals mg) (a : PySem.W.nsIn K mainGlobals "_law_right" = some (some (.ref f)))
    (l : K.lookup f = some ⟨oc, od, .func (PySem.W.fnOf "_law_right" "_law_right" (defArgs (topS 34)) (defBody (topS 34)) (defScope (topS 34)) .none kV dc pm an cd ct), sl⟩) (c : PySem.W.codeIn K cd "_law_right" = true) (k : PySem.W.keepIn K (.ref f) = true) : ∃ f fd, DefAt K mg D__law_right f fd :=
  at_of (d := D__law_right) X G0 a l c k fun _ _ _ _ _ _ us hl => match us, hl with | [_, _], _ => rfl
theorem sc__law_source : FnScope D__law_source.N D__law_source.ps (defScope D__law_source.st) := ⟨rfl, rfl, rfl, by decide +kernel, rfl, by decide +kernel, by decide +kernel⟩
theorem ck__law_source : chkSs G D__law_source.N (defScope D__law_source.st) D__law_source.body (defBody D__law_source.st) = true := by decide +kernel
theorem dc__law_source : DefC G D__law_source := ⟨sc__law_source, ck__law_source, by decide⟩
theorem at__law_source {K : PySem.W.Frag} {mg : Str → Option Value} {h : Heap} {f : Addr} {oc : Value} {od an : Option Addr} {sl : Array (Option Value)} {kV dc pm cd ct : Value} (X : K.In h) (G0 : h.Ns mainGlobals mg) (a : PySem.W.nsIn K mainGlobals "_law_source" = some (some (.ref f)))
    (l : K.lookup f = some ⟨oc, od, .func (PySem.W.fnOf "_law_source" "_law_source" (defArgs (topS 27)) (defBody (topS 27)) (defScope (topS 27)) .none kV dc pm an cd ct), sl⟩) (c : PySem.W.codeIn K cd "_law_source" = true) (k : PySem.W.keepIn K (.ref f) = true) : ∃ f fd, DefAt K mg D__law_source f fd :=
  at_of (d := D__law_source) X G0 a l c k fun _ _ _ _ _ _ us hl => match us, hl with | [_, _], _ => rfl
theorem sc_is_sound : FnScope D_is_sound.N D_is_sound.ps (defScope D_is_sound.st) := ⟨rfl, rfl, rfl, by decide +kernel, rfl, by decide +kernel, by decide +kernel⟩
theorem ck_is_sound : chkSs G D_is_sound.N (defScope D_is_sound.st) D_is_sound.body (defBody D_is_sound.st) = true := by decide +kernel
theorem dc_is_sound : DefC G D_is_sound := ⟨sc_is_sound, ck_is_sound, by decide⟩
theorem at_is_sound {K : PySem.W.Frag} {mg : Str → Option Value} {h : Heap} {f : Addr} {oc : Value} {od an : Option Addr} {sl : Array (Option Value)} {kV dc pm cd ct : Value} (X : K.In h) (G0 : h.Ns mainGlobals mg) (a : PySem.W.nsIn K mainGlobals "is_sound" = some (some (.ref f)))
    (l : K.lookup f = some ⟨oc, od, .func (PySem.W.fnOf "is_sound" "is_sound" (defArgs (topS 24)) (defBody (topS 24)) (defScope (topS 24)) .none kV dc pm an cd ct), sl⟩) (c : PySem.W.codeIn K cd "is_sound" = true) (k : PySem.W.keepIn K (.ref f) = true) : ∃ f fd, DefAt K mg D_is_sound f fd :=
  at_of (d := D_is_sound) X G0 a l c k fun _ _ _ _ _ _ us hl => match us, hl with | [_], _ => rfl
theorem sc_price_tags : FnScope D_price_tags.N D_price_tags.ps (defScope D_price_tags.st) := ⟨rfl, rfl, rfl, by decide +kernel, rfl, by decide +kernel, by decide +kernel⟩
theorem ck_price_tags : chkSs G D_price_tags.N (defScope D_price_tags.st) D_price_tags.body (defBody D_price_tags.st) = true := by decide +kernel
theorem dc_price_tags : DefC G D_price_tags := ⟨sc_price_tags, ck_price_tags, by decide⟩
theorem at_price_tags {K : PySem.W.Frag} {mg : Str → Option Value} {h : Heap} {f : Addr} {oc : Value} {od an : Option Addr} {sl : Array (Option Value)} {kV dc pm cd ct : Value} (X : K.In h) (G0 : h.Ns mainGlobals mg) (a : PySem.W.nsIn K mainGlobals "price_tags" = some (some (.ref f)))
    (l : K.lookup f = some ⟨oc, od, .func (PySem.W.fnOf "price_tags" "price_tags" (defArgs (topS 25)) (defBody (topS 25)) (defScope (topS 25)) .none kV dc pm an cd ct), sl⟩) (c : PySem.W.codeIn K cd "price_tags" = true) (k : PySem.W.keepIn K (.ref f) = true) : ∃ f fd, DefAt K mg D_price_tags f fd :=
  at_of (d := D_price_tags) X G0 a l c k fun _ _ _ _ _ _ us hl => match us, hl with | [_], _ => rfl
theorem sc__law_choice : FnScope D__law_choice.N D__law_choice.ps (defScope D__law_choice.st) := ⟨rfl, rfl, rfl, by decide +kernel, rfl, by decide +kernel, by decide +kernel⟩
theorem ck__law_choice : chkSs G D__law_choice.N (defScope D__law_choice.st) D__law_choice.body (defBody D__law_choice.st) = true := by decide +kernel
theorem dc__law_choice : DefC G D__law_choice := ⟨sc__law_choice, ck__law_choice, by decide⟩
theorem at__law_choice {K : PySem.W.Frag} {mg : Str → Option Value} {h : Heap} {f : Addr} {oc : Value} {od an : Option Addr} {sl : Array (Option Value)} {kV dc pm cd ct : Value} (X : K.In h) (G0 : h.Ns mainGlobals mg) (a : PySem.W.nsIn K mainGlobals "_law_choice" = some (some (.ref f)))
    (l : K.lookup f = some ⟨oc, od, .func (PySem.W.fnOf "_law_choice" "_law_choice" (defArgs (topS 29)) (defBody (topS 29)) (defScope (topS 29)) .none kV dc pm an cd ct), sl⟩) (c : PySem.W.codeIn K cd "_law_choice" = true) (k : PySem.W.keepIn K (.ref f) = true) : ∃ f fd, DefAt K mg D__law_choice f fd :=
  at_of (d := D__law_choice) X G0 a l c k fun _ _ _ _ _ _ us hl => match us, hl with | [_, _], _ => rfl
theorem sc__law_draw : FnScope D__law_draw.N D__law_draw.ps (defScope D__law_draw.st) := ⟨rfl, rfl, rfl, by decide +kernel, rfl, by decide +kernel, by decide +kernel⟩
theorem ck__law_draw : chkSs G D__law_draw.N (defScope D__law_draw.st) D__law_draw.body (defBody D__law_draw.st) = true := by decide +kernel
theorem dc__law_draw : DefC G D__law_draw := ⟨sc__law_draw, ck__law_draw, by decide⟩
theorem at__law_draw {K : PySem.W.Frag} {mg : Str → Option Value} {h : Heap} {f : Addr} {oc : Value} {od an : Option Addr} {sl : Array (Option Value)} {kV dc pm cd ct : Value} (X : K.In h) (G0 : h.Ns mainGlobals mg) (a : PySem.W.nsIn K mainGlobals "_law_draw" = some (some (.ref f)))
    (l : K.lookup f = some ⟨oc, od, .func (PySem.W.fnOf "_law_draw" "_law_draw" (defArgs (topS 28)) (defBody (topS 28)) (defScope (topS 28)) .none kV dc pm an cd ct), sl⟩) (c : PySem.W.codeIn K cd "_law_draw" = true) (k : PySem.W.keepIn K (.ref f) = true) : ∃ f fd, DefAt K mg D__law_draw f fd :=
  at_of (d := D__law_draw) X G0 a l c k fun _ _ _ _ _ _ us hl => match us, hl with | [_, _], _ => rfl
theorem sc__law_stand : FnScope D__law_stand.N D__law_stand.ps (defScope D__law_stand.st) := ⟨rfl, rfl, rfl, by decide +kernel, rfl, by decide +kernel, by decide +kernel⟩
theorem ck__law_stand : chkSs G D__law_stand.N (defScope D__law_stand.st) D__law_stand.body (defBody D__law_stand.st) = true := by decide +kernel
theorem dc__law_stand : DefC G D__law_stand := ⟨sc__law_stand, ck__law_stand, by decide⟩
theorem at__law_stand {K : PySem.W.Frag} {mg : Str → Option Value} {h : Heap} {f : Addr} {oc : Value} {od an : Option Addr} {sl : Array (Option Value)} {kV dc pm cd ct : Value} (X : K.In h) (G0 : h.Ns mainGlobals mg) (a : PySem.W.nsIn K mainGlobals "_law_stand" = some (some (.ref f)))
    (l : K.lookup f = some ⟨oc, od, .func (PySem.W.fnOf "_law_stand" "_law_stand" (defArgs (topS 31)) (defBody (topS 31)) (defScope (topS 31)) .none kV dc pm an cd ct), sl⟩) (c : PySem.W.codeIn K cd "_law_stand" = true) (k : PySem.W.keepIn K (.ref f) = true) : ∃ f fd, DefAt K mg D__law_stand f fd :=
  at_of (d := D__law_stand) X G0 a l c k fun _ _ _ _ _ _ us hl => match us, hl with | [_], _ => rfl
theorem sc__law_from : FnScope D__law_from.N D__law_from.ps (defScope D__law_from.st) := ⟨rfl, rfl, rfl, by decide +kernel, rfl, by decide +kernel, by decide +kernel⟩
theorem ck__law_from : chkSs G D__law_from.N (defScope D__law_from.st) D__law_from.body (defBody D__law_from.st) = true := by decide +kernel
theorem dc__law_from : DefC G D__law_from := ⟨sc__law_from, ck__law_from, by decide⟩
theorem at__law_from {K : PySem.W.Frag} {mg : Str → Option Value} {h : Heap} {f : Addr} {oc : Value} {od an : Option Addr} {sl : Array (Option Value)} {kV dc pm cd ct : Value} (X : K.In h) (G0 : h.Ns mainGlobals mg) (a : PySem.W.nsIn K mainGlobals "_law_from" = some (some (.ref f)))
    (l : K.lookup f = some ⟨oc, od, .func (PySem.W.fnOf "_law_from" "_law_from" (defArgs (topS 30)) (defBody (topS 30)) (defScope (topS 30)) .none kV dc pm an cd ct), sl⟩) (c : PySem.W.codeIn K cd "_law_from" = true) (k : PySem.W.keepIn K (.ref f) = true) : ∃ f fd, DefAt K mg D__law_from f fd :=
  at_of (d := D__law_from) X G0 a l c k fun _ _ _ _ _ _ us hl => match us, hl with | [_, _, _], _ => rfl
theorem sc__law_price : FnScope D__law_price.N D__law_price.ps (defScope D__law_price.st) := ⟨rfl, rfl, rfl, by decide +kernel, rfl, by decide +kernel, by decide +kernel⟩
theorem ck__law_price : chkSs G D__law_price.N (defScope D__law_price.st) D__law_price.body (defBody D__law_price.st) = true := by decide +kernel
theorem dc__law_price : DefC G D__law_price := ⟨sc__law_price, ck__law_price, by decide⟩
theorem at__law_price {K : PySem.W.Frag} {mg : Str → Option Value} {h : Heap} {f : Addr} {oc : Value} {od an : Option Addr} {sl : Array (Option Value)} {kV dc pm cd ct : Value} (X : K.In h) (G0 : h.Ns mainGlobals mg) (a : PySem.W.nsIn K mainGlobals "_law_price" = some (some (.ref f)))
    (l : K.lookup f = some ⟨oc, od, .func (PySem.W.fnOf "_law_price" "_law_price" (defArgs (topS 33)) (defBody (topS 33)) (defScope (topS 33)) .none kV dc pm an cd ct), sl⟩) (c : PySem.W.codeIn K cd "_law_price" = true) (k : PySem.W.keepIn K (.ref f) = true) : ∃ f fd, DefAt K mg D__law_price f fd :=
  at_of (d := D__law_price) X G0 a l c k fun _ _ _ _ _ _ us hl => match us, hl with | [_, _, _], _ => rfl
theorem sc_edges_of : FnScope D_edges_of.N D_edges_of.ps (defScope D_edges_of.st) := ⟨rfl, rfl, rfl, by decide +kernel, rfl, by decide +kernel, by decide +kernel⟩
theorem ck_edges_of : chkSs G D_edges_of.N (defScope D_edges_of.st) D_edges_of.body (defBody D_edges_of.st) = true := by decide +kernel
theorem dc_edges_of : DefC G D_edges_of := ⟨sc_edges_of, ck_edges_of, by decide⟩
theorem at_edges_of {K : PySem.W.Frag} {mg : Str → Option Value} {h : Heap} {f : Addr} {oc : Value} {od an : Option Addr} {sl : Array (Option Value)} {kV dc pm cd ct : Value} (X : K.In h) (G0 : h.Ns mainGlobals mg) (a : PySem.W.nsIn K mainGlobals "edges_of" = some (some (.ref f)))
    (l : K.lookup f = some ⟨oc, od, .func (PySem.W.fnOf "edges_of" "edges_of" (defArgs (topS 18)) (defBody (topS 18)) (defScope (topS 18)) .none kV dc pm an cd ct), sl⟩) (c : PySem.W.codeIn K cd "edges_of" = true) (k : PySem.W.keepIn K (.ref f) = true) : ∃ f fd, DefAt K mg D_edges_of f fd :=
  at_of (d := D_edges_of) X G0 a l c k fun _ _ _ _ _ _ us hl => match us, hl with | [_], _ => rfl
theorem sc_need_fair : FnScope D_need_fair.N D_need_fair.ps (defScope D_need_fair.st) := ⟨rfl, rfl, rfl, by decide +kernel, rfl, by decide +kernel, by decide +kernel⟩
theorem ck_need_fair : chkSs G D_need_fair.N (defScope D_need_fair.st) D_need_fair.body (defBody D_need_fair.st) = true := by decide +kernel
theorem dc_need_fair : DefC G D_need_fair := ⟨sc_need_fair, ck_need_fair, by decide⟩
theorem at_need_fair {K : PySem.W.Frag} {mg : Str → Option Value} {h : Heap} {f : Addr} {oc : Value} {od an : Option Addr} {sl : Array (Option Value)} {kV dc pm cd ct : Value} (X : K.In h) (G0 : h.Ns mainGlobals mg) (a : PySem.W.nsIn K mainGlobals "need_fair" = some (some (.ref f)))
    (l : K.lookup f = some ⟨oc, od, .func (PySem.W.fnOf "need_fair" "need_fair" (defArgs (topS 12)) (defBody (topS 12)) (defScope (topS 12)) .none kV dc pm an cd ct), sl⟩) (c : PySem.W.codeIn K cd "need_fair" = true) (k : PySem.W.keepIn K (.ref f) = true) : ∃ f fd, DefAt K mg D_need_fair f fd :=
  at_of (d := D_need_fair) X G0 a l c k fun _ _ _ _ _ _ us hl => match us, hl with | [_], _ => rfl
theorem sc_ways_of : FnScope D_ways_of.N D_ways_of.ps (defScope D_ways_of.st) := ⟨rfl, rfl, rfl, by decide +kernel, rfl, by decide +kernel, by decide +kernel⟩
theorem ck_ways_of : chkSs G D_ways_of.N (defScope D_ways_of.st) D_ways_of.body (defBody D_ways_of.st) = true := by decide +kernel
theorem dc_ways_of : DefC G D_ways_of := ⟨sc_ways_of, ck_ways_of, by decide⟩
theorem at_ways_of {K : PySem.W.Frag} {mg : Str → Option Value} {h : Heap} {f : Addr} {oc : Value} {od an : Option Addr} {sl : Array (Option Value)} {kV dc pm cd ct : Value} (X : K.In h) (G0 : h.Ns mainGlobals mg) (a : PySem.W.nsIn K mainGlobals "ways_of" = some (some (.ref f)))
    (l : K.lookup f = some ⟨oc, od, .func (PySem.W.fnOf "ways_of" "ways_of" (defArgs (topS 21)) (defBody (topS 21)) (defScope (topS 21)) .none kV dc pm an cd ct), sl⟩) (c : PySem.W.codeIn K cd "ways_of" = true) (k : PySem.W.keepIn K (.ref f) = true) : ∃ f fd, DefAt K mg D_ways_of f fd :=
  at_of (d := D_ways_of) X G0 a l c k fun _ _ _ _ _ _ us hl => match us, hl with | [_], _ => rfl
theorem sc_chip_node : FnScope D_chip_node.N D_chip_node.ps (defScope D_chip_node.st) := ⟨rfl, rfl, rfl, by decide +kernel, rfl, by decide +kernel, by decide +kernel⟩
theorem ck_chip_node : chkSs G D_chip_node.N (defScope D_chip_node.st) D_chip_node.body (defBody D_chip_node.st) = true := by decide +kernel
theorem dc_chip_node : DefC G D_chip_node := ⟨sc_chip_node, ck_chip_node, by decide⟩
theorem at_chip_node {K : PySem.W.Frag} {mg : Str → Option Value} {h : Heap} {f : Addr} {oc : Value} {od an : Option Addr} {sl : Array (Option Value)} {kV dc pm cd ct : Value} (X : K.In h) (G0 : h.Ns mainGlobals mg) (a : PySem.W.nsIn K mainGlobals "chip_node" = some (some (.ref f)))
    (l : K.lookup f = some ⟨oc, od, .func (PySem.W.fnOf "chip_node" "chip_node" (defArgs (topS 17)) (defBody (topS 17)) (defScope (topS 17)) .none kV dc pm an cd ct), sl⟩) (c : PySem.W.codeIn K cd "chip_node" = true) (k : PySem.W.keepIn K (.ref f) = true) : ∃ f fd, DefAt K mg D_chip_node f fd :=
  at_of (d := D_chip_node) X G0 a l c k fun _ _ _ _ _ _ us hl => match us, hl with | [_], _ => rfl
theorem sc_cup_node : FnScope D_cup_node.N D_cup_node.ps (defScope D_cup_node.st) := ⟨rfl, rfl, rfl, by decide +kernel, rfl, by decide +kernel, by decide +kernel⟩
theorem ck_cup_node : chkSs G D_cup_node.N (defScope D_cup_node.st) D_cup_node.body (defBody D_cup_node.st) = true := by decide +kernel
theorem dc_cup_node : DefC G D_cup_node := ⟨sc_cup_node, ck_cup_node, by decide⟩
theorem at_cup_node {K : PySem.W.Frag} {mg : Str → Option Value} {h : Heap} {f : Addr} {oc : Value} {od an : Option Addr} {sl : Array (Option Value)} {kV dc pm cd ct : Value} (X : K.In h) (G0 : h.Ns mainGlobals mg) (a : PySem.W.nsIn K mainGlobals "cup_node" = some (some (.ref f)))
    (l : K.lookup f = some ⟨oc, od, .func (PySem.W.fnOf "cup_node" "cup_node" (defArgs (topS 16)) (defBody (topS 16)) (defScope (topS 16)) .none kV dc pm an cd ct), sl⟩) (c : PySem.W.codeIn K cd "cup_node" = true) (k : PySem.W.keepIn K (.ref f) = true) : ∃ f fd, DefAt K mg D_cup_node f fd :=
  at_of (d := D_cup_node) X G0 a l c k fun _ _ _ _ _ _ us hl => match us, hl with | [_], _ => rfl
theorem sc_is_fair : FnScope D_is_fair.N D_is_fair.ps (defScope D_is_fair.st) := ⟨rfl, rfl, rfl, by decide +kernel, rfl, by decide +kernel, by decide +kernel⟩
theorem ck_is_fair : chkSs G D_is_fair.N (defScope D_is_fair.st) D_is_fair.body (defBody D_is_fair.st) = true := by decide +kernel
theorem dc_is_fair : DefC G D_is_fair := ⟨sc_is_fair, ck_is_fair, by decide⟩
theorem at_is_fair {K : PySem.W.Frag} {mg : Str → Option Value} {h : Heap} {f : Addr} {oc : Value} {od an : Option Addr} {sl : Array (Option Value)} {kV dc pm cd ct : Value} (X : K.In h) (G0 : h.Ns mainGlobals mg) (a : PySem.W.nsIn K mainGlobals "is_fair" = some (some (.ref f)))
    (l : K.lookup f = some ⟨oc, od, .func (PySem.W.fnOf "is_fair" "is_fair" (defArgs (topS 11)) (defBody (topS 11)) (defScope (topS 11)) .none kV dc pm an cd ct), sl⟩) (c : PySem.W.codeIn K cd "is_fair" = true) (k : PySem.W.keepIn K (.ref f) = true) : ∃ f fd, DefAt K mg D_is_fair f fd :=
  at_of (d := D_is_fair) X G0 a l c k fun _ _ _ _ _ _ us hl => match us, hl with | [_], _ => rfl
theorem sc_longer : FnScope D_longer.N D_longer.ps (defScope D_longer.st) := ⟨rfl, rfl, rfl, by decide +kernel, rfl, by decide +kernel, by decide +kernel⟩
theorem ck_longer : chkSs G D_longer.N (defScope D_longer.st) D_longer.body (defBody D_longer.st) = true := by decide +kernel
theorem dc_longer : DefC G D_longer := ⟨sc_longer, ck_longer, by decide⟩
theorem at_longer {K : PySem.W.Frag} {mg : Str → Option Value} {h : Heap} {f : Addr} {oc : Value} {od an : Option Addr} {sl : Array (Option Value)} {kV dc pm cd ct : Value} (X : K.In h) (G0 : h.Ns mainGlobals mg) (a : PySem.W.nsIn K mainGlobals "longer" = some (some (.ref f)))
    (l : K.lookup f = some ⟨oc, od, .func (PySem.W.fnOf "longer" "longer" (defArgs (topS 20)) (defBody (topS 20)) (defScope (topS 20)) .none kV dc pm an cd ct), sl⟩) (c : PySem.W.codeIn K cd "longer" = true) (k : PySem.W.keepIn K (.ref f) = true) : ∃ f fd, DefAt K mg D_longer f fd :=
  at_of (d := D_longer) X G0 a l c k fun _ _ _ _ _ _ us hl => match us, hl with | [_, _], _ => rfl
theorem sc_thrown : FnScope D_thrown.N D_thrown.ps (defScope D_thrown.st) := ⟨rfl, rfl, rfl, by decide +kernel, rfl, by decide +kernel, by decide +kernel⟩
theorem ck_thrown : chkSs G D_thrown.N (defScope D_thrown.st) D_thrown.body (defBody D_thrown.st) = true := by decide +kernel
theorem dc_thrown : DefC G D_thrown := ⟨sc_thrown, ck_thrown, by decide⟩
theorem at_thrown {K : PySem.W.Frag} {mg : Str → Option Value} {h : Heap} {f : Addr} {oc : Value} {od an : Option Addr} {sl : Array (Option Value)} {kV dc pm cd ct : Value} (X : K.In h) (G0 : h.Ns mainGlobals mg) (a : PySem.W.nsIn K mainGlobals "thrown" = some (some (.ref f)))
    (l : K.lookup f = some ⟨oc, od, .func (PySem.W.fnOf "thrown" "thrown" (defArgs (topS 19)) (defBody (topS 19)) (defScope (topS 19)) .none kV dc pm an cd ct), sl⟩) (c : PySem.W.codeIn K cd "thrown" = true) (k : PySem.W.keepIn K (.ref f) = true) : ∃ f fd, DefAt K mg D_thrown f fd :=
  at_of (d := D_thrown) X G0 a l c k fun _ _ _ _ _ _ us hl => match us, hl with | [], _ => rfl
theorem sc_is_shop : FnScope D_is_shop.N D_is_shop.ps (defScope D_is_shop.st) := ⟨rfl, rfl, rfl, by decide +kernel, rfl, by decide +kernel, by decide +kernel⟩
theorem ck_is_shop : chkSs G D_is_shop.N (defScope D_is_shop.st) D_is_shop.body (defBody D_is_shop.st) = true := by decide +kernel
theorem dc_is_shop : DefC G D_is_shop := ⟨sc_is_shop, ck_is_shop, by decide⟩
theorem at_is_shop {K : PySem.W.Frag} {mg : Str → Option Value} {h : Heap} {f : Addr} {oc : Value} {od an : Option Addr} {sl : Array (Option Value)} {kV dc pm cd ct : Value} (X : K.In h) (G0 : h.Ns mainGlobals mg) (a : PySem.W.nsIn K mainGlobals "is_shop" = some (some (.ref f)))
    (l : K.lookup f = some ⟨oc, od, .func (PySem.W.fnOf "is_shop" "is_shop" (defArgs (topS 10)) (defBody (topS 10)) (defScope (topS 10)) .none kV dc pm an cd ct), sl⟩) (c : PySem.W.codeIn K cd "is_shop" = true) (k : PySem.W.keepIn K (.ref f) = true) : ∃ f fd, DefAt K mg D_is_shop f fd :=
  at_of (d := D_is_shop) X G0 a l c k fun _ _ _ _ _ _ us hl => match us, hl with | [_], _ => rfl
theorem sc_is_stand : FnScope D_is_stand.N D_is_stand.ps (defScope D_is_stand.st) := ⟨rfl, rfl, rfl, by decide +kernel, rfl, by decide +kernel, by decide +kernel⟩
theorem ck_is_stand : chkSs G D_is_stand.N (defScope D_is_stand.st) D_is_stand.body (defBody D_is_stand.st) = true := by decide +kernel
theorem dc_is_stand : DefC G D_is_stand := ⟨sc_is_stand, ck_is_stand, by decide⟩
theorem at_is_stand {K : PySem.W.Frag} {mg : Str → Option Value} {h : Heap} {f : Addr} {oc : Value} {od an : Option Addr} {sl : Array (Option Value)} {kV dc pm cd ct : Value} (X : K.In h) (G0 : h.Ns mainGlobals mg) (a : PySem.W.nsIn K mainGlobals "is_stand" = some (some (.ref f)))
    (l : K.lookup f = some ⟨oc, od, .func (PySem.W.fnOf "is_stand" "is_stand" (defArgs (topS 9)) (defBody (topS 9)) (defScope (topS 9)) .none kV dc pm an cd ct), sl⟩) (c : PySem.W.codeIn K cd "is_stand" = true) (k : PySem.W.keepIn K (.ref f) = true) : ∃ f fd, DefAt K mg D_is_stand f fd :=
  at_of (d := D_is_stand) X G0 a l c k fun _ _ _ _ _ _ us hl => match us, hl with | [_], _ => rfl
theorem sc_is_tuple : FnScope D_is_tuple.N D_is_tuple.ps (defScope D_is_tuple.st) := ⟨rfl, rfl, rfl, by decide +kernel, rfl, by decide +kernel, by decide +kernel⟩
theorem ck_is_tuple : chkSs G D_is_tuple.N (defScope D_is_tuple.st) D_is_tuple.body (defBody D_is_tuple.st) = true := by decide +kernel
theorem dc_is_tuple : DefC G D_is_tuple := ⟨sc_is_tuple, ck_is_tuple, by decide⟩
theorem at_is_tuple {K : PySem.W.Frag} {mg : Str → Option Value} {h : Heap} {f : Addr} {oc : Value} {od an : Option Addr} {sl : Array (Option Value)} {kV dc pm cd ct : Value} (X : K.In h) (G0 : h.Ns mainGlobals mg) (a : PySem.W.nsIn K mainGlobals "is_tuple" = some (some (.ref f)))
    (l : K.lookup f = some ⟨oc, od, .func (PySem.W.fnOf "is_tuple" "is_tuple" (defArgs (topS 7)) (defBody (topS 7)) (defScope (topS 7)) .none kV dc pm an cd ct), sl⟩) (c : PySem.W.codeIn K cd "is_tuple" = true) (k : PySem.W.keepIn K (.ref f) = true) : ∃ f fd, DefAt K mg D_is_tuple f fd :=
  at_of (d := D_is_tuple) X G0 a l c k fun _ _ _ _ _ _ us hl => match us, hl with | [_, _, _], _ => rfl
theorem sc_is_from : FnScope D_is_from.N D_is_from.ps (defScope D_is_from.st) := ⟨rfl, rfl, rfl, by decide +kernel, rfl, by decide +kernel, by decide +kernel⟩
theorem ck_is_from : chkSs G D_is_from.N (defScope D_is_from.st) D_is_from.body (defBody D_is_from.st) = true := by decide +kernel
theorem dc_is_from : DefC G D_is_from := ⟨sc_is_from, ck_is_from, by decide⟩
theorem at_is_from {K : PySem.W.Frag} {mg : Str → Option Value} {h : Heap} {f : Addr} {oc : Value} {od an : Option Addr} {sl : Array (Option Value)} {kV dc pm cd ct : Value} (X : K.In h) (G0 : h.Ns mainGlobals mg) (a : PySem.W.nsIn K mainGlobals "is_from" = some (some (.ref f)))
    (l : K.lookup f = some ⟨oc, od, .func (PySem.W.fnOf "is_from" "is_from" (defArgs (topS 6)) (defBody (topS 6)) (defScope (topS 6)) .none kV dc pm an cd ct), sl⟩) (c : PySem.W.codeIn K cd "is_from" = true) (k : PySem.W.keepIn K (.ref f) = true) : ∃ f fd, DefAt K mg D_is_from f fd :=
  at_of (d := D_is_from) X G0 a l c k fun _ _ _ _ _ _ us hl => match us, hl with | [_, _, _], _ => rfl
theorem sc_is_sort : FnScope D_is_sort.N D_is_sort.ps (defScope D_is_sort.st) := ⟨rfl, rfl, rfl, by decide +kernel, rfl, by decide +kernel, by decide +kernel⟩
theorem ck_is_sort : chkSs G D_is_sort.N (defScope D_is_sort.st) D_is_sort.body (defBody D_is_sort.st) = true := by decide +kernel
theorem dc_is_sort : DefC G D_is_sort := ⟨sc_is_sort, ck_is_sort, by decide⟩
theorem at_is_sort {K : PySem.W.Frag} {mg : Str → Option Value} {h : Heap} {f : Addr} {oc : Value} {od an : Option Addr} {sl : Array (Option Value)} {kV dc pm cd ct : Value} (X : K.In h) (G0 : h.Ns mainGlobals mg) (a : PySem.W.nsIn K mainGlobals "is_sort" = some (some (.ref f)))
    (l : K.lookup f = some ⟨oc, od, .func (PySem.W.fnOf "is_sort" "is_sort" (defArgs (topS 8)) (defBody (topS 8)) (defScope (topS 8)) .none kV dc pm an cd ct), sl⟩) (c : PySem.W.codeIn K cd "is_sort" = true) (k : PySem.W.keepIn K (.ref f) = true) : ∃ f fd, DefAt K mg D_is_sort f fd :=
  at_of (d := D_is_sort) X G0 a l c k fun _ _ _ _ _ _ us hl => match us, hl with | [_], _ => rfl
theorem tb_c : ∀ (j : Nat) (d : DefI), DT j = some d → DefC G d := by
  intro j d h
  unfold DT at h
  split at h
  · cases h; exact dc_law_k05
  · cases h; exact dc__law_fair
  · cases h; exact dc__law_right
  · cases h; exact dc__law_source
  · cases h; exact dc_is_sound
  · cases h; exact dc_price_tags
  · cases h; exact dc__law_choice
  · cases h; exact dc__law_draw
  · cases h; exact dc__law_stand
  · cases h; exact dc__law_from
  · cases h; exact dc__law_price
  · cases h; exact dc_edges_of
  · cases h; exact dc_need_fair
  · cases h; exact dc_ways_of
  · cases h; exact dc_chip_node
  · cases h; exact dc_cup_node
  · cases h; exact dc_is_fair
  · cases h; exact dc_longer
  · cases h; exact dc_thrown
  · cases h; exact dc_is_shop
  · cases h; exact dc_is_stand
  · cases h; exact dc_is_tuple
  · cases h; exact dc_is_from
  · cases h; exact dc_is_sort
  · cases h
theorem tb_t : ∀ (j : Nat) (d : DefI), DT j = some d → FDS[j]? = some d.fd := by
  intro j d h
  unfold DT at h
  split at h
  · cases h; exact fds_law_k05
  · cases h; exact fds__law_fair
  · cases h; exact fds__law_right
  · cases h; exact fds__law_source
  · cases h; exact fds_is_sound
  · cases h; exact fds_price_tags
  · cases h; exact fds__law_choice
  · cases h; exact fds__law_draw
  · cases h; exact fds__law_stand
  · cases h; exact fds__law_from
  · cases h; exact fds__law_price
  · cases h; exact fds_edges_of
  · cases h; exact fds_need_fair
  · cases h; exact fds_ways_of
  · cases h; exact fds_chip_node
  · cases h; exact fds_cup_node
  · cases h; exact fds_is_fair
  · cases h; exact fds_longer
  · cases h; exact fds_thrown
  · cases h; exact fds_is_shop
  · cases h; exact fds_is_stand
  · cases h; exact fds_is_tuple
  · cases h; exact fds_is_from
  · cases h; exact fds_is_sort
  · cases h
theorem tb_g : ∀ (x : Str) (j : Nat), G.fns.lookup x = some j → ∃ d : DefI, DT j = some d ∧ d.name = x := by
  intro x j h
  have key : ∀ p ∈ G.fns, ((DT p.2).map (·.name)) = some p.1 := by decide +kernel
  have hm := key (x, j) (PySem.mem_of_lookup h)
  cases q : DT j with
  | none => rw [q] at hm; cases hm
  | some d => rw [q] at hm; exact ⟨d, rfl, Option.some.inj hm⟩
section
variable {l : PySem.W.OpenLaw} {w : World} {K : PySem.W.Frag} {h : Heap} {mg : Str → Option Value}
theorem all_mk {fa : Addr} {cs : List Str} {kk : Nat} (hfa : mg "law" = some (.ref fa)) (hA : ∀ (j : Nat) (d : DefI), DT j = some d → ∃ f fd, DefAt K mg d f fd)
    (hcst : ∀ x d, G.cst.lookup x = some d → ∃ v u, mg x = some u ∧ RelV v u ∧ ∀ w H, Rep K (SxOf K cs) w H v d) (hblt : ∀ x, x ∈ bltNames → mg x = none)
    (hexc : ∀ x c, G.exs.lookup x = some c → ∀ Y : Cx, Y.K = K → Y.mg = mg → ExOk Y (SxOf K cs) x c) (hhd : ∀ x c, G.hds.lookup x = some c → ∀ Y : Cx, Y.K = K → Y.mg = mg → HdOk Y (SxOf K cs) x c) :
    ∃ fd : FuncData, (∀ (s : Shared) (v : Value), BindsTo s fd ⟨[v], []⟩ [("script", v)]) ∧ ∀ base : Heap, K.In base → base.Ns mainGlobals mg → FnOk l.prog w K mg base (L2.CX l.prog w) kk fa fd ["script"] (spF K (SxOf K cs) (callF FDS kk 61)) := by
  obtain ⟨f, fd, A0⟩ := hA 61 D_law_k05 rfl
  have e := hfa.symm.trans A0.mg
  cases e
  have hF := fun base : Heap => levels (P := l.prog) (wd := w) (base := base) FDS DT tb_t tb_c hA tb_g hcst hblt hexc hhd kk 61 D_law_k05 rfl _ _ A0
  obtain ⟨oc, od, kV, doc, pm, an, cdv, ct, osl, rfl, lk, hcd⟩ := A0.fn.ex
  exact ⟨_, fun s v => .of_eq rfl, fun base _ _ => hF base⟩
end
section
variable {K : PySem.W.Frag} {mg : Str → Option Value} {S : Sx}
theorem tb_a (f0 : ∃ f fd, DefAt K mg D_law_k05 f fd) (f1 : ∃ f fd, DefAt K mg D__law_fair f fd) (f2 : ∃ f fd, DefAt K mg D__law_right f fd) (f3 : ∃ f fd, DefAt K mg D__law_source f fd) (f4 : ∃ f fd, DefAt K mg D_is_sound f fd) (f5 : ∃ f fd, DefAt K mg D_price_tags f fd) (f6 : ∃ f fd, DefAt K mg D__law_choice f fd) (f7 : ∃ f fd, DefAt K mg D__law_draw f fd) (f8 : ∃ f fd, DefAt K mg D__law_stand f fd) (f9 : ∃ f fd, DefAt K mg D__law_from f fd) (f10 : ∃ f fd, DefAt K mg D__law_price f fd) (f11 : ∃ f fd, DefAt K mg D_edges_of f fd) (f12 : ∃ f fd, DefAt K mg D_need_fair f fd) (f13 : ∃ f fd, DefAt K mg D_ways_of f fd) (f14 : ∃ f fd, DefAt K mg D_chip_node f fd) (f15 : ∃ f fd, DefAt K mg D_cup_node f fd) (f16 : ∃ f fd, DefAt K mg D_is_fair f fd) (f17 : ∃ f fd, DefAt K mg D_longer f fd) (f18 : ∃ f fd, DefAt K mg D_thrown f fd) (f19 : ∃ f fd, DefAt K mg D_is_shop f fd) (f20 : ∃ f fd, DefAt K mg D_is_stand f fd) (f21 : ∃ f fd, DefAt K mg D_is_tuple f fd) (f22 : ∃ f fd, DefAt K mg D_is_from f fd) (f23 : ∃ f fd, DefAt K mg D_is_sort f fd) : ∀ (j : Nat) (d : DefI), DT j = some d → ∃ f fd, DefAt K mg d f fd := by
  intro j d h
  unfold DT at h
  split at h
  · cases h; exact f0
  · cases h; exact f1
  · cases h; exact f2
  · cases h; exact f3
  · cases h; exact f4
  · cases h; exact f5
  · cases h; exact f6
  · cases h; exact f7
  · cases h; exact f8
  · cases h; exact f9
  · cases h; exact f10
  · cases h; exact f11
  · cases h; exact f12
  · cases h; exact f13
  · cases h; exact f14
  · cases h; exact f15
  · cases h; exact f16
  · cases h; exact f17
  · cases h; exact f18
  · cases h; exact f19
  · cases h; exact f20
  · cases h; exact f21
  · cases h; exact f22
  · cases h; exact f23
  · cases h
theorem tb_b (h0 : mg "len" = none) (h1 : mg "all" = none) (h2 : mg "any" = none) (h3 : mg "sum" = none) (h4 : mg "min" = none) (h5 : mg "max" = none) (h6 : mg "tuple" = none) (h7 : mg "list" = none) (h8 : mg "sorted" = none) (h9 : mg "abs" = none) (h10 : mg "int" = none) (h11 : mg "str" = none) (h12 : mg "isinstance" = none) (h13 : mg "bool" = none) (h14 : mg "range" = none) (h15 : mg "enumerate" = none) (h16 : mg "zip" = none) (h17 : mg "dict" = none) (h18 : mg "set" = none) : ∀ x, x ∈ bltNames → mg x = none := by
  intro x h
  unfold bltNames at h
  simp only [List.mem_cons, List.not_mem_nil, or_false] at h
  rcases h with h | h | h | h | h | h | h | h | h | h | h | h | h | h | h | h | h | h | h
  · subst h; exact h0
  · subst h; exact h1
  · subst h; exact h2
  · subst h; exact h3
  · subst h; exact h4
  · subst h; exact h5
  · subst h; exact h6
  · subst h; exact h7
  · subst h; exact h8
  · subst h; exact h9
  · subst h; exact h10
  · subst h; exact h11
  · subst h; exact h12
  · subst h; exact h13
  · subst h; exact h14
  · subst h; exact h15
  · subst h; exact h16
  · subst h; exact h17
  · subst h; exact h18
theorem tb_k (h0 : ∃ v u, mg "SORTS" = some u ∧ RelV v u ∧ ∀ w H, Rep K S w H v (.int 3)) (h1 : ∃ v u, mg "WORDS" = some u ∧ RelV v u ∧ ∀ w H, Rep K S w H v (.tup [(.str "chip"), (.str "cup")])) (h2 : ∃ v u, mg "ROOT" = some u ∧ RelV v u ∧ ∀ w H, Rep K S w H v (.int 0)) (h3 : ∃ v u, mg "NODES" = some u ∧ RelV v u ∧ ∀ w H, Rep K S w H v (.int 7)) (h4 : ∃ v u, mg "FREE_PRICE" = some u ∧ RelV v u ∧ ∀ w H, Rep K S w H v (.int 9)) : ∀ x d, G.cst.lookup x = some d → ∃ v u, mg x = some u ∧ RelV v u ∧ ∀ w H, Rep K S w H v d := by
  intro x d h
  have hm := PySem.mem_of_lookup h
  have hm : (x, d) ∈ [(("SORTS" : Str), ((.int 3) : D)), (("WORDS" : Str), ((.tup [(.str "chip"), (.str "cup")]) : D)), (("ROOT" : Str), ((.int 0) : D)), (("NODES" : Str), ((.int 7) : D)), (("FREE_PRICE" : Str), ((.int 9) : D))] := hm
  simp only [List.mem_cons, List.not_mem_nil, or_false, Prod.mk.injEq] at hm
  rcases hm with ⟨rfl, rfl⟩ | ⟨rfl, rfl⟩ | ⟨rfl, rfl⟩ | ⟨rfl, rfl⟩ | ⟨rfl, rfl⟩
  · exact h0
  · exact h1
  · exact h2
  · exact h3
  · exact h4
end
abbrev KK : Nat := 20
abbrev exNames : List Str := ["InvalidFair", "InvalidThings", "InvalidRow", "InvalidDeed", "InvalidNumber", "InvalidText", "Unsound"]
section
variable {K : PySem.W.Frag} {mg : Str → Option Value}
theorem tb_x (h0 : ∀ (cs : List Str) (c : Nat), cs[c]? = some ("InvalidFair" : Str) → ∀ Y : Cx, Y.K = K → Y.mg = mg → ExOk Y (SxOf K cs) "InvalidFair" c) : ∀ x c, G.exs.lookup x = some c → ∀ Y : Cx, Y.K = K → Y.mg = mg → ExOk Y (SxOf K exNames) x c := by
  intro x d h
  have hm := PySem.mem_of_lookup h
  have hm : (x, d) ∈ [(("InvalidFair" : Str), 0)] := hm
  simp only [List.mem_cons, List.not_mem_nil, or_false, Prod.mk.injEq] at hm
  rcases hm with ⟨rfl, rfl⟩
  · exact h0 exNames 0 rfl
theorem tb_h : ∀ x c, G.hds.lookup x = some c → ∀ Y : Cx, Y.K = K → Y.mg = mg → HdOk Y (SxOf K exNames) x c := by
  intro x d h
  cases h
end
abbrev spLaw (K : PySem.W.Frag) : Sp := spF K (SxOf K exNames) (callF FDS KK 61)
end CBL
end
namespace CBL
theorem law_true : ∀ ns : List Int, ns.length ≤ 63 → ∃ M, CB.callF CB.FDS KK CB.j_law_k05 [.scr ns] [] = .ok (.bl true) M := fun ns hn => ⟨_, CB.k05_true ns hn⟩
end CBL
open PySem PySem.W PyProof.Rows
set_option maxHeartbeats 0 in
theorem PySem.Challenge.cw_cupsback_k05_whole_prices_of_things_holds : PySem.Challenge.rw_cupsback_k05_whole_prices_of_things.Holds := by
  w_on; o_law; k_head; (case hw => w_witness2)
  k_fill
  refine L2.walk_of (l := PySem.Challenge.rw_cupsback_k05_whole_prices_of_things) (n := 63) (k := CBL.KK) (x := "script") (CX := fun w => L2.CX PySem.Challenge.rw_cupsback_k05_whole_prices_of_things.prog w) (sp := fun w => CBL.spLaw _) rfl (by decide) rfl ⟨rfl, by decide, by decide⟩ (fun w h Y => PySem.W.kIn_of Y) ?F (fun _ _ a ns hl _ hS => (CBL.law_true ns hl).elim fun M hM => CB.law_sp hS hM) (fun w H s e s' c => by obtain ⟨_, _, _, _, _, _, _, _, _, _, _, _, z⟩ := c; exact z.elim)
  case F =>
    intro w mg fa h KX G hmg
    refine' CB.byFirst (CBL.at_law_k05 (mg := mg) KX G ?zza ?zzl ?zzc ?zzk) ?_
    (case zza => k_is); (case zzl => k_is); (case zzc => k_is); (case zzk => k_is); intro f_law_k05
    refine' CB.byFirst (CBL.at__law_fair (mg := mg) KX G ?zza ?zzl ?zzc ?zzk) ?_
    (case zza => k_is); (case zzl => k_is); (case zzc => k_is); (case zzk => k_is); intro f__law_fair
    refine' CB.byFirst (CBL.at__law_right (mg := mg) KX G ?zza ?zzl ?zzc ?zzk) ?_
    (case zza => k_is); (case zzl => k_is); (case zzc => k_is); (case zzk => k_is); intro f__law_right
    refine' CB.byFirst (CBL.at__law_source (mg := mg) KX G ?zza ?zzl ?zzc ?zzk) ?_
    (case zza => k_is); (case zzl => k_is); (case zzc => k_is); (case zzk => k_is); intro f__law_source
    refine' CB.byFirst (CBL.at_is_sound (mg := mg) KX G ?zza ?zzl ?zzc ?zzk) ?_
    (case zza => k_is); (case zzl => k_is); (case zzc => k_is); (case zzk => k_is); intro f_is_sound
    refine' CB.byFirst (CBL.at_price_tags (mg := mg) KX G ?zza ?zzl ?zzc ?zzk) ?_
    (case zza => k_is); (case zzl => k_is); (case zzc => k_is); (case zzk => k_is); intro f_price_tags
    refine' CB.byFirst (CBL.at__law_choice (mg := mg) KX G ?zza ?zzl ?zzc ?zzk) ?_
    (case zza => k_is); (case zzl => k_is); (case zzc => k_is); (case zzk => k_is); intro f__law_choice
    refine' CB.byFirst (CBL.at__law_draw (mg := mg) KX G ?zza ?zzl ?zzc ?zzk) ?_
    (case zza => k_is); (case zzl => k_is); (case zzc => k_is); (case zzk => k_is); intro f__law_draw
    refine' CB.byFirst (CBL.at__law_stand (mg := mg) KX G ?zza ?zzl ?zzc ?zzk) ?_
    (case zza => k_is); (case zzl => k_is); (case zzc => k_is); (case zzk => k_is); intro f__law_stand
    refine' CB.byFirst (CBL.at__law_from (mg := mg) KX G ?zza ?zzl ?zzc ?zzk) ?_
    (case zza => k_is); (case zzl => k_is); (case zzc => k_is); (case zzk => k_is); intro f__law_from
    refine' CB.byFirst (CBL.at__law_price (mg := mg) KX G ?zza ?zzl ?zzc ?zzk) ?_
    (case zza => k_is); (case zzl => k_is); (case zzc => k_is); (case zzk => k_is); intro f__law_price
    refine' CB.byFirst (CBL.at_edges_of (mg := mg) KX G ?zza ?zzl ?zzc ?zzk) ?_
    (case zza => k_is); (case zzl => k_is); (case zzc => k_is); (case zzk => k_is); intro f_edges_of
    refine' CB.byFirst (CBL.at_need_fair (mg := mg) KX G ?zza ?zzl ?zzc ?zzk) ?_
    (case zza => k_is); (case zzl => k_is); (case zzc => k_is); (case zzk => k_is); intro f_need_fair
    refine' CB.byFirst (CBL.at_ways_of (mg := mg) KX G ?zza ?zzl ?zzc ?zzk) ?_
    (case zza => k_is); (case zzl => k_is); (case zzc => k_is); (case zzk => k_is); intro f_ways_of
    refine' CB.byFirst (CBL.at_chip_node (mg := mg) KX G ?zza ?zzl ?zzc ?zzk) ?_
    (case zza => k_is); (case zzl => k_is); (case zzc => k_is); (case zzk => k_is); intro f_chip_node
    refine' CB.byFirst (CBL.at_cup_node (mg := mg) KX G ?zza ?zzl ?zzc ?zzk) ?_
    (case zza => k_is); (case zzl => k_is); (case zzc => k_is); (case zzk => k_is); intro f_cup_node
    refine' CB.byFirst (CBL.at_is_fair (mg := mg) KX G ?zza ?zzl ?zzc ?zzk) ?_
    (case zza => k_is); (case zzl => k_is); (case zzc => k_is); (case zzk => k_is); intro f_is_fair
    refine' CB.byFirst (CBL.at_longer (mg := mg) KX G ?zza ?zzl ?zzc ?zzk) ?_
    (case zza => k_is); (case zzl => k_is); (case zzc => k_is); (case zzk => k_is); intro f_longer
    refine' CB.byFirst (CBL.at_thrown (mg := mg) KX G ?zza ?zzl ?zzc ?zzk) ?_
    (case zza => k_is); (case zzl => k_is); (case zzc => k_is); (case zzk => k_is); intro f_thrown
    refine' CB.byFirst (CBL.at_is_shop (mg := mg) KX G ?zza ?zzl ?zzc ?zzk) ?_
    (case zza => k_is); (case zzl => k_is); (case zzc => k_is); (case zzk => k_is); intro f_is_shop
    refine' CB.byFirst (CBL.at_is_stand (mg := mg) KX G ?zza ?zzl ?zzc ?zzk) ?_
    (case zza => k_is); (case zzl => k_is); (case zzc => k_is); (case zzk => k_is); intro f_is_stand
    refine' CB.byFirst (CBL.at_is_tuple (mg := mg) KX G ?zza ?zzl ?zzc ?zzk) ?_
    (case zza => k_is); (case zzl => k_is); (case zzc => k_is); (case zzk => k_is); intro f_is_tuple
    refine' CB.byFirst (CBL.at_is_from (mg := mg) KX G ?zza ?zzl ?zzc ?zzk) ?_
    (case zza => k_is); (case zzl => k_is); (case zzc => k_is); (case zzk => k_is); intro f_is_from
    refine' CB.byFirst (CBL.at_is_sort (mg := mg) KX G ?zza ?zzl ?zzc ?zzk) ?_
    (case zza => k_is); (case zzl => k_is); (case zzc => k_is); (case zzk => k_is); intro f_is_sort
    have b_len : mg "len" = none := by
      refine' PySem.W.mg_none_of KX G ?zza
      (case zza => k_is)
    have b_all : mg "all" = none := by
      refine' PySem.W.mg_none_of KX G ?zza
      (case zza => k_is)
    have b_any : mg "any" = none := by
      refine' PySem.W.mg_none_of KX G ?zza
      (case zza => k_is)
    have b_sum : mg "sum" = none := by
      refine' PySem.W.mg_none_of KX G ?zza
      (case zza => k_is)
    have b_min : mg "min" = none := by
      refine' PySem.W.mg_none_of KX G ?zza
      (case zza => k_is)
    have b_max : mg "max" = none := by
      refine' PySem.W.mg_none_of KX G ?zza
      (case zza => k_is)
    have b_tuple : mg "tuple" = none := by
      refine' PySem.W.mg_none_of KX G ?zza
      (case zza => k_is)
    have b_list : mg "list" = none := by
      refine' PySem.W.mg_none_of KX G ?zza
      (case zza => k_is)
    have b_sorted : mg "sorted" = none := by
      refine' PySem.W.mg_none_of KX G ?zza
      (case zza => k_is)
    have b_abs : mg "abs" = none := by
      refine' PySem.W.mg_none_of KX G ?zza
      (case zza => k_is)
    have b_int : mg "int" = none := by
      refine' PySem.W.mg_none_of KX G ?zza
      (case zza => k_is)
    have b_str : mg "str" = none := by
      refine' PySem.W.mg_none_of KX G ?zza
      (case zza => k_is)
    have b_isinstance : mg "isinstance" = none := by
      refine' PySem.W.mg_none_of KX G ?zza
      (case zza => k_is)
    have b_bool : mg "bool" = none := by
      refine' PySem.W.mg_none_of KX G ?zza
      (case zza => k_is)
    have b_range : mg "range" = none := by
      refine' PySem.W.mg_none_of KX G ?zza
      (case zza => k_is)
    have b_enumerate : mg "enumerate" = none := by
      refine' PySem.W.mg_none_of KX G ?zza
      (case zza => k_is)
    have b_zip : mg "zip" = none := by
      refine' PySem.W.mg_none_of KX G ?zza
      (case zza => k_is)
    have b_dict : mg "dict" = none := by
      refine' PySem.W.mg_none_of KX G ?zza
      (case zza => k_is)
    have b_set : mg "set" = none := by
      refine' PySem.W.mg_none_of KX G ?zza
      (case zza => k_is)
    refine' CB.byFirst (CB.cst_int (mg := mg) (x := "SORTS") KX G ?zza) ?_
    (case zza => k_is); intro c_SORTS
    refine' CB.byFirst (CB.cst_str2 (mg := mg) (x := "WORDS") KX G ?zza ?zzl) ?_
    (case zza => k_is); (case zzl => k_is); intro c_WORDS
    refine' CB.byFirst (CB.cst_int (mg := mg) (x := "ROOT") KX G ?zza) ?_
    (case zza => k_is); intro c_ROOT
    refine' CB.byFirst (CB.cst_int (mg := mg) (x := "NODES") KX G ?zza) ?_
    (case zza => k_is); intro c_NODES
    refine' CB.byFirst (CB.cst_int (mg := mg) (x := "FREE_PRICE") KX G ?zza) ?_
    (case zza => k_is); intro c_FREE_PRICE
    refine' CB.byFirst (CB.exc_of (mg := mg) (x := "InvalidFair") KX G PySem.F.excBase_ValueError ?zza ?zzq ?zzk ?zzh1 ?zzh2) ?_
    (case zza => k_is); (case zzq => k_exc); (case zzk => k_is); (case zzh1 => k_is); (case zzh2 => k_is); intro x_InvalidFair
    exact CBL.all_mk hmg (CBL.tb_a f_law_k05 f__law_fair f__law_right f__law_source f_is_sound f_price_tags f__law_choice f__law_draw f__law_stand f__law_from f__law_price f_edges_of f_need_fair f_ways_of f_chip_node f_cup_node f_is_fair f_longer f_thrown f_is_shop f_is_stand f_is_tuple f_is_from f_is_sort) (CBL.tb_k (c_SORTS _) (c_WORDS _) (c_ROOT _) (c_NODES _) (c_FREE_PRICE _)) (CBL.tb_b b_len b_all b_any b_sum b_min b_max b_tuple b_list b_sorted b_abs b_int b_str b_isinstance b_bool b_range b_enumerate b_zip b_dict b_set) (CBL.tb_x x_InvalidFair) CBL.tb_h
