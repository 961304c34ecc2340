import PyProof.Rows.All
import Wide.All
import OpenK.AllK
import Wide.FinOn
import HandS.ForMost
import HandS.Style
import HandS.IsInst
import HandS.TupAny
import HandS.Deep
import HandS.SortInts
import HandS.Zip
import HandS.Walk
import KE.GoesMore
import HandS.Codes
import HandS.EndBits
import HandS.Head0
import HandS.Head1
import HandS.Head2
import HandS.HeadEnd
import HandS.HeadHook1
import HandS.HeadHook2
import HandS.HeadHook4
import PyProof.ReprLen
import PyProof.P3Eq
import KE.KStateDown
import Lean
import PySem.Challenge.RW_anymeasure_k25_whole_properties_of_measu
set_option Elab.async false
set_option linter.all false
/-! Part A: a small language, its data, its evaluator. -/
namespace Dv
open PySem

abbrev D := PyData

/-- owned trees: a piece of frozen data, a list whose items are frozen, a list of trees -/
inductive O where
  | d (x : D)
  | ls (xs : List D)
  | nl (os : List O)

abbrev Env := List (Option O)

/-- what a run gives: a value and the slots behind it; an own exception (class, fields); nothing known -/
inductive R (α : Type) where
  | ok (a : α) (ρ : Env)
  | ex (c : Nat) (fs : List D) (ρ : Env)
  | bad

def R.bind {α β : Type} : R α → (α → Env → R β) → R β
  | .ok a ρ, f => f a ρ
  | .ex c fs ρ, _ => .ex c fs ρ
  | .bad, _ => .bad
/-- nothing is raised within a comprehension -/
def R.calm {α : Type} : R α → R α
  | .ok a ρ => .ok a ρ
  | _ => .bad

/-- what a call gives: the value and the slots of the lent parameters -/
inductive CR where
  | ok (o : O) (π : Env)
  | ex (c : Nat) (fs : List D) (π : Env)
  | bad

inductive Op where
  | add | sub | mul | mod | fdiv | pow
inductive Cm where
  | eq | ne | lt | le | gt | ge | in_ | nin | is_ | isn
inductive Bl where
  | len | tuple | list | abs | int | str | repr | all | any | max | min | sorted | sum
inductive Ty where
  | int | bool | str | tuple | list
inductive Tg where
  | n (i : Nat)
  | t0
  | tc (a : Tg) (r : Tg)

inductive E where
  | v (i : Nat)
  | c (x : D)
  | nil
  | cons (e es : E)
  | tup (es : E)
  | lst (es : E)
  | bin (op : Op) (a b : E)
  | cmp (op : Cm) (a b : E)
  | chn (op op' : Cm) (a b c : E)
  | not (a : E)
  | and (a b : E)
  | or (a b : E)
  | neg (a : E)
  | ite (c a b : E)
  | ix (a b : E)
  | no
  | sl (a lo hi : E)
  | rev (a : E)
  | call (f : Nat) (es : E)
  | io (i : Nat)
  | blt (b : Bl) (es : E)
  | isi (a : E) (ty : Ty)
  | lc (own : List Nat) (g : Tg) (src cond elt : E)
  | lc2 (own : List Nat) (g : Tg) (src cond : E) (vs : List Nat) (g' : Tg) (src' cond' elt : E)
  | rng1 (a : E)
  | rng2 (a b : E)
  | enum (a : E)
  | zip (a b : E)

inductive S where
  | nil
  | seq (s r : S)
  | set (i : Nat) (e : E)
  | setF (i : Nat) (e : E)
  | par (is : List Nat) (es : E)
  | unp (g : Tg) (e : E)
  | aug (i : Nat) (op : Op) (e : E)
  | setix (i : Nat) (ix e : E)
  | augix (i : Nat) (ix : E) (op : Op) (e : E)
  | app (i : Nat) (e : E)
  | ext (i : Nat) (e : E)
  | ex (e : E)
  | ret (e : E)
  | ret0
  | iff (c : E) (a b : S)
  | for_ (g : Tg) (src : E) (body : S)
  | whl (c : E) (body : S)
  | pas
  | brk
  | cnt

/-! ### slots -/
def rd : Env → Nat → Option O
  | [], _ => none
  | o :: _, 0 => o
  | _ :: r, i + 1 => rd r i
def st : Env → Nat → Option O → Env
  | [], _, _ => []
  | _ :: r, 0, x => x :: r
  | o :: r, i + 1, x => o :: st r i x
def wipe : Env → List Nat → Env
  | ρ, [] => ρ
  | ρ, i :: is => st (wipe ρ is) i none
def mrg (ρ' : Env) (is : List Nat) : Nat → Env → Env
  | _, [] => []
  | j, o :: r => (if is.contains j = true then o else rd ρ' j) :: mrg ρ' is (j + 1) r
/-- ρ', the slots is as they are in ρ -/
def back (ρ ρ' : Env) (is : List Nat) : Env := mrg ρ' is 0 ρ

/-! ### freezing -/
mutual
def frz : O → D
  | .d x => x
  | .ls xs => .list xs
  | .nl os => .list (frzs os)
def frzs : List O → List D
  | [] => []
  | o :: r => frz o :: frzs r
end
def O.leaf? : O → Option D
  | .d x => some x
  | _ => none
def leaves : List O → Option (List D)
  | [] => some []
  | o :: r => match o.leaf?, leaves r with
    | some x, some xs => some (x :: xs)
    | _, _ => none
/-- a new list -/
def mkL (os : List O) : O := match leaves os with
  | some ds => .ls ds
  | none => .nl os
def O.own : O → Bool
  | .d _ => false
  | _ => true
def O.fr (o : O) : O := .d (frz o)
/-- the items of a list | of a tuple, frozen -/
def asL : O → Option (List D)
  | .d (.list xs) => some xs
  | .ls xs => some xs
  | _ => none
def asT : O → Option (List D)
  | .d (.tuple xs) => some xs
  | _ => none
def asQ : O → Option (List D)
  | .d (.list xs) => some xs
  | .d (.tuple xs) => some xs
  | .ls xs => some xs
  | _ => none
def asI : O → Option Int
  | .d (.int i) => some i
  | _ => none
def asB : O → Option Bool
  | .d (.bool b) => some b
  | _ => none
def asS : O → Option Str
  | .d (.str x) => some x
  | _ => none

/-! ### operators -/
def mulOk (i j : Int) : Bool := decide ((-(2 ^ 64) < i ∧ i < 2 ^ 64) ∨ (-(2 ^ 64) < j ∧ j < 2 ^ 64))
def fits (n : Nat) : Bool := decide (n ≤ sizeLine)
def guardO (b : Bool) (o : O) : Option O := if b = true then some o else none
def addD : O → O → Option O
  | .d (.int i), .d (.int j) => some (.d (.int (i + j)))
  | .d (.str x), .d (.str y) => guardO (fits (x.length + y.length)) (.d (.str (x ++ y)))
  | .d (.tuple xs), .d (.tuple ys) => guardO (fits (xs.length + ys.length)) (.d (.tuple (xs ++ ys)))
  | _, _ => none
def addL (a b : O) : Option O := match asL a, asL b with
  | some xs, some ys => guardO (fits (xs.length + ys.length)) (.ls (xs ++ ys))
  | _, _ => none
def int2 (a b : O) (f : Int → Int → Option O) : Option O := match asI a, asI b with
  | some i, some j => f i j
  | _, _ => none
def bin (op : Op) (a b : O) : Option O := match op with
  | .add => match addD a b with
    | some o => some o
    | none => addL a b
  | .sub => int2 a b fun i j => some (.d (.int (i - j)))
  | .mul => int2 a b fun i j => guardO (mulOk i j) (.d (.int (i * j)))
  | .mod => int2 a b fun i j => guardO (decide (j ≠ 0)) (.d (.int (i.fmod j)))
  | .fdiv => int2 a b fun i j => guardO (decide (j ≠ 0 ∧ j.natAbs < 1073741824)) (.d (.int (i.fdiv j)))
  | .pow => int2 a b fun i j => guardO (decide (0 ≤ j ∧ j ≤ 1000000 ∧ i.natAbs < 2 ^ 64)) (.d (.int (i ^ j.toNat)))
/-- a op= b -/
def aug2 (op : Op) (a b : O) : Option O := match op, a, b with
  | .add, .d (.int i), .d (.int j) => some (.d (.int (i + j)))
  | .add, .d (.str x), .d (.str y) => guardO (fits (x.length + y.length)) (.d (.str (x ++ y)))
  | .sub, .d (.int i), .d (.int j) => some (.d (.int (i - j)))
  | .mul, .d (.int i), .d (.int j) => guardO (mulOk i j) (.d (.int (i * j)))
  | _, _, _ => none
def scal : D → D → Bool
  | .int _, .int _ => true
  | .bool _, .bool _ => true
  | .str _, .str _ => true
  | _, _ => false
def eqD (x y : D) : Option Bool := if (scal x y || (SeqAt.shaped x && SeqAt.shaped y)) = true then some (PyData.eqv x y) else none
def noneD : D → Bool
  | .none => true
  | _ => false
def flatD : D → Bool
  | .none => true
  | .bool _ => true
  | .int _ => true
  | .str _ => true
  | _ => false
/-- x in a container -/
def inD (x : D) : D → Option Bool
  | .list ys => if (flatD x && ys.all flatD) = true then some (ys.any fun y => PyData.eqv y x) else if (SeqAt.shaped x && SeqAt.shaped (.list ys)) = true then some (ys.any fun y => PyData.eqv y x) else none
  | .tuple ys => if (flatD x && ys.all flatD) = true then some (ys.any fun y => PyData.eqv y x) else none
  | _ => none
def isD : D → D → Option Bool
  | x, .none => some (noneD x)
  | .bool a, .bool b => some (a == b)
  | _, _ => none
def ltD : D → D → Option Bool
  | .int i, .int j => some (decide (i < j))
  | .str x, .str y => some (decide (x.cps.toList < y.cps.toList))
  | _, _ => none
def leD : D → D → Option Bool
  | .int i, .int j => some (decide (i ≤ j))
  | _, _ => none
def cmp : Cm → D → D → Option Bool
  | .eq, x, y => eqD x y
  | .ne, x, y => (eqD x y).map (!·)
  | .lt, x, y => ltD x y
  | .le, x, y => leD x y
  | .gt, x, y => ltD y x
  | .ge, x, y => leD y x
  | .in_, x, y => inD x y
  | .nin, x, y => (inD x y).map (!·)
  | .is_, x, y => isD x y
  | .isn, x, y => (isD x y).map (!·)
def truth : O → Option Bool
  | .d .none => some false
  | .d (.bool b) => some b
  | .d (.int i) => some (i != 0)
  | .d (.str x) => if fits x.length = true then some (x.length != 0) else none
  | .d (.list xs) => some (!xs.isEmpty)
  | .d (.tuple xs) => some (!xs.isEmpty)
  | .ls xs => some (!xs.isEmpty)
  | .nl os => some (!os.isEmpty)
  | _ => none
def strAt (x : Str) (i : Int) : Option O := if fits x.length = true then (L2.atI x.cps.toList i).map fun c => .d (.str ⟨#[c]⟩) else none
/-- an item; the Bool: whether it is a part of an owned list of trees -/
def item : O → O → Option (Bool × O)
  | .d (.list xs), .d (.int i) => (L2.atI xs i).map fun x => (false, .d x)
  | .d (.tuple xs), .d (.int i) => (L2.atI xs i).map fun x => (false, .d x)
  | .d (.str x), .d (.int i) => (strAt x i).map fun o => (false, o)
  | .ls xs, .d (.int i) => (L2.atI xs i).map fun x => (false, .d x)
  | .nl os, .d (.int i) => (L2.atI os i).map fun o => (o.own, o)
  | _, _ => none
def cutL {α : Type} (xs : List α) (lo hi : Option Int) : List α := (xs.drop (HT.sIx xs.length 0 lo)).take (HT.sIx xs.length xs.length hi - HT.sIx xs.length 0 lo)
def slice (o : O) (lo hi : Option Int) : Option O := match o with
  | .d (.list xs) => some (.ls (cutL xs lo hi))
  | .ls xs => some (.ls (cutL xs lo hi))
  | .d (.tuple xs) => some (.d (.tuple (cutL xs lo hi)))
  | _ => none
def revO : O → Option O
  | .d (.list xs) => some (.ls xs.reverse)
  | .ls xs => some (.ls xs.reverse)
  | .d (.tuple xs) => some (.d (.tuple xs.reverse))
  | _ => none
def tyD : Ty → D → Option Bool
  | _, .dict _ => none
  | .int, .int _ => some true
  | .int, .bool _ => some true
  | .bool, .bool _ => some true
  | .str, .str _ => some true
  | .tuple, .tuple _ => some true
  | .list, .list _ => some true
  | _, _ => some false

/-! ### built-ins, of frozen views -/
def seqD : D → Bool
  | .list _ => true
  | .tuple _ => true
  | _ => false
def allBools : List D → Option (List Bool)
  | [] => some []
  | .bool b :: r => (allBools r).map (b :: ·)
  | _ => none
def allInts : List D → Option (List Int)
  | [] => some []
  | .int i :: r => (allInts r).map (i :: ·)
  | _ => none
def allStrs : List D → Option (List Str)
  | [] => some []
  | .str i :: r => (allStrs r).map (i :: ·)
  | _ => none
def maxI : List Int → Option Int
  | [] => none
  | x :: r => some (r.foldl (fun a b => if b > a then b else a) x)
def minI : List Int → Option Int
  | [] => none
  | x :: r => some (r.foldl (fun a b => if b < a then b else a) x)
def leS (x y : Str) : Bool := !decide (y.cps.toList < x.cps.toList)
def sortI (xs : List Int) : List Int := xs.mergeSort fun a b => decide (a ≤ b)
def sortS (xs : List Str) : List Str := xs.mergeSort leS
def sortD (xs : List D) : Option (List D) := match allInts xs, allStrs xs with
  | some is, _ => some ((sortI is).map .int)
  | _, some ss => if ss.length < 64 then some ((sortS ss).map .str) else none
  | _, _ => none
def blt : Bl → List O → Option O
  | .len, [.d (.list xs)] => some (.d (.int xs.length))
  | .len, [.d (.tuple xs)] => some (.d (.int xs.length))
  | .len, [.ls xs] => some (.d (.int xs.length))
  | .len, [.nl xs] => some (.d (.int xs.length))
  | .len, [.d (.str x)] => guardO (fits x.length) (.d (.int x.length))
  | .tuple, [o] => (asQ o).map fun xs => .d (.tuple xs)
  | .list, [o] => (asQ o).map fun xs => .ls xs
  | .abs, [.d (.int i)] => some (.d (.int (if i < 0 then -i else i)))
  | .int, [.d (.int i)] => some (.d (.int i))
  | .int, [.d (.bool b)] => some (.d (.int (if b then 1 else 0)))
  | .str, [.d (.int i)] => guardO (decide (i.natAbs.log2 < 1920)) (.d (.str (toString i)))
  | .repr, [o] => guardO (seqD (frz o) && (frz o).canLay0 && decide ((frz o).depth ≤ 64) && (frz o).showable && fits (frz o).shown.length) (.d (.str (frz o).shown))
  | .all, [o] => (asL o).bind fun xs => (allBools xs).map fun bs => .d (.bool (bs.all id))
  | .any, [o] => (asL o).bind fun xs => (allBools xs).map fun bs => .d (.bool (bs.any id))
  | .max, [.d (.int i), .d (.int j)] => some (.d (.int (if j > i then j else i)))
  | .min, [.d (.int i), .d (.int j)] => some (.d (.int (if j < i then j else i)))
  | .max, [o] => (asL o).bind fun xs => (allInts xs).bind fun is => (maxI is).map fun i => .d (.int i)
  | .min, [o] => (asL o).bind fun xs => (allInts xs).bind fun is => (minI is).map fun i => .d (.int i)
  | .sum, [o] => (asL o).bind fun xs => (allInts xs).map fun is => .d (.int is.sum)
  | .sorted, [o] => (asL o).bind fun xs => (sortD xs).map .ls
  | _, _ => none

/-! ### targets -/
mutual
def put : Tg → D → Env → Option Env
  | .n i, x, ρ => some (st ρ i (some (.d x)))
  | .t0, x, ρ => match x with
    | .tuple [] => some ρ
    | _ => none
  | .tc a r, x, ρ => match x with
    | .tuple xs => puts (.tc a r) xs ρ
    | _ => none
def puts : Tg → List D → Env → Option Env
  | .t0, [], ρ => some ρ
  | .tc a r, x :: xs, ρ => match put a x ρ with
    | some ρ' => puts r xs ρ'
    | none => none
  | _, _, _ => none
end
def lift {α : Type} (o : Option α) (ρ : Env) : R α := match o with
  | some a => .ok a ρ
  | none => .bad
/-- an argument: a value; a lent slot -/
inductive Arg where
  | val (o : O)
  | io (i : Nat)
def argO (ρ : Env) : Arg → Option O
  | .val o => some o.fr
  | .io i => rd ρ i
def argsO (ρ : Env) : List Arg → Option (List O)
  | [] => some []
  | a :: r => match argO ρ a, argsO ρ r with
    | some o, some os => some (o :: os)
    | _, _ => none
def ioSlots : List Arg → List Nat
  | [] => []
  | .val _ :: r => ioSlots r
  | .io i :: r => i :: ioSlots r
/-- the lent slots as the callee leaves them -/
def putBack (ρ π : Env) : Nat → List Arg → Env
  | _, [] => ρ
  | j, .val _ :: r => putBack ρ π (j + 1) r
  | j, .io i :: r => st (putBack ρ π (j + 1) r) i (rd π j)
def noDup : List Nat → Bool
  | [] => true
  | i :: r => !r.contains i && noDup r

/-- what a source of turns is: its items; the slots that are lent while it is walked -/
structure Src where
  items : List D
  lent : List Nat

/-- one value out of a borrowed one: a slot's own tree is frozen where it stands -/
def asV (e : E) (ro : Bool) : R (Bool × O) → R O
  | .ok (false, o) ρ => .ok o ρ
  | .ok (true, o) ρ => match ro, e with
    | false, .v i => .ok (.d (frz o)) (st ρ i (some (.d (frz o))))
    | _, _ => .bad
  | .ex c fs ρ => .ex c fs ρ
  | .bad => .bad
def fresh (r : R O) : R (Bool × O) := r.bind fun o ρ => .ok (false, o) ρ
/-- the turns of a comprehension -/
def lcGo {α : Type} (step : D → α → Env → R α) : List D → α → Env → R α
  | [], acc, ρ => .ok acc ρ
  | x :: r, acc, ρ => (step x acc ρ).bind fun acc' ρ' => lcGo step r acc' ρ'
def range (lo n : Int) : List D := (List.range (n - lo).toNat).map fun (k : Nat) => .int (lo + (k : Int))
def okRange (lo n : Int) : Bool := decide (-(2 ^ 62) ≤ lo ∧ lo < 2 ^ 62 ∧ -(2 ^ 62) ≤ n ∧ n < 2 ^ 62)
def enumFrom : Nat → List D → List D
  | _, [] => []
  | k, x :: r => .tuple [.int (k : Nat), x] :: enumFrom (k + 1) r
def zipD : List D → List D → List D
  | x :: xs, y :: ys => .tuple [x, y] :: zipD xs ys
  | _, _ => []
/-- the slot that a borrowed source stands in -/
def lentOf (e : E) (b : Bool) : Option (List Nat) := match b, e with
  | false, _ => some []
  | true, .v i => some [i]
  | true, _ => none
def srcOf (xs : Option (List D)) (l : Option (List Nat)) (ρ : Env) : R Src := match xs, l with
  | some xs, some l => .ok ⟨xs, l⟩ ρ
  | _, _ => .bad
/-- the items that are walked: of a new tree, frozen -/
def itemsOf : Bool × O → Option (List D)
  | (false, .nl os) => some (frzs os)
  | (_, o) => asQ o
@[simp] theorem itemsOf_d {b : Bool} {x : D} : itemsOf (b, .d x) = asQ (.d x) := by cases b <;> rfl
@[simp] theorem itemsOf_ls {b : Bool} {xs : List D} : itemsOf (b, .ls xs) = some xs := by cases b <;> rfl
theorem itemsOf_some {x : Bool × O} {xs : List D} (h : itemsOf x = some xs) : asQ x.2 = some xs ∨ ∃ os, x = (false, .nl os) ∧ xs = frzs os := by
  unfold itemsOf at h
  split at h
  · cases h; exact .inr ⟨_, rfl, rfl⟩
  · exact .inl h
theorem itemsOf_of {b : Bool} {o : O} {xs : List D} (h : asQ o = some xs) : itemsOf (b, o) = some xs := by
  cases o with
  | d x => rw [itemsOf_d]; exact h
  | ls ys => cases h; exact itemsOf_ls
  | nl os => cases h
/-- a call's end -/
def calld (ρ : Env) (as : List Arg) : CR → R (Bool × O)
  | .ok o π => .ok (false, o) (putBack ρ π 0 as)
  | .ex c fs π => .ex c fs (putBack ρ π 0 as)
  | .bad => .bad
def calling (cf : List O → CR) (ro : Bool) (ρ : Env) (as : List Arg) : R (Bool × O) :=
  if ((!ro || (ioSlots as).isEmpty) && noDup (ioSlots as)) = true then match argsO ρ as with
    | some os => calld ρ as (cf os)
    | none => .bad
  else .bad

section
variable (cf : Nat → List O → CR)
mutual
/-- a value, or a borrowed view (true). ro: nothing may be changed -/
def evB : E → Bool → Env → R (Bool × O)
  | .v i, _, ρ => match rd ρ i with
    | some o => .ok (o.own, o) ρ
    | none => .bad
  | .c x, _, ρ => .ok (false, .d x) ρ
  | .tup es, ro, ρ => (evL es ro ρ).bind fun os ρ' => .ok (false, .d (.tuple (frzs os))) ρ'
  | .lst es, ro, ρ => (evL es ro ρ).bind fun os ρ' => .ok (false, mkL os) ρ'
  | .bin op a b, ro, ρ => (evB a ro ρ).bind fun x ρ1 => (evB b (ro || x.1) ρ1).bind fun y ρ2 => lift ((bin op x.2 y.2).map fun o => (false, o)) ρ2
  | .cmp op a b, ro, ρ => (evB a ro ρ).bind fun x ρ1 => (evB b (ro || x.1) ρ1).bind fun y ρ2 => lift ((cmp op (frz x.2) (frz y.2)).map fun o => (false, .d (.bool o))) ρ2
  | .chn op op' a b c, ro, ρ => (evB a ro ρ).bind fun x ρ1 => (evB b (ro || x.1) ρ1).bind fun y ρ2 => (lift (cmp op (frz x.2) (frz y.2)) ρ2).bind fun t ρ3 =>
      if t = true then (evB c (ro || y.1) ρ3).bind fun z ρ4 => lift ((cmp op' (frz y.2) (frz z.2)).map fun o => (false, .d (.bool o))) ρ4 else .ok (false, .d (.bool false)) ρ3
  | .not a, ro, ρ => (evB a ro ρ).bind fun x ρ' => lift ((truth x.2).map fun t => (false, .d (.bool !t))) ρ'
  | .and a b, ro, ρ => (evB a ro ρ).bind fun x ρ1 => (lift (asB x.2) ρ1).bind fun t ρ2 => if t = true then fresh (asV b ro (evB b ro ρ2)) else .ok (false, .d (.bool false)) ρ2
  | .or a b, ro, ρ => (evB a ro ρ).bind fun x ρ1 => (lift (asB x.2) ρ1).bind fun t ρ2 => if t = true then .ok (false, .d (.bool true)) ρ2 else fresh (asV b ro (evB b ro ρ2))
  | .neg a, ro, ρ => (evB a ro ρ).bind fun x ρ' => lift ((asI x.2).map fun i => (false, .d (.int (-i)))) ρ'
  | .ite c a b, ro, ρ => (evT c ro ρ).bind fun t ρ' => if t = true then fresh (asV a ro (evB a ro ρ')) else fresh (asV b ro (evB b ro ρ'))
  | .ix a b, ro, ρ => (evB a ro ρ).bind fun x ρ1 => (evB b (ro || x.1) ρ1).bind fun y ρ2 => lift ((item x.2 y.2).map fun z => (z.1 && x.1, z.2)) ρ2
  | .sl a lo hi, ro, ρ => (evB a ro ρ).bind fun x ρ1 => (evO lo (ro || x.1) ρ1).bind fun l ρ2 => (evO hi (ro || x.1) ρ2).bind fun h ρ3 => lift ((slice x.2 l h).map fun o => (false, o)) ρ3
  | .rev a, ro, ρ => (evB a ro ρ).bind fun x ρ' => lift ((revO x.2).map fun o => (false, o)) ρ'
  | .call f es, ro, ρ => (evA es ro ρ).bind fun as ρ' => calling (cf f) ro ρ' as
  | .blt b es, ro, ρ => (evW es ro ρ).bind fun os ρ' => lift ((blt b os).map fun o => (false, o)) ρ'
  | .isi a ty, ro, ρ => (evB a ro ρ).bind fun x ρ' => lift ((tyD ty (frz x.2)).map fun b => (false, .d (.bool b))) ρ'
  | .lc own g src cond elt, ro, ρ => (evI src ro ρ).bind fun s ρ1 =>
      (lcGo (fun x acc ρ => match put g x (wipe ρ own) with
        | some ρ2 => ((evT cond ro ρ2).bind fun t ρ3 => if t = true then (asV elt ro (evB elt ro ρ3)).bind fun o ρ4 => if fits (acc.length + 1) = true then .ok (acc ++ [o]) ρ4 else .bad else .ok acc ρ3).calm
        | none => .bad) s.items [] (wipe ρ1 s.lent)).bind fun acc ρ' => .ok (false, mkL acc) (back ρ1 ρ' (own ++ s.lent))
  | .lc2 own g src cond vs g' src' cond' elt, ro, ρ => (evI src ro ρ).bind fun s ρ1 =>
      (lcGo (fun x acc ρ => match put g x (wipe ρ own) with
        | some ρ2 => ((evT cond ro ρ2).bind fun t ρ3 => if t = true then (evI src' ro ρ3).bind fun s' ρ4 =>
            if s'.lent.isEmpty = true then lcGo (fun x acc ρ => match put g' x (wipe ρ vs) with
              | some ρ5 => (evT cond' ro ρ5).bind fun t ρ6 => if t = true then (asV elt ro (evB elt ro ρ6)).bind fun o ρ7 => if fits (acc.length + 1) = true then .ok (acc ++ [o]) ρ7 else .bad else .ok acc ρ6
              | none => .bad) s'.items acc ρ4 else .bad
            else .ok acc ρ3).calm
        | none => .bad) s.items [] (wipe ρ1 s.lent)).bind fun acc ρ' => .ok (false, mkL acc) (back ρ1 ρ' (own ++ s.lent))
  | _, _, _ => .bad
/-- a list of values -/
def evL : E → Bool → Env → R (List O)
  | .nil, _, ρ => .ok [] ρ
  | .cons e es, ro, ρ => (asV e ro (evB e ro ρ)).bind fun o ρ1 => (evL es ro ρ1).bind fun os ρ2 => .ok (o :: os) ρ2
  | _, _, _ => .bad
/-- views, for a built-in: what is borrowed stays as it is -/
def evW : E → Bool → Env → R (List O)
  | .nil, _, ρ => .ok [] ρ
  | .cons e es, ro, ρ => (evB e ro ρ).bind fun x ρ1 => (evW es (ro || x.1) ρ1).bind fun os ρ2 => .ok (x.2 :: os) ρ2
  | _, _, _ => .bad
/-- a call's arguments -/
def evA : E → Bool → Env → R (List Arg)
  | .nil, _, ρ => .ok [] ρ
  | .cons e es, ro, ρ => match e with
    | .io i => match rd ρ i with
      | some _ => (evA es ro ρ).bind fun as ρ2 => .ok (.io i :: as) ρ2
      | none => .bad
    | e => (asV e ro (evB e ro ρ)).bind fun o ρ1 => (evA es ro ρ1).bind fun as ρ2 => .ok (.val o.fr :: as) ρ2
  | _, _, _ => .bad
/-- a test -/
def evT : E → Bool → Env → R Bool
  | .not a, ro, ρ => (evT a ro ρ).bind fun t ρ' => .ok (!t) ρ'
  | .and a b, ro, ρ => (evT a ro ρ).bind fun t ρ' => if t = true then evT b ro ρ' else .ok false ρ'
  | .or a b, ro, ρ => (evT a ro ρ).bind fun t ρ' => if t = true then .ok true ρ' else evT b ro ρ'
  | .cmp op a b, ro, ρ => (evB a ro ρ).bind fun x ρ1 => (evB b (ro || x.1) ρ1).bind fun y ρ2 => lift (cmp op (frz x.2) (frz y.2)) ρ2
  | .chn op op' a b c, ro, ρ => (evB a ro ρ).bind fun x ρ1 => (evB b (ro || x.1) ρ1).bind fun y ρ2 => (lift (cmp op (frz x.2) (frz y.2)) ρ2).bind fun t ρ3 =>
      if t = true then (evB c (ro || y.1) ρ3).bind fun z ρ4 => lift (cmp op' (frz y.2) (frz z.2)) ρ4 else .ok false ρ3
  | .no, _, ρ => .ok true ρ
  | e, ro, ρ => (evB e ro ρ).bind fun x ρ' => lift (truth x.2) ρ'
/-- a slice's end -/
def evO : E → Bool → Env → R (Option Int)
  | .no, _, ρ => .ok none ρ
  | e, ro, ρ => (evB e ro ρ).bind fun x ρ' => lift ((asI x.2).map some) ρ'
/-- what is walked -/
def evI : E → Bool → Env → R Src
  | .rng1 a, ro, ρ => (evB a ro ρ).bind fun x ρ' => srcOf ((asI x.2).bind fun n => if okRange 0 n = true then some (range 0 n) else none) (some []) ρ'
  | .rng2 a b, ro, ρ => (evB a ro ρ).bind fun x ρ1 => (evB b ro ρ1).bind fun y ρ' => srcOf ((asI x.2).bind fun lo => (asI y.2).bind fun n => if okRange lo n = true then some (range lo n) else none) (some []) ρ'
  | .enum a, ro, ρ => (evB a ro ρ).bind fun x ρ' => srcOf ((asQ x.2).map (enumFrom 0)) (lentOf a x.1) ρ'
  | .zip a b, ro, ρ => (evB a ro ρ).bind fun x ρ1 => (evB b (ro || x.1) ρ1).bind fun y ρ' => srcOf ((asQ x.2).bind fun xs => (asQ y.2).map fun ys => zipD xs ys) ((lentOf a x.1).bind fun l => (lentOf b y.1).map fun l' => l ++ l') ρ'
  | e, ro, ρ => (evB e ro ρ).bind fun x ρ' => srcOf (itemsOf x) (lentOf e x.1) ρ'
end
end

/-! ### statements -/
inductive SR where
  | nx (ρ : Env)
  | rt (o : O) (ρ : Env)
  | bk (ρ : Env)
  | ct (ρ : Env)
  | ex (c : Nat) (fs : List D) (ρ : Env)
  | bad
def R.sr {α : Type} : R α → (α → Env → SR) → SR
  | .ok a ρ, f => f a ρ
  | .ex c fs ρ, _ => .ex c fs ρ
  | .bad, _ => .bad
/-- the next statement -/
def SR.then : SR → (Env → SR) → SR
  | .nx ρ, f => f ρ
  | r, _ => r
/-- at a loop's end -/
def SR.env (g : Env → Env) : SR → SR
  | .nx ρ => .nx (g ρ)
  | .rt o ρ => .rt o (g ρ)
  | .bk ρ => .bk (g ρ)
  | .ct ρ => .ct (g ρ)
  | .ex c fs ρ => .ex c fs (g ρ)
  | .bad => .bad
def forGo (step : D → Env → SR) : List D → Env → SR
  | [], ρ => .nx ρ
  | x :: r, ρ => match step x ρ with
    | .nx ρ' => forGo step r ρ'
    | .ct ρ' => forGo step r ρ'
    | .bk ρ' => .nx ρ'
    | r' => r'
def whGo (test : Env → R Bool) (body : Env → SR) : Nat → Env → SR
  | 0, _ => .bad
  | m + 1, ρ => (test ρ).sr fun t ρ1 => if t = true then match body ρ1 with
      | .nx ρ' => whGo test body m ρ'
      | .ct ρ' => whGo test body m ρ'
      | .bk ρ' => .nx ρ'
      | r' => r'
    else .nx ρ1
/-- a bound of a while loop's turns -/
def mostTurns : Nat := 2 ^ 40
def setAt (o : O) (ix : O) (x : O) : Option O := match o, ix with
  | .ls xs, .d (.int i) => (L2.ixN xs.length i).map fun j => .ls (xs.set j (frz x))
  | .nl os, .d (.int i) => (L2.ixN os.length i).map fun j => .nl (os.set j x)
  | _, _ => none
def getAt (o : O) (ix : O) : Option D := match o, ix with
  | .ls xs, .d (.int i) => L2.atI xs i
  | .nl os, .d (.int i) => (L2.atI os i).bind O.leaf?
  | _, _ => none
def appTo (o : O) (x : O) : Option O := match o with
  | .ls xs => if fits (xs.length + 1) = true then some (.ls (xs ++ [frz x])) else none
  | .nl os => if fits (os.length + 1) = true then some (.nl (os ++ [x])) else none
  | _ => none
def extTo (o : O) (x : O) : Option O := match o, x with
  | .ls xs, .ls ys => if fits (xs.length + ys.length) = true then some (.ls (xs ++ ys)) else none
  | _, _ => none
def lets (ρ : Env) : List Nat → List O → Option Env
  | [], [] => some ρ
  | i :: is, o :: os => lets (st ρ i (some o)) is os
  | _, _ => none
def slots : Tg → List Nat
  | .n i => [i]
  | .t0 => []
  | .tc a r => slots a ++ slots r
/-- a list of one's own stands in the slot -/
def ownAt (ρ : Env) (i : Nat) : Bool := match rd ρ i with
  | some o => o.own
  | none => false
/-- slot i's tree by f -/
def mutS (ρ : Env) (i : Nat) (f : O → Option O) : SR := match rd ρ i with
  | some o => match f o with
    | some o' => .nx (st ρ i (some o'))
    | none => .bad
  | none => .bad
section
variable (cf : Nat → List O → CR)
/-- io: slots that are not bound anew -/
def evS : S → List Nat → Env → SR
  | .nil, io, ρ => .nx ρ
  | .seq s r, io, ρ => (evS s io ρ).then fun ρ' => evS r io ρ'
  | .set i e, io, ρ => if io.contains i = true then .bad else (asV e false (evB cf e false ρ)).sr fun o ρ' => .nx (st ρ' i (some o))
  | .setF i e, io, ρ => if io.contains i = true then .bad else (asV e false (evB cf e false ρ)).sr fun o ρ' => .nx (st ρ' i (some o.fr))
  | .par is es, io, ρ => if (is.any io.contains || !noDup is) = true then .bad else (evL cf es false ρ).sr fun os ρ' => match lets ρ' is os with
    | some ρ2 => .nx ρ2
    | none => .bad
  | .unp g e, io, ρ => if (slots g).any io.contains = true then .bad else (evB cf e false ρ).sr fun x ρ' => match x.2 with
    | .d y => match put g y ρ' with
      | some ρ2 => .nx ρ2
      | none => .bad
    | _ => .bad
  | .aug i op e, io, ρ => if io.contains i = true then .bad else match rd ρ i with
    | some (.d x) => (evB cf e false ρ).sr fun y ρ' => match aug2 op (.d x) y.2 with
      | some (.d z) => .nx (st ρ' i (some (.d z)))
      | _ => .bad
    | _ => .bad
  | .setix i ix e, io, ρ => if ownAt ρ i = true then (asV e false (evB cf e false ρ)).sr fun x ρ1 => (evB cf ix true ρ1).sr fun k ρ2 => mutS ρ2 i fun o => setAt o k.2 x else .bad
  | .augix i ix op e, io, ρ => if ownAt ρ i = true then (evB cf ix true ρ).sr fun k ρ1 => match rd ρ1 i with
    | some o => match getAt o k.2 with
      | some old => (evB cf e true ρ1).sr fun y ρ2 => match aug2 op (.d old) y.2 with
        | some (.d new) => mutS ρ2 i fun o => setAt o k.2 (.d new)
        | _ => .bad
      | _ => .bad
    | _ => .bad
    else .bad
  | .app i e, io, ρ => if ownAt ρ i = true then (asV e false (evB cf e false ρ)).sr fun x ρ1 => mutS ρ1 i fun o => appTo o x else .bad
  | .ext i e, io, ρ => if ownAt ρ i = true then (asV e false (evB cf e false ρ)).sr fun x ρ1 => mutS ρ1 i fun o => extTo o x else .bad
  | .ex e, io, ρ => (evB cf e false ρ).sr fun _ ρ' => .nx ρ'
  | .ret e, io, ρ => match e with
    | .v i => match rd ρ i with
      | some o => if io.contains i = true then .rt (.d (frz o)) (st ρ i (some (.d (frz o)))) else .rt o (st ρ i none)
      | none => .bad
    | e => (asV e false (evB cf e false ρ)).sr fun o ρ' => .rt o ρ'
  | .ret0, io, ρ => .rt (.d .none) ρ
  | .iff c a b, io, ρ => (evT cf c false ρ).sr fun t ρ' => if t = true then evS a io ρ' else evS b io ρ'
  | .for_ g src body, io, ρ => (evI cf src false ρ).sr fun s ρ1 => if (slots g).any (s.lent ++ io).contains = true then .bad else
      (forGo (fun x ρ => match put g x ρ with
        | some ρ2 => evS body (s.lent ++ io) ρ2
        | none => .bad) s.items (wipe ρ1 s.lent)).env fun ρ' => back ρ1 ρ' s.lent
  | .whl c body, io, ρ => whGo (evT cf c false) (evS body io) mostTurns ρ
  | .pas, io, ρ => .nx ρ
  | .brk, io, ρ => .bk ρ
  | .cnt, io, ρ => .ct ρ
end

/-! ### defs -/
structure FD where
  np : Nat
  many : Nat
  io : List Nat
  body : S
def keepE (ρ : Env) (io : List Nat) : Nat → Env
  | 0 => []
  | n + 1 => keepE ρ io n ++ [if io.contains n = true then rd ρ n else none]
def ended (np : Nat) (io : List Nat) : SR → CR
  | .nx ρ => .ok (.d .none) (keepE ρ io np)
  | .rt o ρ => .ok o (keepE ρ io np)
  | .ex c fs ρ => .ex c fs (keepE ρ io np)
  | _ => .bad
def blanks : Nat → Env
  | 0 => []
  | n + 1 => none :: blanks n
def startE : List O → Nat → Env
  | [], n => blanks n
  | o :: os, n => some o :: startE os (n - 1)
/-- T: the defs of the program; n: how deep calls may go -/
def callF (T : Nat → Option FD) : Nat → Nat → List O → CR
  | 0, _, _ => .bad
  | n + 1, f, os => match T f with
    | some fd => if os.length = fd.np then ended fd.np fd.io (evS (callF T n) fd.body fd.io (startE os fd.many)) else .bad
    | none => .bad
end Dv
set_option Elab.async false
set_option linter.all false
set_option maxRecDepth 100000
/-! Part B: what stands for what. -/
namespace Dv
open PySem L2

/-- what is fixed through a law: the written part, where the defs stand -/
structure Ct where
  K : PySem.W.Frag
  fa : Nat → Addr

mutual
/-- v stands for the frozen data x -/
inductive RD (G : Ct) (Hs : Hp) : V → D → Prop
  | non : RD G Hs .non .none
  | bl (b : Bool) : RD G Hs (.bl b) (.bool b)
  | int (i : Int) : RD G Hs (.int i) (.int i)
  | str (x : Str) : RD G Hs (.str x) (.str x)
  | lst {a : Addr} {vs : List V} {xs : List D} : SqL G.K Hs a vs → RDs G Hs vs xs → RD G Hs (.ref a) (.list xs)
  | tup {a : Addr} {vs : List V} {xs : List D} : SqT G.K Hs a vs → RDs G Hs vs xs → RD G Hs (.ref a) (.tuple xs)
  | fn (f : Nat) : RD G Hs (.ref (G.fa f)) (.dict [(.none, .int f)])
inductive RDs (G : Ct) (Hs : Hp) : List V → List D → Prop
  | nil : RDs G Hs [] []
  | cons {v : V} {vs : List V} {x : D} {xs : List D} : RD G Hs v x → RDs G Hs vs xs → RDs G Hs (v :: vs) (x :: xs)
end
abbrev Fp := Addr → Prop
mutual
/-- v stands for the tree o; its own objects are those of f, in H; the rest is frozen, in Hs -/
inductive RO (G : Ct) (Hs H : Hp) : V → O → Fp → Prop
  | d {v : V} {x : D} : RD G Hs v x → RO G Hs H v (.d x) (fun _ => False)
  | ls {a : Addr} {vs : List V} {xs : List D} : H a = some (.lst vs) → Hs a = none → RDs G Hs vs xs → RO G Hs H (.ref a) (.ls xs) (fun b => b = a)
  | nl {a : Addr} {vs : List V} {os : List O} {f : Fp} : H a = some (.lst vs) → Hs a = none → ROs G Hs H vs os f → ¬ f a → RO G Hs H (.ref a) (.nl os) (fun b => b = a ∨ f b)
inductive ROs (G : Ct) (Hs H : Hp) : List V → List O → Fp → Prop
  | nil : ROs G Hs H [] [] (fun _ => False)
  | cons {v : V} {vs : List V} {o : O} {os : List O} {f g : Fp} : RO G Hs H v o f → ROs G Hs H vs os g → (∀ b, f b → ¬ g b) → ROs G Hs H (v :: vs) (o :: os) (fun b => f b ∨ g b)
end

/-! ### frozen data stays -/
theorem seqT {K : PySem.W.Frag} {H H' : Hp} (e : Same H H') {a : Addr} {xs : List V} (h : SqT K H a xs) : SqT K H' a xs := by
  rcases h with (h | ⟨o, h⟩) | h
  · exact .inl (.inl (e _ _ h))
  · exact .inl (.inr ⟨o, e _ _ h⟩)
  · exact .inr h
section
variable {G : Ct} {Hs Hs' H H' : Hp}
mutual
theorem RD.mono (e : Same Hs Hs') : ∀ {v : V} {x : D}, RD G Hs v x → RD G Hs' v x
  | _, _, .non => .non
  | _, _, .bl b => .bl b
  | _, _, .int i => .int i
  | _, _, .str x => .str x
  | _, _, .lst h r => .lst (e.seq h) (RDs.mono e r)
  | _, _, .tup h r => .tup (seqT e h) (RDs.mono e r)
  | _, _, .fn f => .fn f
theorem RDs.mono (e : Same Hs Hs') : ∀ {vs : List V} {xs : List D}, RDs G Hs vs xs → RDs G Hs' vs xs
  | _, _, .nil => .nil
  | _, _, .cons h r => .cons (RD.mono e h) (RDs.mono e r)
end
theorem RDs.length : ∀ {vs : List V} {xs : List D}, RDs G Hs vs xs → vs.length = xs.length
  | _, _, .nil => rfl
  | _, _, .cons _ r => congrArg Nat.succ r.length
theorem RDs.append : ∀ {vs us : List V} {xs ys : List D}, RDs G Hs vs xs → RDs G Hs us ys → RDs G Hs (vs ++ us) (xs ++ ys)
  | _, _, _, _, .nil, s => s
  | _, _, _, _, .cons h r, s => .cons h (RDs.append r s)
theorem RDs.take : ∀ (n : Nat) {vs : List V} {xs : List D}, RDs G Hs vs xs → RDs G Hs (vs.take n) (xs.take n)
  | 0, _, _, _ => .nil
  | _ + 1, _, _, .nil => .nil
  | n + 1, _, _, .cons h r => .cons h (RDs.take n r)
theorem RDs.drop : ∀ (n : Nat) {vs : List V} {xs : List D}, RDs G Hs vs xs → RDs G Hs (vs.drop n) (xs.drop n)
  | 0, _, _, r => r
  | _ + 1, _, _, .nil => .nil
  | n + 1, _, _, .cons _ r => RDs.drop n r
theorem RDs.reverse : ∀ {vs : List V} {xs : List D}, RDs G Hs vs xs → RDs G Hs vs.reverse xs.reverse
  | _, _, .nil => .nil
  | _, _, .cons h r => by
    rw [List.reverse_cons, List.reverse_cons]
    exact RDs.append (RDs.reverse r) (.cons h .nil)
theorem RDs.get : ∀ {vs : List V} {xs : List D} {i : Nat} {x : D}, RDs G Hs vs xs → xs[i]? = some x → ∃ v, vs[i]? = some v ∧ RD G Hs v x
  | _, _, _, _, .nil, e => by cases e
  | _, _, 0, x, .cons h _, e => ⟨_, rfl, by rw [← Option.some.inj e]; exact h⟩
  | _, _, i + 1, x, .cons _ r, e => RDs.get r (i := i) e
theorem RDs.getV : ∀ {vs : List V} {xs : List D} {i : Nat} {v : V}, RDs G Hs vs xs → vs[i]? = some v → ∃ x, xs[i]? = some x ∧ RD G Hs v x
  | _, _, _, _, .nil, e => by cases e
  | _, _, 0, v, .cons h _, e => ⟨_, rfl, by rw [← Option.some.inj e]; exact h⟩
  | _, _, i + 1, v, .cons _ r, e => RDs.getV r (i := i) e
theorem RDs.set : ∀ {vs : List V} {xs : List D} {v : V} {x : D} (i : Nat), RDs G Hs vs xs → RD G Hs v x → RDs G Hs (vs.set i v) (xs.set i x)
  | _, _, _, _, _, .nil, _ => .nil
  | _, _, _, _, 0, .cons _ r, h => .cons h r
  | _, _, _, _, i + 1, .cons h r, h' => .cons h (RDs.set i r h')

/-! ### trees -/
mutual
theorem RO.at_ : ∀ {v : V} {o : O} {f : Fp}, RO G Hs H v o f → ∀ b, f b → (∃ vs, H b = some (.lst vs)) ∧ Hs b = none
  | _, _, _, .d _, _, h => h.elim
  | _, _, _, .ls e n _, _, h => by
    cases h
    exact ⟨⟨_, e⟩, n⟩
  | _, _, _, .nl e n r _, _, h => by
    rcases h with h | h
    · cases h
      exact ⟨⟨_, e⟩, n⟩
    · exact ROs.at_ r _ h
theorem ROs.at_ : ∀ {vs : List V} {os : List O} {f : Fp}, ROs G Hs H vs os f → ∀ b, f b → (∃ vs, H b = some (.lst vs)) ∧ Hs b = none
  | _, _, _, .nil, _, h => h.elim
  | _, _, _, .cons r s _, _, h => by
    rcases h with h | h
    · exact RO.at_ r _ h
    · exact ROs.at_ s _ h
end
mutual
theorem RO.mono (e : Same Hs Hs') : ∀ {v : V} {o : O} {f : Fp}, RO G Hs H v o f → (∀ b, f b → H' b = H b ∧ Hs' b = none) → RO G Hs' H' v o f
  | _, _, _, .d r, _ => .d (r.mono e)
  | _, _, _, .ls q n r, k => .ls ((k _ rfl).1.trans q) (k _ rfl).2 (r.mono e)
  | _, _, _, .nl q n r nf, k => .nl ((k _ (.inl rfl)).1.trans q) (k _ (.inl rfl)).2 (ROs.mono e r fun b hb => k b (.inr hb)) nf
theorem ROs.mono (e : Same Hs Hs') : ∀ {vs : List V} {os : List O} {f : Fp}, ROs G Hs H vs os f → (∀ b, f b → H' b = H b ∧ Hs' b = none) → ROs G Hs' H' vs os f
  | _, _, _, .nil, _ => .nil
  | _, _, _, .cons r s d, k => .cons (RO.mono e r fun b hb => k b (.inl hb)) (ROs.mono e s fun b hb => k b (.inr hb)) d
end
theorem ROs.length : ∀ {vs : List V} {os : List O} {f : Fp}, ROs G Hs H vs os f → vs.length = os.length
  | _, _, _, .nil => rfl
  | _, _, _, .cons _ r _ => congrArg Nat.succ r.length
mutual
/-- the footprint is told by the tree and the heap -/
theorem RO.fp_uniq : ∀ {v : V} {o : O} {f g : Fp}, RO G Hs H v o f → RO G Hs H v o g → ∀ b, f b → g b
  | _, _, _, _, .d _, _, _, h => h.elim
  | _, _, _, _, .ls _ _ _, .ls _ _ _, _, h => h
  | _, _, _, _, .nl e n r nf, .nl e' n' r' nf', b, h => by
    rw [e] at e'
    cases e'
    exact h.imp id (ROs.fp_uniq r r' b)
theorem ROs.fp_uniq : ∀ {vs : List V} {os : List O} {f g : Fp}, ROs G Hs H vs os f → ROs G Hs H vs os g → ∀ b, f b → g b
  | _, _, _, _, .nil, _, _, h => h.elim
  | _, _, _, _, .cons r t _, .cons r' t' _, b, h => h.imp (RO.fp_uniq r r' b) (ROs.fp_uniq t t' b)
end
theorem ROs.snoc : ∀ {vs : List V} {os : List O} {v : V} {o : O} {f g : Fp}, ROs G Hs H vs os f → RO G Hs H v o g → (∀ b, f b → ¬ g b) → ROs G Hs H (vs ++ [v]) (os ++ [o]) (fun b => f b ∨ g b)
  | _, _, v, o, _, g, .nil, r, _ => by
    have h := ROs.cons r (.nil (G := G) (Hs := Hs) (H := H)) (fun _ _ z => z)
    have q : (fun b => g b ∨ False) = fun b => False ∨ g b := funext fun b => propext ⟨fun z => z.symm, fun z => z.symm⟩
    rw [q] at h
    exact h
  | _, _, v, o, _, g, .cons (f := f1) (g := f2) r s d, r', d' => by
    have h := ROs.cons r (ROs.snoc s r' fun b z => d' b (.inr z)) (fun b z => fun w => w.elim (d b z) (d' b (.inl z)))
    have q : (fun b => f1 b ∨ f2 b ∨ g b) = fun b => (f1 b ∨ f2 b) ∨ g b := funext fun b => propext or_assoc.symm
    rw [q] at h
    exact h
mutual
theorem RO.frz (e : Same Hs Hs') (k : ∀ b vs, H b = some (.lst vs) → (Hs b = none → Hs' b = some (.lst vs))) : ∀ {v : V} {o : O} {f : Fp}, RO G Hs H v o f → RD G Hs' v (frz o)
  | _, _, _, .d r => r.mono e
  | _, _, _, .ls q n r => .lst (.of (k _ _ q n)) (r.mono e)
  | _, _, _, .nl q n r nf => .lst (.of (k _ _ q n)) (ROs.frz e k r)
theorem ROs.frz (e : Same Hs Hs') (k : ∀ b vs, H b = some (.lst vs) → (Hs b = none → Hs' b = some (.lst vs))) : ∀ {vs : List V} {os : List O} {f : Fp}, ROs G Hs H vs os f → RDs G Hs' vs (frzs os)
  | _, _, _, .nil => .nil
  | _, _, _, .cons r s _ => .cons (RO.frz e k r) (ROs.frz e k s)
end
/-- a view: all of the tree is there to be read, in H -/
theorem RO.view (e : Same Hs H) {v : V} {o : O} {f : Fp} (r : RO G Hs H v o f) : RD G H v (Dv.frz o) := RO.frz e (fun _ _ q _ => q) r
theorem ROs.view (e : Same Hs H) {vs : List V} {os : List O} {f : Fp} (r : ROs G Hs H vs os f) : RDs G H vs (frzs os) := ROs.frz e (fun _ _ q _ => q) r
/-- frozen: Hs with the tree's own objects -/
noncomputable def thaw (Hs H : Hp) (f : Fp) : Hp := fun b => open Classical in if f b then H b else Hs b
theorem thaw_in {f : Fp} {b : Addr} (h : f b) : thaw Hs H f b = H b := by
  unfold thaw
  rw [if_pos h]
theorem thaw_out {f : Fp} {b : Addr} (h : ¬ f b) : thaw Hs H f b = Hs b := by
  unfold thaw
  rw [if_neg h]
theorem thaw_same {f : Fp} (s : Same Hs H) : Same Hs (thaw Hs H f) := fun b o e => by
  by_cases h : f b
  · rw [thaw_in h]; exact s b o e
  · rw [thaw_out h]; exact e
theorem thaw_sub {f : Fp} (s : Same Hs H) : Same (thaw Hs H f) H := fun b o e => by
  by_cases h : f b
  · rw [thaw_in h] at e; exact e
  · rw [thaw_out h] at e; exact s b o e
theorem thaw_grow {f : Fp} {b : Addr} {o : HO} (e : thaw Hs H f b = some o) : Hs b = some o ∨ f b := by
  by_cases h : f b
  · exact .inr h
  · rw [thaw_out h] at e; exact .inl e
mutual
theorem RO.thaw' : ∀ {v : V} {o : O} {f g : Fp}, RO G Hs H v o f → Same Hs H → (∀ b, f b → g b) → RD G (thaw Hs H g) v (Dv.frz o)
  | _, _, _, _, .d r, s, _ => r.mono (thaw_same s)
  | _, _, _, _, .ls q n r, s, k => .lst (.of ((thaw_in (k _ rfl)).trans q)) (r.mono (thaw_same s))
  | _, _, _, _, .nl q n r nf, s, k => .lst (.of ((thaw_in (k _ (.inl rfl))).trans q)) (ROs.thaw' r s fun b hb => k b (.inr hb))
theorem ROs.thaw' : ∀ {vs : List V} {os : List O} {f g : Fp}, ROs G Hs H vs os f → Same Hs H → (∀ b, f b → g b) → RDs G (thaw Hs H g) vs (frzs os)
  | _, _, _, _, .nil, _, _ => .nil
  | _, _, _, _, .cons r t _, s, k => .cons (RO.thaw' r s fun b hb => k b (.inl hb)) (ROs.thaw' t s fun b hb => k b (.inr hb))
end
theorem RO.leafD {v : V} {o : O} {f : Fp} (h : O.own o = false) (r : RO G Hs H v o f) : ∃ x, o = .d x ∧ RD G Hs v x := by
  cases r with
  | d r => exact ⟨_, rfl, r⟩
  | ls => cases h
  | nl => cases h
theorem leaves_some : ∀ {os : List O} {xs : List D}, leaves os = some xs → os = xs.map O.d
  | [], xs, h => by
    cases h
    rfl
  | o :: r, xs, h => by
    unfold leaves at h
    cases ho : o.leaf? with
    | none => rw [ho] at h; cases h
    | some x =>
      cases hr : leaves r with
      | none => rw [ho, hr] at h; cases h
      | some ys =>
        rw [ho, hr] at h
        cases h
        have := leaves_some hr
        subst this
        cases o with
        | d y =>
          cases ho
          rfl
        | ls _ => cases ho
        | nl _ => cases ho
theorem ROs.leaf : ∀ {vs : List V} {xs : List D} {f : Fp}, ROs G Hs H vs (xs.map O.d) f → RDs G Hs vs xs ∧ ∀ b, ¬ f b
  | _, [], _, .nil => ⟨.nil, fun _ h => h⟩
  | _, x :: xs, _, .cons r s _ => by
    cases r with
    | d r =>
      obtain ⟨h1, h2⟩ := ROs.leaf s
      exact ⟨.cons r h1, fun b h => h.elim id (h2 b)⟩
/-- a footprint may be said otherwise -/
theorem RO.fp {v : V} {o : O} {f g : Fp} (r : RO G Hs H v o f) (e : ∀ b, f b ↔ g b) : RO G Hs H v o g := by
  have q : f = g := funext fun b => propext (e b)
  rw [← q]
  exact r
theorem ROs.fp {vs : List V} {os : List O} {f g : Fp} (r : ROs G Hs H vs os f) (e : ∀ b, f b ↔ g b) : ROs G Hs H vs os g := by
  have q : f = g := funext fun b => propext (e b)
  rw [← q]
  exact r
/-- a new list of trees -/
theorem RO.mkL {a : Addr} {vs : List V} {os : List O} {f : Fp} (e : H a = some (.lst vs)) (n : Hs a = none) (r : ROs G Hs H vs os f) (nf : ¬ f a) : RO G Hs H (.ref a) (Dv.mkL os) (fun b => b = a ∨ f b) := by
  unfold Dv.mkL
  cases h : leaves os with
  | some xs =>
    have := leaves_some h
    subst this
    obtain ⟨h1, h2⟩ := r.leaf
    exact (RO.ls e n h1).fp fun b => ⟨.inl, fun q => q.elim id fun z => (h2 b z).elim⟩
  | none => exact .nl e n r nf
end

/-! ### the slots -/
/-- the slots' trees: fp i the own objects of slot i's -/
structure Stt (G : Ct) (Hs H : Hp) (σ : L2.St) (ρ : Env) (fp : Nat → Fp) : Prop where
  sub : Same Hs H
  len : ρ.length ≤ σ.length
  slot : ∀ i o, rd ρ i = some o → ∃ v, σ[i]? = some (some v) ∧ RO G Hs H v o (fp i)
  emp : ∀ i b, fp i b → ∃ o, rd ρ i = some o
  dis : ∀ i j b, i ≠ j → fp i b → ¬ fp j b
/-- from one moment to a later one -/
structure Go (ro : Bool) (Hs H : Hp) (fp : Nat → Fp) (Hs' H' : Hp) (fp' : Nat → Fp) : Prop where
  ex : Same Hs Hs'
  frame : ∀ b o, H b = some o → (∀ i, ¬ fp i b) → H' b = some o
  orig : ∀ i b, fp' i b → (∃ j, fp j b) ∨ H b = none
  grow : ∀ b o, Hs' b = some o → Hs b = some o ∨ (∃ j, fp j b) ∨ H b = none
  quiet : ro = true → Same H H' ∧ fp' = fp
/-- what a value out of that may own -/
def Own (H : Hp) (fp fp' : Nat → Fp) (f : Fp) : Prop := ∀ b, f b → (∀ i, ¬ fp' i b) ∧ ((∃ j, fp j b) ∨ H b = none)
section
variable {G : Ct} {Hs Hs1 Hs2 H H1 H2 : Hp} {σ : L2.St} {ρ ρ1 ρ2 : Env} {fp fp1 fp2 : Nat → Fp} {ro ro' : Bool} {f g : Fp}
theorem Go.refl : Go ro Hs H fp Hs H fp := ⟨Same.refl _, fun _ _ h _ => h, fun i b h => .inl ⟨i, h⟩, fun _ _ h => .inl h, fun _ => ⟨Same.refl _, rfl⟩⟩
theorem Stt.own (s : Stt G Hs H σ ρ fp) {i : Nat} {b : Addr} (h : fp i b) : (∃ vs, H b = some (.lst vs)) ∧ Hs b = none := by
  obtain ⟨o, e⟩ := s.emp i b h
  obtain ⟨v, _, r⟩ := s.slot i o e
  exact r.at_ b h
theorem Go.trans (s1 : Stt G Hs1 H1 σ ρ1 fp1) (a : Go ro Hs H fp Hs1 H1 fp1) (b : Go ro' Hs1 H1 fp1 Hs2 H2 fp2) (hr : ro = true → ro' = true) : Go ro Hs H fp Hs2 H2 fp2 where
  ex := a.ex.trans b.ex
  frame := fun c o h n => by
    refine b.frame c o (a.frame c o h n) fun i hi => ?_
    rcases a.orig i c hi with ⟨j, hj⟩ | hn
    · exact n j hj
    · rw [h] at hn; cases hn
  orig := fun i c h => by
    rcases b.orig i c h with ⟨j, hj⟩ | hn
    · exact a.orig j c hj
    · cases q : H c with
      | none => exact .inr rfl
      | some o =>
        by_cases z : ∃ j, fp j c
        · exact .inl z
        · have := a.frame c o q fun j hj => z ⟨j, hj⟩
          rw [this] at hn
          cases hn
  grow := fun c o h => by
    rcases b.grow c o h with h1 | ⟨j, hj⟩ | hn
    · exact a.grow c o h1
    · exact .inr (a.orig j c hj)
    · cases q : H c with
      | none => exact .inr (.inr rfl)
      | some o =>
        by_cases z : ∃ j, fp j c
        · exact .inr (.inl z)
        · have := a.frame c o q fun j hj => z ⟨j, hj⟩
          rw [this] at hn
          cases hn
  quiet := fun h => by
    obtain ⟨a1, a2⟩ := a.quiet h
    obtain ⟨b1, b2⟩ := b.quiet (hr h)
    exact ⟨a1.trans b1, b2.trans a2⟩
theorem Go.weak (a : Go ro Hs H fp Hs1 H1 fp1) (h : ro' = true → ro = true) : Go ro' Hs H fp Hs1 H1 fp1 := ⟨a.ex, a.frame, a.orig, a.grow, fun e => a.quiet (h e)⟩
/-- a value held while something else goes on stays what it is -/
theorem RO.held {v : V} {o : O} (r : RO G Hs1 H1 v o f) (ow : ∀ b, f b → ∀ i, ¬ fp1 i b) (b : Go ro Hs1 H1 fp1 Hs2 H2 fp2) : RO G Hs2 H2 v o f := r.mono b.ex fun c hc => by
  obtain ⟨⟨vs, e⟩, n⟩ := r.at_ c hc
  refine ⟨(b.frame c _ e (ow c hc)).trans e.symm, ?_⟩
  cases q : Hs2 c with
  | none => rfl
  | some u =>
    rcases b.grow c u q with h1 | ⟨j, hj⟩ | hn
    · rw [n] at h1; cases h1
    · exact (ow c hc j hj).elim
    · rw [e] at hn; cases hn
theorem ROs.held {vs : List V} {os : List O} (r : ROs G Hs1 H1 vs os f) (ow : ∀ b, f b → ∀ i, ¬ fp1 i b) (b : Go ro Hs1 H1 fp1 Hs2 H2 fp2) : ROs G Hs2 H2 vs os f := r.mono b.ex fun c hc => by
  obtain ⟨⟨us, e⟩, n⟩ := r.at_ c hc
  refine ⟨(b.frame c _ e (ow c hc)).trans e.symm, ?_⟩
  cases q : Hs2 c with
  | none => rfl
  | some u =>
    rcases b.grow c u q with h1 | ⟨j, hj⟩ | hn
    · rw [n] at h1; cases h1
    · exact (ow c hc j hj).elim
    · rw [e] at hn; cases hn
/-- what is owned stays apart -/
theorem Own.held (r : RO G Hs1 H1 v o f) (ow : Own H fp fp1 f) (b : Go ro Hs1 H1 fp1 Hs2 H2 fp2) : Own H fp fp2 f := fun c hc => by
  obtain ⟨n, h⟩ := ow c hc
  refine ⟨fun i hi => ?_, h⟩
  obtain ⟨⟨vs, e⟩, _⟩ := r.at_ c hc
  rcases b.orig i c hi with ⟨j, hj⟩ | hn
  · exact n j hj
  · rw [e] at hn; cases hn
theorem Owns.held {vs : List V} {os : List O} (r : ROs G Hs1 H1 vs os f) (ow : Own H fp fp1 f) (b : Go ro Hs1 H1 fp1 Hs2 H2 fp2) : Own H fp fp2 f := fun c hc => by
  obtain ⟨n, h⟩ := ow c hc
  refine ⟨fun i hi => ?_, h⟩
  obtain ⟨⟨us, e⟩, _⟩ := r.at_ c hc
  rcases b.orig i c hi with ⟨j, hj⟩ | hn
  · exact n j hj
  · rw [e] at hn; cases hn
/-- an origin seen from an earlier moment -/
theorem Go.from (a : Go ro Hs H fp Hs1 H1 fp1) {c : Addr} (h : (∃ j, fp1 j c) ∨ H1 c = none) : (∃ j, fp j c) ∨ H c = none := by
  rcases h with ⟨j, hj⟩ | hn
  · exact a.orig j c hj
  · cases q : H c with
    | none => exact .inr rfl
    | some o =>
      by_cases z : ∃ j, fp j c
      · exact .inl z
      · have := a.frame c o q fun j hj => z ⟨j, hj⟩
        rw [this] at hn
        cases hn
theorem Own.from (a : Go ro Hs H fp Hs1 H1 fp1) (ow : Own H1 fp1 fp2 f) : Own H fp fp2 f := fun c hc => ⟨(ow c hc).1, a.from (ow c hc).2⟩
end
end Dv
set_option Elab.async false
set_option linter.all false
set_option maxRecDepth 100000
/-! Part C1: the operations by data. -/
namespace Dv
open PySem PySem.Spec PyProof.Rows L2

/-- H, Hs grow by new objects -/
structure Xt (Hs H Hs' H' : Hp) : Prop where
  ex : Same Hs Hs'
  all : Same H H'
  sub : Same Hs' H'
  grow : ∀ b u, Hs' b = some u → Hs b = some u ∨ H b = none
/-- what is wished of any value that stands for o, behind new objects -/
def Res (G : Ct) (Hs H : Hp) (o : O) (Q : VK) : Prop := ∀ v Hs' H' f, Xt Hs H Hs' H' → RO G Hs' H' v o f → (∀ b, f b → H b = none) → Q v H'
section
variable {G : Ct} {Hs H : Hp} {Q : VK} {p : Addr} {o : HO}
theorem Xt.refl (s : Same Hs H) : Xt Hs H Hs H := ⟨Same.refl _, Same.refl _, s, fun _ _ h => .inl h⟩
theorem same_new (h : H p = none) : Same H (L2.upd H p o) := fun b u e => by
  rw [upd_ne (ne_of_none e h)]
  exact e
theorem none_sub (s : Same Hs H) (h : H p = none) : Hs p = none := by
  cases q : Hs p with
  | none => rfl
  | some u => rw [s p u q] at h; cases h
/-- a new object, not shared -/
theorem Xt.own (s : Same Hs H) (h : H p = none) : Xt Hs H Hs (L2.upd H p o) := ⟨Same.refl _, same_new h, s.trans (same_new h), fun _ _ e => .inl e⟩
/-- a new object, frozen at once -/
theorem Xt.new (s : Same Hs H) (h : H p = none) : Xt Hs H (L2.upd Hs p o) (L2.upd H p o) := by
  refine ⟨same_new (none_sub s h), same_new h, fun b u e => ?_, fun b u e => ?_⟩
  · by_cases hb : b = p
    · subst hb; rw [upd_same] at e ⊢; exact e
    · rw [upd_ne hb] at e ⊢; exact s b u e
  · by_cases hb : b = p
    · subst hb; exact .inr h
    · rw [upd_ne hb] at e; exact .inl e
theorem Res.d {v : V} {x : D} (r : Res G Hs H (.d x) Q) (s : Same Hs H) (h : RD G Hs v x) : Q v H := r v Hs H _ (Xt.refl s) (.d h) fun _ z => z.elim
theorem Res.lst {vs : List V} {xs : List D} (r : Res G Hs H (.ls xs) Q) (s : Same Hs H) (h : RDs G Hs vs xs) (hp : H p = none) : Q (.ref p) (L2.upd H p (.lst vs)) :=
  r _ _ _ _ (Xt.own s hp) (.ls upd_same (none_sub s hp) h) fun b hb => by cases hb; exact hp
theorem Res.tup {vs : List V} {xs : List D} (r : Res G Hs H (.d (.tuple xs)) Q) (s : Same Hs H) (h : RDs G Hs vs xs) (hp : H p = none) : Q (.ref p) (L2.upd H p (.tup vs)) :=
  r _ _ _ _ (Xt.new s hp) (.d (.tup (.inl (.inl upd_same)) (h.mono (same_new (none_sub s hp))))) fun _ z => z.elim

/-! ### views -/
variable {v : V} {ov : O} {f : Fp} {xs : List D}
theorem asL_view (s : Same Hs H) (r : RO G Hs H v ov f) (h : asL ov = some xs) : ∃ a vs, v = .ref a ∧ SqL G.K H a vs ∧ RDs G Hs vs xs := by
  cases r with
  | @d _ x r =>
    cases r with
    | lst q t => cases h; exact ⟨_, _, rfl, s.seq q, t⟩
    | _ => cases h
  | ls e n t => cases h; exact ⟨_, _, rfl, .of e, t⟩
  | nl => cases h
theorem asT_view (s : Same Hs H) (r : RO G Hs H v ov f) (h : asT ov = some xs) : ∃ a vs, v = .ref a ∧ SqT G.K H a vs ∧ RDs G Hs vs xs := by
  cases r with
  | @d _ x r =>
    cases r with
    | tup q t => cases h; exact ⟨_, _, rfl, seqT s q, t⟩
    | _ => cases h
  | ls e n t => cases h
  | nl => cases h
theorem asQ_view (s : Same Hs H) (r : RO G Hs H v ov f) (h : asQ ov = some xs) : ∃ a vs, v = .ref a ∧ (SqL G.K H a vs ∨ SqT G.K H a vs) ∧ RDs G Hs vs xs := by
  cases r with
  | @d _ x r =>
    cases r with
    | lst q t => cases h; exact ⟨_, _, rfl, .inl (s.seq q), t⟩
    | tup q t => cases h; exact ⟨_, _, rfl, .inr (seqT s q), t⟩
    | _ => cases h
  | ls e n t => cases h; exact ⟨_, _, rfl, .inl (.of e), t⟩
  | nl => cases h
theorem asI_view {i : Int} (r : RO G Hs H v ov f) (h : asI ov = some i) : v = .int i := by
  cases r with
  | @d _ x r =>
    cases r with
    | int j => cases h; rfl
    | _ => cases h
  | ls => cases h
  | nl => cases h
theorem asB_view {i : Bool} (r : RO G Hs H v ov f) (h : asB ov = some i) : v = .bl i := by
  cases r with
  | @d _ x r =>
    cases r with
    | bl j => cases h; rfl
    | _ => cases h
  | ls => cases h
  | nl => cases h
theorem RO.int {i : Int} (r : RO G Hs H v (.d (.int i)) f) : v = .int i := asI_view r rfl
theorem RO.strV {x : Str} (r : RO G Hs H v (.d (.str x)) f) : v = .str x := by
  cases r with
  | d r => cases r; rfl
theorem RO.tupV (s : Same Hs H) (r : RO G Hs H v (.d (.tuple xs)) f) : ∃ a vs, v = .ref a ∧ SqT G.K H a vs ∧ RDs G Hs vs xs := asT_view s r rfl
theorem guardO_some {b : Bool} {o o' : O} (h : guardO b o = some o') : b = true ∧ o = o' := by
  unfold guardO at h
  by_cases hb : b = true
  · rw [if_pos hb] at h; cases h; exact ⟨hb, rfl⟩
  · rw [if_neg hb] at h; cases h
theorem fits_le {n : Nat} (h : fits n = true) : n ≤ sizeLine := of_decide_eq_true h
end
abbrev ct (X : Cx) (fa : Nat → Addr) : Ct := ⟨X.K, fa⟩

/-! ### two operands -/
/-- an operation on two views that gives a value -/
def r2 (G : Ct) (F : O → O → Option O) : R2 := fun x y H Q => ∃ Hs ox oy fx fy o, Same Hs H ∧ RO G Hs H x ox fx ∧ RO G Hs H y oy fy ∧ F ox oy = some o ∧ Res G Hs H o Q
section
variable {X : Cx} {fa : Nat → Addr}
/-- list + list, any lists -/
theorem op_catL : OpR X (binaryOp .Add) (fun x y H Q => ∃ a b xs ys, x = .ref a ∧ y = .ref b ∧ SqL X.K H a xs ∧ SqL X.K H b ys ∧ xs.length + ys.length ≤ sizeLine ∧ ∀ p, H p = none → Q (.ref p) (L2.upd H p (.lst (xs ++ ys)))) := by
  intro pins s σ H x y v u Q I rx ry h
  obtain ⟨a, b, xs, ys, rfl, rfl, hx, hy, hz, q⟩ := h
  cases rx
  cases ry
  obtain ⟨its, r1, ⟨⟨c1, d1, dt1, sl1⟩, n1, e1, hc1, hd1, ha1⟩, _⟩ := I.list hx
  obtain ⟨its2, r2, ⟨⟨c2, d2, dt2, sl2⟩, n2, e2, hc2, hd2, ha2⟩, _⟩ := I.list hy
  simp only at hc1 hd1 ha1 hc2 hd2 ha2
  subst hc1 hd1 ha1 hc2 hd2 ha2
  have hsz : its.toArray.size + its2.toArray.size ≤ sizeLine := by
    rw [List.size_toArray, List.size_toArray, ← r1.length, ← r2.length]
    exact hz
  refine concat_meets ⟨_, e1, rfl⟩ ⟨_, e2, rfl⟩ noFill_list_add seq_list_add PySem.F.slot_list_add PySem.F.entry_list_add (PySem.F.args_list_add_2 _ _)
    (list_addW a b its.toArray its2.toArray n1 n2 none none sl1 sl2 hsz) ⟨e1, e2, ?_⟩
  have ea : its.toArray ++ its2.toArray = (its ++ its2).toArray := by simp
  rw [ea]
  exact ⟨.ref _, _, I.lnew (t' := s.toks) (r1.append r2) (by rw [List.length_append]; exact hz), rfl, q _ I.fresh⟩
def opP : Op → Operator
  | .add => .Add
  | .sub => .Sub
  | .mul => .Mult
  | .mod => .Mod
  | .fdiv => .FloorDiv
  | .pow => .Pow
theorem addD_some {ox oy o : O} (h : addD ox oy = some o) : (∃ i j, ox = .d (.int i) ∧ oy = .d (.int j) ∧ o = .d (.int (i + j))) ∨
    (∃ a b, ox = .d (.str a) ∧ oy = .d (.str b) ∧ a.length + b.length ≤ sizeLine ∧ o = .d (.str (a ++ b))) ∨
    (∃ xs ys, ox = .d (.tuple xs) ∧ oy = .d (.tuple ys) ∧ xs.length + ys.length ≤ sizeLine ∧ o = .d (.tuple (xs ++ ys))) := by
  unfold addD at h
  split at h
  · cases h
    exact .inl ⟨_, _, rfl, rfl, rfl⟩
  · obtain ⟨h1, h2⟩ := guardO_some h
    exact .inr (.inl ⟨_, _, rfl, rfl, fits_le h1, h2.symm⟩)
  · obtain ⟨h1, h2⟩ := guardO_some h
    exact .inr (.inr ⟨_, _, rfl, rfl, fits_le h1, h2.symm⟩)
  · cases h
theorem addL_some {ox oy o : O} (h : addL ox oy = some o) : ∃ xs ys, asL ox = some xs ∧ asL oy = some ys ∧ xs.length + ys.length ≤ sizeLine ∧ o = .ls (xs ++ ys) := by
  unfold addL at h
  split at h
  · rename_i e1 e2
    obtain ⟨h1, h2⟩ := guardO_some h
    exact ⟨_, _, e1, e2, fits_le h1, h2.symm⟩
  · cases h
theorem bin_add {ox oy o : O} (h : bin .add ox oy = some o) : (∃ i j, ox = .d (.int i) ∧ oy = .d (.int j) ∧ o = .d (.int (i + j))) ∨
    (∃ a b, ox = .d (.str a) ∧ oy = .d (.str b) ∧ a.length + b.length ≤ sizeLine ∧ o = .d (.str (a ++ b))) ∨
    (∃ xs ys, ox = .d (.tuple xs) ∧ oy = .d (.tuple ys) ∧ xs.length + ys.length ≤ sizeLine ∧ o = .d (.tuple (xs ++ ys))) ∨
    (∃ xs ys, asL ox = some xs ∧ asL oy = some ys ∧ xs.length + ys.length ≤ sizeLine ∧ o = .ls (xs ++ ys)) := by
  have h' : (match addD ox oy with
    | some o => some o
    | none => addL ox oy) = some o := h
  cases e : addD ox oy with
  | some z =>
    rw [e] at h'
    cases h'
    rcases addD_some e with h | h | h
    · exact .inl h
    · exact .inr (.inl h)
    · exact .inr (.inr (.inl h))
  | none =>
    rw [e] at h'
    exact .inr (.inr (.inr (addL_some h')))
theorem op_add : OpR X (binaryOp .Add) (r2 (ct X fa) (bin .add)) := by
  intro pins s σ H x y v u Q I rx ry h
  obtain ⟨Hs, ox, oy, fx, fy, o, sb, hx, hy, hb, q⟩ := h
  rcases bin_add hb with ⟨i, j, rfl, rfl, rfl⟩ | ⟨a, b, rfl, rfl, hz, rfl⟩ | ⟨xs, ys, rfl, rfl, hz, rfl⟩ | ⟨xs, ys, h1, h2, hz, rfl⟩
  · rw [hx.int] at rx
    rw [hy.int] at ry
    exact L2.op_add pins s σ H _ _ v u Q I rx ry ⟨i, j, rfl, rfl, q.d sb (.int _)⟩
  · rw [hx.strV] at rx
    rw [hy.strV] at ry
    exact op_add_str pins s σ H _ _ v u Q I rx ry ⟨a, b, rfl, rfl, hz, q.d sb (.str _)⟩
  · obtain ⟨p1, vs, rfl, q1, t1⟩ := hx.tupV sb
    obtain ⟨p2, us, rfl, q2, t2⟩ := hy.tupV sb
    refine op_catA pins s σ H _ _ v u Q I rx ry ⟨p1, p2, vs, us, rfl, rfl, q1, q2, by rw [t1.length, t2.length]; exact hz, fun e => ?_, fun _ e => ?_, fun _ _ p hp => q.tup sb (t1.append t2) hp⟩
    · subst e
      cases t1
      cases hy with
      | d r => exact q.d sb r
    · subst e
      cases t2
      rw [List.append_nil] at q
      cases hx with
      | d r => exact q.d sb r
  · obtain ⟨p1, vs, rfl, q1, t1⟩ := asL_view sb hx h1
    obtain ⟨p2, us, rfl, q2, t2⟩ := asL_view sb hy h2
    exact op_catL pins s σ H _ _ v u Q I rx ry ⟨p1, p2, vs, us, rfl, rfl, q1, q2, by rw [t1.length, t2.length]; exact hz, fun p hp => q.lst sb (t1.append t2) hp⟩
/-- the other operations are of two ints -/
theorem int2_some {a b o : O} {F : Int → Int → Option O} (h : int2 a b F = some o) : ∃ i j, a = .d (.int i) ∧ b = .d (.int j) ∧ F i j = some o := by
  unfold int2 at h
  have aI : ∀ {z : O} {k : Int}, asI z = some k → z = .d (.int k) := fun {z k} e => by
    unfold asI at e
    split at e
    · cases e; rfl
    · cases e
  split at h
  · rename_i e1 e2
    exact ⟨_, _, aI e1, aI e2, h⟩
  · cases h
theorem op_bin (op : Op) : OpR X (binaryOp (opP op)) (r2 (ct X fa) (bin op)) := by
  cases op with
  | add => exact op_add
  | sub =>
    intro pins s σ H x y v u Q I rx ry ⟨Hs, ox, oy, fx, fy, o, sb, hx, hy, hb, q⟩
    obtain ⟨i, j, rfl, rfl, e⟩ := int2_some hb
    cases e
    rw [hx.int] at rx
    rw [hy.int] at ry
    exact op_sub pins s σ H _ _ v u Q I rx ry ⟨i, j, rfl, rfl, q.d sb (.int _)⟩
  | mul =>
    intro pins s σ H x y v u Q I rx ry ⟨Hs, ox, oy, fx, fy, o, sb, hx, hy, hb, q⟩
    obtain ⟨i, j, rfl, rfl, e⟩ := int2_some hb
    obtain ⟨h1, rfl⟩ := guardO_some e
    have h2 := of_decide_eq_true h1
    rw [hx.int] at rx
    rw [hy.int] at ry
    exact op_mul pins s σ H _ _ v u Q I rx ry ⟨i, j, rfl, rfl, h2, q.d sb (.int _)⟩
  | mod =>
    intro pins s σ H x y v u Q I rx ry ⟨Hs, ox, oy, fx, fy, o, sb, hx, hy, hb, q⟩
    obtain ⟨i, j, rfl, rfl, e⟩ := int2_some hb
    obtain ⟨h1, rfl⟩ := guardO_some e
    have h2 := of_decide_eq_true h1
    rw [hx.int] at rx
    rw [hy.int] at ry
    exact op_modN pins s σ H _ _ v u Q I rx ry ⟨i, j, rfl, rfl, h2, q.d sb (.int _)⟩
  | fdiv =>
    intro pins s σ H x y v u Q I rx ry ⟨Hs, ox, oy, fx, fy, o, sb, hx, hy, hb, q⟩
    obtain ⟨i, j, rfl, rfl, e⟩ := int2_some hb
    obtain ⟨h1, rfl⟩ := guardO_some e
    have h2 := of_decide_eq_true h1
    rw [hx.int] at rx
    rw [hy.int] at ry
    exact op_fdivN pins s σ H _ _ v u Q I rx ry ⟨i, j, rfl, rfl, h2, q.d sb (.int _)⟩
  | pow =>
    intro pins s σ H x y v u Q I rx ry ⟨Hs, ox, oy, fx, fy, o, sb, hx, hy, hb, q⟩
    obtain ⟨i, j, rfl, rfl, e⟩ := int2_some hb
    obtain ⟨h1, rfl⟩ := guardO_some e
    have h2 := of_decide_eq_true h1
    rw [hx.int] at rx
    rw [hy.int] at ry
    exact op_pow pins s σ H _ _ v u Q I rx ry ⟨i, j, rfl, rfl, h2, q.d sb (.int _)⟩

/-! ### comparisons -/
def cmP : Cm → CmpOp
  | .eq => .Eq
  | .ne => .NotEq
  | .lt => .Lt
  | .le => .LtE
  | .gt => .Gt
  | .ge => .GtE
  | .in_ => .In
  | .nin => .NotIn
  | .is_ => .Is
  | .isn => .IsNot
/-- a comparison of two views -/
def rC (G : Ct) (op : Cm) : R2 := fun x y H Q => ∃ dx dy b, RD G H x dx ∧ RD G H y dy ∧ cmp op dx dy = some b ∧ Q (.bl b) H
mutual
theorem RD.dp {G : Ct} {H : Hp} : ∀ {v : V} {x : D}, RD G H v x → x.canLay0 = true → Dp G.K H v x
  | _, _, .non, _ => .non
  | _, _, .bl b, _ => .bl b
  | _, _, .int i, _ => .int i
  | _, _, .str x, _ => .str x
  | _, _, .lst h r, e => .lst h (RDs.dp r (by simpa only [PyData.canLay0] using e))
  | _, _, .tup h r, e => .tup h (RDs.dp r (by simpa only [PyData.canLay0] using e))
  | _, _, .fn f, e => by simp [PyData.canLay0] at e
theorem RDs.dp {G : Ct} {H : Hp} : ∀ {vs : List V} {xs : List D}, RDs G H vs xs → PyData.canLayAll0 xs = true → DpAll G.K H vs xs
  | _, _, .nil, _ => .nil
  | _, _, .cons h r, e => by
    simp only [PyData.canLayAll0, Bool.and_eq_true] at e
    exact .cons (RD.dp h e.1) (RDs.dp r e.2)
end
theorem lay_of {x : D} (h : SeqAt.shaped x = true) : x.canLay0 = true := SeqAt.canLay_of_shaped h
theorem eqD_some {x y : D} {b : Bool} (h : eqD x y = some b) : b = PyData.eqv x y ∧ (scal x y = true ∨ (SeqAt.shaped x = true ∧ SeqAt.shaped y = true)) := by
  unfold eqD at h
  by_cases hc : (scal x y || (SeqAt.shaped x && SeqAt.shaped y)) = true
  · rw [if_pos hc] at h
    cases h
    rcases Bool.or_eq_true_iff.mp hc with e | e
    · exact ⟨rfl, .inl e⟩
    · exact ⟨rfl, .inr (Bool.and_eq_true_iff.mp e)⟩
  · rw [if_neg hc] at h; cases h
/-- two plain values of one kind -/
theorem scal_view {G : Ct} {H : Hp} {v u : V} {x y : D} (hx : RD G H v x) (hy : RD G H u y) (h : Dv.scal x y = true) : L2.scal v u = true ∧ PyData.eqv x y = decide (v = u) := by
  cases hx with
  | int i =>
    cases hy with
    | int j => exact ⟨rfl, by simp only [PyData.eqv]; exact L2.dec_int.symm⟩
    | _ => cases h
  | bl i =>
    cases hy with
    | bl j => exact ⟨rfl, by simp only [PyData.eqv]; exact L2.dec_bl.symm⟩
    | _ => cases h
  | str i =>
    cases hy with
    | str j => exact ⟨rfl, by simp only [PyData.eqv]; exact L2.dec_str.symm⟩
    | _ => cases h
  | _ => cases hy <;> cases h
theorem flat_view {G : Ct} {H : Hp} {v : V} {x : D} (hx : RD G H v x) (h : flatD x = true) : flatV v = true := by
  cases hx <;> first | rfl | cases h
theorem flats_view {G : Ct} {H : Hp} : ∀ {vs : List V} {xs : List D}, RDs G H vs xs → xs.all flatD = true → vs.all flatV = true
  | _, _, .nil, _ => rfl
  | _, _, .cons h r, e => by
    simp only [List.all_cons, Bool.and_eq_true] at e ⊢
    exact ⟨flat_view h e.1, flats_view r e.2⟩
theorem flat_eq {G : Ct} {H : Hp} {v u : V} {x y : D} (hx : RD G H v x) (hy : RD G H u y) (fx : flatD x = true) (fy : flatD y = true) : eqV v u = PyData.eqv x y := by
  cases hx <;> first | (cases fx; done) | skip
  all_goals (cases hy <;> first | (cases fy; done) | skip)
  all_goals first
    | rfl
    | (simp only [PyData.eqv]; rfl)
    | skip
  all_goals simp [eqV, PyData.eqv]
theorem inV_eq {G : Ct} {H : Hp} {v : V} {x : D} (hx : RD G H v x) (fx : flatD x = true) : ∀ {vs : List V} {xs : List D}, RDs G H vs xs → xs.all flatD = true → inV v vs = xs.any fun y => PyData.eqv y x
  | _, _, .nil, _ => rfl
  | _, _, .cons h r, e => by
    simp only [List.all_cons, Bool.and_eq_true] at e
    have ih := inV_eq hx fx r e.2
    unfold inV at ih ⊢
    rw [List.any_cons, List.any_cons, ih, flat_eq h hx e.1 fx]
end

section
variable {X : Cx} {fa : Nat → Addr}
theorem eq_rule (hu : X.A.units + 64 < cLine) {pins : List (Addr × Obj)} {s : Shared} {σ : L2.St} {H : Hp} {x y : V} {v u : Value} {Q : VK} (I : L2.Inv X pins σ H s) (rx : L2.RelV x v) (ry : L2.RelV y u) {dx dy : D} {b : Bool}
    (hx : RD (ct X fa) H x dx) (hy : RD (ct X fa) H y dy) (h : eqD dx dy = some b) (q : Q (.bl b) H) : wpAny (model X.prog X.w) X.A (compareOp .Eq v u) (L2.EP X pins σ Q) X.xe s := by
  obtain ⟨rfl, h | ⟨h1, h2⟩⟩ := eqD_some h
  · obtain ⟨e1, e2⟩ := scal_view hx hy h
    rw [e2] at q
    exact op_eq pins s σ H x y v u Q I rx ry ⟨e1, q⟩
  · exact op_eqD hu pins s σ H x y v u Q I rx ry ⟨dx, dy, hx.dp (lay_of h1), hy.dp (lay_of h2), h1, h2, q⟩
theorem ne_rule (hu : X.A.units + 64 < cLine) {pins : List (Addr × Obj)} {s : Shared} {σ : L2.St} {H : Hp} {x y : V} {v u : Value} {Q : VK} (I : L2.Inv X pins σ H s) (rx : L2.RelV x v) (ry : L2.RelV y u) {dx dy : D} {b : Bool}
    (hx : RD (ct X fa) H x dx) (hy : RD (ct X fa) H y dy) (h : eqD dx dy = some b) (q : Q (.bl (!b)) H) : wpAny (model X.prog X.w) X.A (compareOp .NotEq v u) (L2.EP X pins σ Q) X.xe s := by
  obtain ⟨rfl, h | ⟨h1, h2⟩⟩ := eqD_some h
  · obtain ⟨e1, e2⟩ := scal_view hx hy h
    rw [e2] at q
    exact op_ne pins s σ H x y v u Q I rx ry ⟨e1, q⟩
  · exact op_neD hu pins s σ H x y v u Q I rx ry ⟨dx, dy, hx.dp (lay_of h1), hy.dp (lay_of h2), h1, h2, q⟩
theorem inD_some {x y : D} {b : Bool} (h : inD x y = some b) : (∃ ys, (y = .list ys ∨ y = .tuple ys) ∧ flatD x = true ∧ ys.all flatD = true ∧ b = ys.any fun z => PyData.eqv z x) ∨
    (∃ ys, y = .list ys ∧ SeqAt.shaped x = true ∧ SeqAt.shaped (.list ys) = true ∧ b = ys.any fun z => PyData.eqv z x) := by
  unfold inD at h
  split at h
  · split at h
    · rename_i hc
      obtain ⟨h1, h2⟩ := Bool.and_eq_true_iff.mp hc
      cases h
      exact .inl ⟨_, .inl rfl, h1, h2, rfl⟩
    · split at h
      · rename_i hc
        obtain ⟨h1, h2⟩ := Bool.and_eq_true_iff.mp hc
        cases h
        exact .inr ⟨_, rfl, h1, h2, rfl⟩
      · cases h
  · split at h
    · rename_i hc
      obtain ⟨h1, h2⟩ := Bool.and_eq_true_iff.mp hc
      cases h
      exact .inl ⟨_, .inr rfl, h1, h2, rfl⟩
    · cases h
  · cases h
theorem map_not {o : Option Bool} {b : Bool} (h : o.map (!·) = some b) : o = some (!b) := by
  cases o with
  | none => cases h
  | some c =>
    have e : (!c) = b := Option.some.inj h
    rw [← e, Bool.not_not]
theorem op_cmp (hu : X.A.units + 65 < cLine) (op : Cm) : OpR X (compareOp (cmP op)) (rC (ct X fa) op) := by
  have hu' : X.A.units + 64 < cLine := by omega
  intro pins s σ H x y v u Q I rx ry ⟨dx, dy, b, hx, hy, hc, q⟩
  cases op with
  | eq => exact eq_rule hu' I rx ry hx hy hc q
  | ne =>
    have e := map_not hc
    exact ne_rule hu' I rx ry hx hy e (by rw [Bool.not_not]; exact q)
  | lt =>
    have h : ltD dx dy = some b := hc
    unfold ltD at h
    split at h
    · cases h
      cases hx
      cases hy
      exact op_lt pins s σ H _ _ v u Q I rx ry ⟨_, _, rfl, rfl, q⟩
    · cases h
      cases hx
      cases hy
      exact op_lt_str pins s σ H _ _ v u Q I rx ry ⟨_, _, rfl, rfl, q⟩
    · cases h
  | gt =>
    have h : ltD dy dx = some b := hc
    unfold ltD at h
    split at h
    · cases h
      cases hx
      cases hy
      exact op_gt pins s σ H _ _ v u Q I rx ry ⟨_, _, rfl, rfl, q⟩
    · cases h
      cases hx
      cases hy
      exact op_gt_str pins s σ H _ _ v u Q I rx ry ⟨_, _, rfl, rfl, q⟩
    · cases h
  | le =>
    have h : leD dx dy = some b := hc
    unfold leD at h
    split at h
    · cases h
      cases hx
      cases hy
      exact op_le pins s σ H _ _ v u Q I rx ry ⟨_, _, rfl, rfl, q⟩
    · cases h
  | ge =>
    have h : leD dy dx = some b := hc
    unfold leD at h
    split at h
    · cases h
      cases hx
      cases hy
      exact op_ge pins s σ H _ _ v u Q I rx ry ⟨_, _, rfl, rfl, q⟩
    · cases h
  | in_ =>
    rcases inD_some hc with ⟨ys, e, f1, f2, rfl⟩ | ⟨ys, rfl, f1, f2, rfl⟩
    · have key : ∃ p vs, y = .ref p ∧ (SqL X.K H p vs ∨ SqT X.K H p vs) ∧ RDs (ct X fa) H vs ys := by
        rcases e with rfl | rfl
        · cases hy with
          | lst h r => exact ⟨_, _, rfl, .inl h, r⟩
        · cases hy with
          | tup h r => exact ⟨_, _, rfl, .inr h, r⟩
      obtain ⟨p, vs, rfl, hq, r⟩ := key
      refine op_in_seq pins s σ H _ _ v u Q I rx ry ⟨p, vs, rfl, hq, flat_view hx f1, flats_view r f2, ?_⟩
      show Q (.bl (inV x vs)) H
      rw [inV_eq hx f1 r f2]
      exact q
    · exact op_inD hu pins s σ H _ _ v u Q I rx ry ⟨dx, ys, hx.dp (lay_of f1), hy.dp (lay_of f2), f1, f2, q⟩
  | nin =>
    have hc' := map_not hc
    rcases inD_some hc' with ⟨ys, e, f1, f2, e2⟩ | ⟨ys, rfl, f1, f2, e2⟩
    · have key : ∃ p vs, y = .ref p ∧ (SqL X.K H p vs ∨ SqT X.K H p vs) ∧ RDs (ct X fa) H vs ys := by
        rcases e with rfl | rfl
        · cases hy with
          | lst h r => exact ⟨_, _, rfl, .inl h, r⟩
        · cases hy with
          | tup h r => exact ⟨_, _, rfl, .inr h, r⟩
      obtain ⟨p, vs, rfl, hq, r⟩ := key
      refine op_notIn_seq pins s σ H _ _ v u Q I rx ry ⟨p, vs, rfl, hq, flat_view hx f1, flats_view r f2, ?_⟩
      show Q (.bl (!inV x vs)) H
      rw [inV_eq hx f1 r f2, ← e2, Bool.not_not]
      exact q
    · exact op_notInD hu pins s σ H _ _ v u Q I rx ry ⟨dx, ys, hx.dp (lay_of f1), hy.dp (lay_of f2), f1, f2, by rw [← e2, Bool.not_not]; exact q⟩
  | is_ =>
    have h : isD dx dy = some b := hc
    unfold isD at h
    split at h
    · cases h
      cases hy
      refine op_isN pins s σ H _ _ v u Q I rx ry ⟨rfl, ?_⟩
      have e : decide (x = V.non) = noneD dx := by cases hx <;> rfl
      rw [e]
      exact q
    · cases h
      cases hx
      cases hy
      exact op_isBl pins s σ H _ _ v u Q I rx ry ⟨_, _, rfl, rfl, by rw [← Bool.beq_eq_decide_eq]; exact q⟩
    · cases h
  | isn =>
    have h : isD dx dy = some (!b) := map_not hc
    unfold isD at h
    split at h
    · have e0 := Option.some.inj h
      cases hy
      refine op_notN pins s σ H _ _ v u Q I rx ry ⟨rfl, ?_⟩
      have e : decide (x = V.non) = noneD dx := by cases hx <;> rfl
      rw [e, e0, Bool.not_not]
      exact q
    · have e0 := Option.some.inj h
      cases hx
      cases hy
      exact op_notBl pins s σ H _ _ v u Q I rx ry ⟨_, _, rfl, rfl, by rw [← Bool.beq_eq_decide_eq, e0, Bool.not_not]; exact q⟩
    · cases h
end
end Dv
set_option Elab.async false
set_option linter.all false
set_option maxRecDepth 100000
/-! Part C2: items, slices, truth, built-ins by data. -/
namespace Dv
open PySem PySem.Spec PyProof.Rows L2

section
variable {G : Ct} {Hs H : Hp}
theorem RDs.atI {vs : List V} {xs : List D} {i : Int} {x : D} (r : RDs G Hs vs xs) (h : L2.atI xs i = some x) : ∃ v, L2.atI vs i = some v ∧ RD G Hs v x := by
  unfold L2.atI at h ⊢
  rw [r.length]
  cases e : L2.ixN xs.length i with
  | none => rw [e] at h; cases h
  | some j =>
    rw [e] at h
    exact r.get h
theorem ROs.get : ∀ {vs : List V} {os : List O} {f : Fp} {i : Nat} {o : O}, ROs G Hs H vs os f → os[i]? = some o → ∃ v g, vs[i]? = some v ∧ RO G Hs H v o g ∧ ∀ b, g b → f b
  | _, _, _, _, _, .nil, e => by cases e
  | _, _, _, 0, o, .cons r _ _, e => ⟨_, _, rfl, by rw [← Option.some.inj e]; exact r, fun b h => .inl h⟩
  | _, _, _, i + 1, o, .cons _ t _, e => by
    obtain ⟨v, g, h1, h2, h3⟩ := ROs.get t (i := i) e
    exact ⟨v, g, h1, h2, fun b h => .inr (h3 b h)⟩
theorem ROs.atI {vs : List V} {os : List O} {f : Fp} {i : Int} {o : O} (r : ROs G Hs H vs os f) (h : L2.atI os i = some o) : ∃ v g, L2.atI vs i = some v ∧ RO G Hs H v o g ∧ ∀ b, g b → f b := by
  unfold L2.atI at h ⊢
  rw [r.length]
  cases e : L2.ixN os.length i with
  | none => rw [e] at h; cases h
  | some j =>
    rw [e] at h
    exact r.get h
end
theorem item_some {ox oy : O} {z : Bool × O} (h : item ox oy = some z) : (∃ xs i x, asL ox = some xs ∧ oy = .d (.int i) ∧ L2.atI xs i = some x ∧ z = (false, .d x)) ∨
    (∃ xs i x, asT ox = some xs ∧ oy = .d (.int i) ∧ L2.atI xs i = some x ∧ z = (false, .d x)) ∨
    (∃ x i c, ox = .d (.str x) ∧ oy = .d (.int i) ∧ x.length ≤ sizeLine ∧ L2.atI x.cps.toList i = some c ∧ z = (false, .d (.str ⟨#[c]⟩))) ∨
    (∃ os i o, ox = .nl os ∧ oy = .d (.int i) ∧ L2.atI os i = some o ∧ z = (o.own, o)) := by
  unfold item at h
  split at h
  · obtain ⟨x, e, rfl⟩ := Option.map_eq_some_iff.mp h
    exact .inl ⟨_, _, x, rfl, rfl, e, rfl⟩
  · obtain ⟨x, e, rfl⟩ := Option.map_eq_some_iff.mp h
    exact .inr (.inl ⟨_, _, x, rfl, rfl, e, rfl⟩)
  · obtain ⟨o, e, rfl⟩ := Option.map_eq_some_iff.mp h
    unfold strAt at e
    split at e
    · rename_i hz
      obtain ⟨c, e2, rfl⟩ := Option.map_eq_some_iff.mp e
      exact .inr (.inr (.inl ⟨_, _, c, rfl, rfl, fits_le hz, e2, rfl⟩))
    · cases e
  · obtain ⟨x, e, rfl⟩ := Option.map_eq_some_iff.mp h
    exact .inl ⟨_, _, x, rfl, rfl, e, rfl⟩
  · obtain ⟨x, e, rfl⟩ := Option.map_eq_some_iff.mp h
    exact .inr (.inr (.inr ⟨_, _, x, rfl, rfl, e, rfl⟩))
  · cases h
/-- an item of a view -/
def rIt (G : Ct) : R2 := fun x y H Q => ∃ Hs ox oy fx fy z, Same Hs H ∧ RO G Hs H x ox fx ∧ RO G Hs H y oy fy ∧ item ox oy = some z ∧ ∀ v f, RO G Hs H v z.2 f → (∀ b, f b → fx b) → z.1 = z.2.own → Q v H
section
variable {X : Cx} {fa : Nat → Addr}
theorem ix_item : IxR X (rIt (ct X fa)) := by
  intro value slice pins s σ H x y v u Q I rx ry ⟨Hs, ox, oy, fx, fy, z, sb, hx, hy, hi, q⟩ hs
  rcases item_some hi with ⟨xs, i, d, h1, rfl, h2, rfl⟩ | ⟨xs, i, d, h1, rfl, h2, rfl⟩ | ⟨a, i, c, rfl, rfl, hz, h2, rfl⟩ | ⟨os, i, o, rfl, rfl, h2, rfl⟩
  · obtain ⟨p, vs, rfl, hq, r⟩ := asL_view sb hx h1
    obtain ⟨w, e, rw'⟩ := r.atI h2
    rw [hy.int] at ry
    exact ix_list value slice pins s σ H _ _ v u Q I rx ry ⟨p, vs, i, w, rfl, rfl, hq, e, q w _ (.d rw') (fun _ z => z.elim) rfl⟩ hs
  · obtain ⟨p, vs, rfl, hq, r⟩ := asT_view sb hx h1
    obtain ⟨w, e, rw'⟩ := r.atI h2
    rw [hy.int] at ry
    exact ix_tup value slice pins s σ H _ _ v u Q I rx ry ⟨p, vs, i, w, rfl, rfl, hq, e, q w _ (.d rw') (fun _ z => z.elim) rfl⟩ hs
  · rw [hy.int] at ry
    rw [hx.strV] at rx
    exact ix_str value slice pins s σ H _ _ v u Q I rx ry ⟨a, i, c, rfl, rfl, hz, h2, q _ _ (.d (.str _)) (fun _ z => z.elim) rfl⟩ hs
  · rw [hy.int] at ry
    cases hx with
    | nl e n r nf =>
      obtain ⟨w, g, e1, rw', hg⟩ := r.atI h2
      exact ix_list value slice pins s σ H _ _ v u Q I rx ry ⟨_, _, i, w, rfl, rfl, .of e, e1, q w g rw' (fun b hb => .inr (hg b hb)) rfl⟩ hs

/-! ### slices -/
def rSl (G : Ct) : V → Option Int → Option Int → Hp → VK → Prop := fun x lo hi H Q => ∃ Hs ox fx o, Same Hs H ∧ RO G Hs H x ox fx ∧ slice ox lo hi = some o ∧ Res G Hs H o Q
theorem RDs.cut {G : Ct} {Hs : Hp} {vs : List V} {xs : List D} (r : RDs G Hs vs xs) (lo hi : Option Int) : RDs G Hs (cutV vs lo hi) (cutL xs lo hi) := by
  unfold cutV cutL
  rw [r.length]
  exact (r.drop _).take _
theorem slice_some {ox o : O} {lo hi : Option Int} (h : slice ox lo hi = some o) : (∃ xs, asL ox = some xs ∧ o = .ls (cutL xs lo hi)) ∨ (∃ xs, ox = .d (.tuple xs) ∧ o = .d (.tuple (cutL xs lo hi))) := by
  unfold slice at h
  split at h
  · cases h; exact .inl ⟨_, rfl, rfl⟩
  · cases h; exact .inl ⟨_, rfl, rfl⟩
  · cases h; exact .inr ⟨_, rfl, rfl⟩
  · cases h
theorem cut_whole {α : Type} {xs : List α} {lo hi : Option Int} (h : HT.sIx xs.length 0 lo = 0 ∧ HT.sIx xs.length xs.length hi = xs.length) : cutL xs lo hi = xs := by
  unfold cutL
  rw [h.1, h.2, List.drop_zero, Nat.sub_zero, List.take_length]
theorem sl_any : SlR X (rSl (ct X fa)) := by
  intro pins s σ H x v vl vu lo hi sl Q I rx hs pl pu ⟨Hs, ox, fx, o, sb, hx, h, q⟩
  rcases slice_some h with ⟨xs, h1, rfl⟩ | ⟨xs, rfl, rfl⟩
  · obtain ⟨p, vs, rfl, hq, r⟩ := asL_view sb hx h1
    exact sl_list pins s σ H _ v vl vu lo hi sl Q I rx hs pl pu ⟨p, vs, rfl, hq, fun p hp => q.lst sb (r.cut lo hi) hp⟩
  · obtain ⟨p, vs, rfl, hq, r⟩ := hx.tupV sb
    refine sl_tupA pins s σ H _ v vl vu lo hi sl Q I rx hs pl pu ⟨p, vs, rfl, hq, fun hw => ?_, fun _ p hp => q.tup sb (r.cut lo hi) hp⟩
    rw [r.length] at hw
    rw [cut_whole hw] at q
    cases hx with
    | d r' => exact q.d sb r'

/-! ### truth -/
theorem tru_any : TruR X (fun x H Q => ∃ Hs ox fx b, Same Hs H ∧ RO (ct X fa) Hs H x ox fx ∧ truth ox = some b ∧ Q b H) := by
  intro pins s σ H x v Q I rx ⟨Hs, ox, fx, b, sb, hx, h, q⟩
  refine tru_ok pins s σ H x v Q I rx ⟨b, ?_, q⟩
  have em : ∀ {vs : List V} {xs : List D}, RDs (ct X fa) Hs vs xs → xs.isEmpty = vs.isEmpty := fun r => by cases r <;> rfl
  unfold truth at h
  cases hx with
  | @d _ y r =>
    cases r with
    | non => cases h; rfl
    | bl => cases h; rfl
    | int => cases h; rfl
    | str z =>
      have h' : (if fits z.length = true then some (z.length != 0) else none) = some b := h
      split at h'
      · rename_i hz
        cases h'
        refine ⟨fits_le hz, ?_⟩
        rw [Bool.eq_iff_iff]
        simp only [bne_iff_ne, ne_eq]
        omega
      · cases h'
    | lst hq t =>
      cases h
      exact .inl ⟨_, sb.seq hq, by rw [em t]⟩
    | tup hq t =>
      cases h
      exact .inr (.inl ⟨_, seqT sb hq, by rw [em t]⟩)
    | fn f => cases h
  | ls e n t =>
    cases h
    exact .inl ⟨_, .of e, by rw [em t]⟩
  | @nl a vs os f e n t nf =>
    cases h
    exact .inl ⟨_, .of e, by cases t <;> rfl⟩

/-! ### built-ins -/
inductive Vws (G : Ct) (Hs H : Hp) : List V → List O → Prop
  | nil : Vws G Hs H [] []
  | cons {v : V} {vs : List V} {o : O} {os : List O} {f : Fp} : RO G Hs H v o f → Vws G Hs H vs os → Vws G Hs H (v :: vs) (o :: os)
def rB (G : Ct) (b : Bl) : List V → Hp → VK → Prop := fun vs H Q => ∃ Hs os o, Same Hs H ∧ Vws G Hs H vs os ∧ blt b os = some o ∧ Res G Hs H o Q
def blP : Bl → Value
  | .len => .builtin "len"
  | .tuple => .type "tuple"
  | .list => .type "list"
  | .abs => .builtin "abs"
  | .int => .type "int"
  | .str => .type "str"
  | .repr => .builtin "repr"
  | .all => .builtin "all"
  | .any => .builtin "any"
  | .max => .builtin "max"
  | .min => .builtin "min"
  | .sorted => .builtin "sorted"
  | .sum => .builtin "sum"
theorem ints_view {G : Ct} {Hs : Hp} : ∀ {vs : List V} {xs : List D} {is : List Int}, RDs G Hs vs xs → allInts xs = some is → vs = is.map V.int ∧ xs = is.map PyData.int
  | _, _, _, .nil, h => by cases h; exact ⟨rfl, rfl⟩
  | _, _, _, .cons r t, h => by
    cases r with
    | int i =>
      obtain ⟨js, e, rfl⟩ := Option.map_eq_some_iff.mp (show (allInts _).map (i :: ·) = some _ from h)
      obtain ⟨rfl, rfl⟩ := ints_view t e
      exact ⟨rfl, rfl⟩
    | _ => cases h
theorem bools_view {G : Ct} {Hs : Hp} : ∀ {vs : List V} {xs : List D} {is : List Bool}, RDs G Hs vs xs → allBools xs = some is → vs = is.map V.bl
  | _, _, _, .nil, h => by cases h; rfl
  | _, _, _, .cons r t, h => by
    cases r with
    | bl i =>
      obtain ⟨js, e, rfl⟩ := Option.map_eq_some_iff.mp (show (allBools _).map (i :: ·) = some _ from h)
      rw [bools_view t e] <;> rfl
    | _ => cases h
theorem strs_view {G : Ct} {Hs : Hp} : ∀ {vs : List V} {xs : List D} {is : List Str}, RDs G Hs vs xs → allStrs xs = some is → vs = is.map V.str
  | _, _, _, .nil, h => by cases h; rfl
  | _, _, _, .cons r t, h => by
    cases r with
    | str i =>
      obtain ⟨js, e, rfl⟩ := Option.map_eq_some_iff.mp (show (allStrs _).map (i :: ·) = some _ from h)
      rw [strs_view t e] <;> rfl
    | _ => cases h
theorem RDs.ints {G : Ct} {Hs : Hp} : ∀ is : List Int, RDs G Hs (is.map V.int) (is.map PyData.int)
  | [] => .nil
  | i :: r => .cons (.int i) (RDs.ints r)
theorem RDs.strs {G : Ct} {Hs : Hp} : ∀ is : List Str, RDs G Hs (is.map V.str) (is.map PyData.str)
  | [] => .nil
  | i :: r => .cons (.str i) (RDs.strs r)
theorem foldmax : ∀ (r : List Int) (x : Int), (r.foldl (fun a b => if b > a then b else a) x = x ∨ r.foldl (fun a b => if b > a then b else a) x ∈ r) ∧ x ≤ r.foldl (fun a b => if b > a then b else a) x ∧ ∀ y ∈ r, y ≤ r.foldl (fun a b => if b > a then b else a) x
  | [], x => ⟨.inl rfl, Int.le_refl _, fun y h => by cases h⟩
  | z :: r, x => by
    simp only [List.foldl_cons]
    obtain ⟨h1, h2, h3⟩ := foldmax r (if z > x then z else x)
    by_cases hz : z > x
    · rw [if_pos hz] at h1 h2 h3 ⊢
      refine ⟨.inr (h1.elim (fun e => by rw [e]; exact List.mem_cons_self) fun e => List.mem_cons_of_mem _ e), by omega, fun y hy => ?_⟩
      rcases List.mem_cons.mp hy with rfl | hy
      · exact h2
      · exact h3 y hy
    · rw [if_neg hz] at h1 h2 h3 ⊢
      refine ⟨h1.elim .inl fun e => .inr (List.mem_cons_of_mem _ e), h2, fun y hy => ?_⟩
      rcases List.mem_cons.mp hy with rfl | hy
      · omega
      · exact h3 y hy
theorem foldmin : ∀ (r : List Int) (x : Int), (r.foldl (fun a b => if b < a then b else a) x = x ∨ r.foldl (fun a b => if b < a then b else a) x ∈ r) ∧ r.foldl (fun a b => if b < a then b else a) x ≤ x ∧ ∀ y ∈ r, r.foldl (fun a b => if b < a then b else a) x ≤ y
  | [], x => ⟨.inl rfl, Int.le_refl _, fun y h => by cases h⟩
  | z :: r, x => by
    simp only [List.foldl_cons]
    obtain ⟨h1, h2, h3⟩ := foldmin r (if z < x then z else x)
    by_cases hz : z < x
    · rw [if_pos hz] at h1 h2 h3 ⊢
      refine ⟨.inr (h1.elim (fun e => by rw [e]; exact List.mem_cons_self) fun e => List.mem_cons_of_mem _ e), by omega, fun y hy => ?_⟩
      rcases List.mem_cons.mp hy with rfl | hy
      · exact h2
      · exact h3 y hy
    · rw [if_neg hz] at h1 h2 h3 ⊢
      refine ⟨h1.elim .inl fun e => .inr (List.mem_cons_of_mem _ e), h2, fun y hy => ?_⟩
      rcases List.mem_cons.mp hy with rfl | hy
      · omega
      · exact h3 y hy
theorem maxI_ok {ns : List Int} {i m : Int} (h : maxI ns = some i) (h1 : m ∈ ns) (h2 : ∀ y, y ∈ ns → y ≤ m) : m = i := by
  cases ns with
  | nil => cases h
  | cons x r =>
    have e : r.foldl (fun a b => if b > a then b else a) x = i := Option.some.inj h
    obtain ⟨k1, k2, k3⟩ := foldmax r x
    rw [e] at k1 k2 k3
    have a1 : m ≤ i := by
      rcases List.mem_cons.mp h1 with rfl | h1
      · exact k2
      · exact k3 m h1
    have a2 : i ≤ m := k1.elim (fun e => by rw [e]; exact h2 _ List.mem_cons_self) fun e => h2 _ (List.mem_cons_of_mem _ e)
    omega
theorem minI_ok {ns : List Int} {i m : Int} (h : minI ns = some i) (h1 : m ∈ ns) (h2 : ∀ y, y ∈ ns → m ≤ y) : m = i := by
  cases ns with
  | nil => cases h
  | cons x r =>
    have e : r.foldl (fun a b => if b < a then b else a) x = i := Option.some.inj h
    obtain ⟨k1, k2, k3⟩ := foldmin r x
    rw [e] at k1 k2 k3
    have a1 : i ≤ m := by
      rcases List.mem_cons.mp h1 with rfl | h1
      · exact k2
      · exact k3 m h1
    have a2 : m ≤ i := k1.elim (fun e => by rw [e]; exact h2 _ List.mem_cons_self) fun e => h2 _ (List.mem_cons_of_mem _ e)
    omega
theorem sortI_ok {ns ns' : List Int} (h1 : ns'.Perm ns) (h2 : ns'.Pairwise (· ≤ ·)) : ns' = sortI ns := by
  refine List.Perm.eq_of_pairwise (le := (· ≤ ·)) (fun a b _ _ h1 h2 => Int.le_antisymm h1 h2) h2 ?_ (h1.trans (List.mergeSort_perm ns _).symm)
  have := List.pairwise_mergeSort (le := fun a b : Int => decide (a ≤ b)) (fun a b c => by simp only [decide_eq_true_eq]; omega) (fun a b => by simp only [Bool.or_eq_true, decide_eq_true_eq]; omega) ns
  exact this.imp fun h => of_decide_eq_true h
theorem leS_trans (a b c : Str) (h1 : leS a b = true) (h2 : leS b c = true) : leS a c = true := by
  unfold leS at *
  simp only [Bool.not_eq_true', decide_eq_false_iff_not] at *
  exact List.not_lt.mpr (List.le_trans (List.not_lt.mp h1) (List.not_lt.mp h2))
theorem leS_total (a b : Str) : (leS a b || leS b a) = true := by
  unfold leS
  simp only [Bool.or_eq_true, Bool.not_eq_true', decide_eq_false_iff_not]
  rcases List.le_total a.cps.toList b.cps.toList with h | h
  · exact .inl (List.not_lt.mpr h)
  · exact .inr (List.not_lt.mpr h)
theorem leS_antisymm {a b : Str} (h1 : leS a b = true) (h2 : leS b a = true) : a = b := by
  unfold leS at *
  simp only [Bool.not_eq_true', decide_eq_false_iff_not] at *
  have e := List.le_antisymm (List.not_lt.mp h1) (List.not_lt.mp h2)
  obtain ⟨x⟩ := a
  obtain ⟨y⟩ := b
  simp only at e
  congr 1
  exact Array.toList_inj.mp e
theorem risingS_leS : ∀ (r : List Str) (p : Str), risingS p r = true → (p :: r).Pairwise (fun a b => leS a b = true)
  | [], p, _ => List.pairwise_singleton _ _
  | x :: r, p, h => by
    have h' : (!ltCps x.cps.toList p.cps.toList && risingS x r) = true := h
    rw [Bool.and_eq_true, ltCps_eq] at h'
    have h1 : leS p x = true := h'.1
    have ih := risingS_leS r x h'.2
    refine List.pairwise_cons.mpr ⟨fun y hy => ?_, ih⟩
    rcases List.mem_cons.mp hy with rfl | hy
    · exact h1
    · exact leS_trans p x y h1 ((List.pairwise_cons.mp ih).1 y hy)
theorem sortS_ok {ns ns' : List Str} (h1 : ns'.Perm ns) (h2 : sortedS ns' = true) : ns' = sortS ns := by
  have h3 : ns'.Pairwise (fun a b => leS a b = true) := by
    cases ns' with
    | nil => exact .nil
    | cons x r => exact risingS_leS r x h2
  refine List.Perm.eq_of_pairwise (le := fun a b => leS a b = true) (fun a b _ _ h1 h2 => leS_antisymm h1 h2) h3 ?_ (h1.trans (List.mergeSort_perm ns _).symm)
  exact List.pairwise_mergeSort (le := leS) leS_trans leS_total ns
end
section
variable {X : Cx} {fa : Nat → Addr}
theorem Vws.one {G : Ct} {Hs H : Hp} {vs : List V} {o : O} (r : Vws G Hs H vs [o]) : ∃ v f, vs = [v] ∧ RO G Hs H v o f := by
  cases r with
  | cons r s => cases s; exact ⟨_, _, rfl, r⟩
theorem Vws.two {G : Ct} {Hs H : Hp} {vs : List V} {o u : O} (r : Vws G Hs H vs [o, u]) : ∃ v w f g, vs = [v, w] ∧ RO G Hs H v o f ∧ RO G Hs H w u g := by
  cases r with
  | cons r s =>
    cases s with
    | cons r' s => cases s; exact ⟨_, _, _, _, rfl, r, r'⟩
theorem asQ_some {o : O} {xs : List D} (h : asQ o = some xs) : asL o = some xs ∨ o = .d (.tuple xs) := by
  unfold asQ at h
  split at h <;> cases h
  · exact .inl rfl
  · exact .inr rfl
  · exact .inl rfl
/-- repr of a list or a tuple -/
theorem call_reprA (hg : X.A.guards = some []) (hu : X.A.units + 65 < cLine) : CallR X (.builtin "repr") (fun xs H Q => ∃ d p, xs = [V.ref p] ∧ RD (ct X fa) H (V.ref p) d ∧ d.canLay0 = true ∧ d.depth ≤ 64 ∧ d.showable = true ∧ d.shown.length ≤ sizeLine ∧ Q (.str d.shown) H) := by
  intro pins s σ H xs us Q I r h
  obtain ⟨d, p, rfl, hd, h1, h2, h3, h4, q⟩ := h
  obtain ⟨u, rfl, rx⟩ := vals1 r
  cases rx
  obtain ⟨as, rd⟩ := Dp.reads I d (.ref p) (.ref p) (hd.dp h1) rfl
  refine repr_of_reads' rd h3 (PyData.noDict_hsm (PyData.hasDict_of_canLay d h1)) hg (by omega) (fun _ _ e => e) (fun h' u tk hk => ⟨.str d.shown, H, I.kept hk, ⟨_, rfl⟩, q⟩) h4
theorem call_bl (hc : X.calm = true) (hg : X.A.guards = some []) (hu : X.A.units + 65 < cLine) (b : Bl) : CallR X (blP b) (rB (ct X fa) b) := by
  intro pins s σ H xs us Q I r ⟨Hs, os, o, sb, hv, h, q⟩
  cases b with
  | len =>
    have seq : ∀ {v : V} {n : Nat} {ys : List V} {p : Addr}, v = .ref p → (SqL X.K H p ys ∨ SqT X.K H p ys) → ys.length = n → xs = [v] → o = .d (.int n) → wpAny (model X.prog X.w) X.A (call (blP .len) us) (EP X pins σ Q) X.xe s := fun {v n ys p} e1 hq e2 e3 e4 => by
      subst e1 e2 e3 e4
      exact call_len_seq pins s σ H _ us Q I r ⟨p, ys, rfl, hq, q.d sb (.int _)⟩
    unfold blt at h
    split at h
    all_goals first | (rename_i e; cases e; done) | skip
    · cases h
      obtain ⟨v, f, rfl, r1⟩ := hv.one
      obtain ⟨p, vs, rfl, hq, t⟩ := asL_view sb r1 rfl
      exact seq rfl (.inl hq) t.length rfl rfl
    · cases h
      obtain ⟨v, f, rfl, r1⟩ := hv.one
      obtain ⟨p, vs, rfl, hq, t⟩ := asT_view sb r1 rfl
      exact seq rfl (.inr hq) t.length rfl rfl
    · cases h
      obtain ⟨v, f, rfl, r1⟩ := hv.one
      obtain ⟨p, vs, rfl, hq, t⟩ := asL_view sb r1 rfl
      exact seq rfl (.inl hq) t.length rfl rfl
    · cases h
      obtain ⟨v, f, rfl, r1⟩ := hv.one
      cases r1 with
      | nl e n t nf => exact seq rfl (.inl (.of e)) t.length rfl rfl
    · obtain ⟨h1, rfl⟩ := guardO_some h
      obtain ⟨v, f, rfl, r1⟩ := hv.one
      have e := r1.strV
      subst e
      exact call_len_str pins s σ H _ us Q I r ⟨_, rfl, fits_le h1, q.d sb (.int _)⟩
    all_goals cases h
  | tuple =>
    unfold blt at h
    split at h
    all_goals first | (rename_i e; cases e; done) | skip
    · obtain ⟨ys, e, rfl⟩ := Option.map_eq_some_iff.mp h
      obtain ⟨v, f, rfl, r1⟩ := hv.one
      rcases asQ_some e with e | rfl
      · obtain ⟨p, vs, rfl, hq, t⟩ := asL_view sb r1 e
        exact call_tuple_of pins s σ H _ us Q I r ⟨p, vs, rfl, .inl ⟨hq, fun l hl => q.tup sb t hl⟩⟩
      · obtain ⟨p, vs, rfl, hq, t⟩ := r1.tupV sb
        cases r1 with
        | d r1 => exact call_tuple_of pins s σ H _ us Q I r ⟨p, vs, rfl, .inr ⟨hq, q.d sb r1⟩⟩
    all_goals cases h
  | list =>
    unfold blt at h
    split at h
    all_goals first | (rename_i e; cases e; done) | skip
    · obtain ⟨ys, e, rfl⟩ := Option.map_eq_some_iff.mp h
      obtain ⟨v, f, rfl, r1⟩ := hv.one
      obtain ⟨p, vs, rfl, hq, t⟩ := asQ_view sb r1 e
      exact call_list_of pins s σ H _ us Q I r ⟨p, vs, rfl, hq, fun l hl => q.lst sb t hl⟩
    all_goals cases h
  | abs =>
    unfold blt at h
    split at h
    all_goals first | (rename_i e; cases e; done) | skip
    · cases h
      obtain ⟨v, f, rfl, r1⟩ := hv.one
      have e := r1.int
      subst e
      exact call_abs pins s σ H _ us Q I r ⟨_, rfl, q.d sb (.int _)⟩
    all_goals cases h
  | int =>
    unfold blt at h
    split at h
    all_goals first | (rename_i e; cases e; done) | skip
    · cases h
      obtain ⟨v, f, rfl, r1⟩ := hv.one
      have e := r1.int
      subst e
      exact call_int1 pins s σ H _ us Q I r (.inl ⟨_, rfl, q.d sb (.int _)⟩)
    · cases h
      obtain ⟨v, f, rfl, r1⟩ := hv.one
      have e := asB_view r1 rfl
      subst e
      exact call_int1 pins s σ H _ us Q I r (.inr ⟨_, rfl, q.d sb (.int _)⟩)
    all_goals cases h
  | str =>
    unfold blt at h
    split at h
    all_goals first | (rename_i e; cases e; done) | skip
    · obtain ⟨h1, rfl⟩ := guardO_some h
      obtain ⟨v, f, rfl, r1⟩ := hv.one
      have e := r1.int
      subst e
      exact call_str_int pins s σ H _ us Q I r ⟨_, rfl, of_decide_eq_true h1, q.d sb (.str _)⟩
    all_goals cases h
  | repr =>
    unfold blt at h
    split at h
    all_goals first | (rename_i e; cases e; done) | skip
    · obtain ⟨h1, rfl⟩ := guardO_some h
      simp only [Bool.and_eq_true, decide_eq_true_eq] at h1
      obtain ⟨⟨⟨⟨h0, h1⟩, h2⟩, h3⟩, h4⟩ := h1
      obtain ⟨v, f, rfl, r1⟩ := hv.one
      have vw := r1.view sb
      have key : ∃ p, v = .ref p := by
        generalize frz _ = d at vw h0
        cases vw <;> first | exact ⟨_, rfl⟩ | cases h0
      obtain ⟨p, rfl⟩ := key
      exact call_reprA hg hu pins s σ H _ us Q I r ⟨_, p, rfl, vw, h1, h2, h3, fits_le h4, q.d sb (.str _)⟩
    all_goals cases h
  | all =>
    unfold blt at h
    split at h
    all_goals first | (rename_i e; cases e; done) | skip
    · obtain ⟨ys, e, h⟩ := Option.bind_eq_some_iff.mp h
      obtain ⟨bs, e2, rfl⟩ := Option.map_eq_some_iff.mp h
      obtain ⟨v, f, rfl, r1⟩ := hv.one
      obtain ⟨p, vs, rfl, hq, t⟩ := asL_view sb r1 e
      have e3 := bools_view t e2
      subst e3
      exact cr_all hc pins s σ H _ us Q I r ⟨p, bs, rfl, hq, q.d sb (.bl _)⟩
    all_goals cases h
  | any =>
    unfold blt at h
    split at h
    all_goals first | (rename_i e; cases e; done) | skip
    · obtain ⟨ys, e, h⟩ := Option.bind_eq_some_iff.mp h
      obtain ⟨bs, e2, rfl⟩ := Option.map_eq_some_iff.mp h
      obtain ⟨v, f, rfl, r1⟩ := hv.one
      obtain ⟨p, vs, rfl, hq, t⟩ := asL_view sb r1 e
      have e3 := bools_view t e2
      subst e3
      exact cr_any hc pins s σ H _ us Q I r ⟨p, bs, rfl, hq, q.d sb (.bl _)⟩
    all_goals cases h
  | sum =>
    unfold blt at h
    split at h
    all_goals first | (rename_i e; cases e; done) | skip
    · obtain ⟨ys, e, h⟩ := Option.bind_eq_some_iff.mp h
      obtain ⟨bs, e2, rfl⟩ := Option.map_eq_some_iff.mp h
      obtain ⟨v, f, rfl, r1⟩ := hv.one
      obtain ⟨p, vs, rfl, hq, t⟩ := asL_view sb r1 e
      obtain ⟨e3, _⟩ := ints_view t e2
      subst e3
      exact cr_sum hc pins s σ H _ us Q I r ⟨p, bs, rfl, hq, q.d sb (.int _)⟩
    all_goals cases h
  | max =>
    unfold blt at h
    split at h
    all_goals first | (rename_i e; cases e; done) | skip
    · cases h
      obtain ⟨v, w, f, g, rfl, r1, r2⟩ := hv.two
      have e1 := r1.int
      have e2 := r2.int
      subst e1 e2
      exact call_max2 hc pins s σ H _ us Q I r ⟨_, _, rfl, q.d sb (.int _)⟩
    · obtain ⟨ys, e, h⟩ := Option.bind_eq_some_iff.mp h
      obtain ⟨bs, e2, h⟩ := Option.bind_eq_some_iff.mp h
      obtain ⟨m, e4, rfl⟩ := Option.map_eq_some_iff.mp h
      obtain ⟨v, f, rfl, r1⟩ := hv.one
      obtain ⟨p, vs, rfl, hq, t⟩ := asL_view sb r1 e
      obtain ⟨e3, _⟩ := ints_view t e2
      subst e3
      refine cr_max hc pins s σ H _ us Q I r ⟨p, bs, rfl, hq, ?_, fun m' h1 h2 => ?_⟩
      · cases bs with
        | nil => cases e4
        | cons => simp
      · rw [maxI_ok e4 h1 h2]
        exact q.d sb (.int _)
    all_goals cases h
  | min =>
    unfold blt at h
    split at h
    all_goals first | (rename_i e; cases e; done) | skip
    · cases h
      obtain ⟨v, w, f, g, rfl, r1, r2⟩ := hv.two
      have e1 := r1.int
      have e2 := r2.int
      subst e1 e2
      exact call_min2 hc pins s σ H _ us Q I r ⟨_, _, rfl, q.d sb (.int _)⟩
    · obtain ⟨ys, e, h⟩ := Option.bind_eq_some_iff.mp h
      obtain ⟨bs, e2, h⟩ := Option.bind_eq_some_iff.mp h
      obtain ⟨m, e4, rfl⟩ := Option.map_eq_some_iff.mp h
      obtain ⟨v, f, rfl, r1⟩ := hv.one
      obtain ⟨p, vs, rfl, hq, t⟩ := asL_view sb r1 e
      obtain ⟨e3, _⟩ := ints_view t e2
      subst e3
      refine cr_min hc pins s σ H _ us Q I r ⟨p, bs, rfl, hq, ?_, fun m' h1 h2 => ?_⟩
      · cases bs with
        | nil => cases e4
        | cons => simp
      · rw [minI_ok e4 h1 h2]
        exact q.d sb (.int _)
    all_goals cases h
  | sorted =>
    unfold blt at h
    split at h
    all_goals first | (rename_i e; cases e; done) | skip
    · obtain ⟨ys, e, h⟩ := Option.bind_eq_some_iff.mp h
      obtain ⟨zs, e2, rfl⟩ := Option.map_eq_some_iff.mp h
      obtain ⟨v, f, rfl, r1⟩ := hv.one
      obtain ⟨p, vs, rfl, hq, t⟩ := asL_view sb r1 e
      unfold sortD at e2
      split at e2
      · rename_i is e5
        cases e2
        obtain ⟨e3, _⟩ := ints_view t e5
        subst e3
        refine cr_sortedI pins s σ H _ us Q I r ⟨p, is, rfl, hq, fun ns' l h1 h2 hl => ?_⟩
        rw [sortI_ok h1 h2]
        exact q.lst sb (RDs.ints _) hl
      · rename_i ss e5 _
        split at e2
        · rename_i h64
          cases e2
          have e3 := strs_view t e5
          subst e3
          refine cr_sortedS pins s σ H _ us Q I r ⟨p, ss, rfl, hq, h64, fun ns' l h1 h2 hl => ?_⟩
          rw [sortS_ok h1 h2]
          exact q.lst sb (RDs.strs _) hl
        · cases e2
      · cases e2
    all_goals cases h

/-! ### isinstance -/
def tyP : Ty → String
  | .int => "int"
  | .bool => "bool"
  | .str => "str"
  | .tuple => "tuple"
  | .list => "list"
theorem ty_view {G : Ct} {H : Hp} {v : V} {d : D} {ty : Ty} {b : Bool} (r : RD G H v d) (h : tyD ty d = some b) : ∃ n, TyX G.K H v (.type n) ∧ kitB n (tyP ty) = some b := by
  cases r with
  | non => exact ⟨"NoneType", .base .non, by cases ty <;> cases h <;> decide +kernel⟩
  | bl x => exact ⟨"bool", .base (.bl x), by cases ty <;> cases h <;> decide +kernel⟩
  | int x => exact ⟨"int", .base (.int x), by cases ty <;> cases h <;> decide +kernel⟩
  | str x => exact ⟨"str", .base (.str x), by cases ty <;> cases h <;> decide +kernel⟩
  | lst q _ =>
    refine ⟨"list", ?_, by cases ty <;> cases h <;> decide +kernel⟩
    rcases q with (q | ⟨o, q⟩) | ⟨o, its, n, q, c, _⟩
    · exact .base (.lst q)
    · exact .base (.frz q)
    · exact .kList q c
  | tup q _ =>
    refine ⟨"tuple", ?_, by cases ty <;> cases h <;> decide +kernel⟩
    rcases q with (q | ⟨o, q⟩) | ⟨o, its, n, q, c, _⟩
    · exact .base (.tup q)
    · exact .fTuple q
    · exact .kTuple q c
  | fn f => cases ty <;> cases h
def rTy (G : Ct) (ty : Ty) : List V → Hp → VK → Prop := fun xs H Q => ∃ x d b, xs = [x, .ty (tyP ty)] ∧ RD G H x d ∧ tyD ty d = some b ∧ Q (.bl b) H
theorem call_ty (ty : Ty) : CallR X (.builtin "isinstance") (rTy (ct X fa) ty) := by
  intro pins s σ H xs us Q I r h
  obtain ⟨x, d, b, rfl, hx, hb, q⟩ := h
  obtain ⟨n, h1, h2⟩ := ty_view hx hb
  exact call_isi pins s σ H _ us Q I r ⟨x, _, _, _, b, rfl, .ty _, h1, kit_ty h2, q⟩

/-! ### t[::-1] of a tuple or a list -/
theorem sliceApplied_rev {prog : Program} {w : World} {A : Around} {E : Value → Shared → Prop} {s : Shared} {sl : Addr} {vs : Value} {n : Nat} {Q : Int × Int × Nat → Shared → Prop} (hs : s.heap.IsSliceOf sl .none .none vs) (ps : IsPart vs (some (-1)))
    (h : Q ((n : Int) - 1, -1, n) s) : wpAny (model prog w) A (Builtin.Slice.sliceApplied (.ref sl) (pure (n : Int))) Q E s := by
  obtain ⟨os, hos, hcs, hds⟩ := id hs
  unfold Builtin.Slice.sliceApplied Builtin.Slice.sliceFields
  refine wpAny_bind (wpAny_bind (wpAny_field hos hds (x := .none) rfl (wpAny_bind (wpAny_field hos hds (x := .none) rfl (wpAny_bind (wpAny_field hos hds (x := vs) rfl (wpAny_pure ?_)))))))
  cases ps with
  | int i t =>
    refine wpAny_bind (slicePart_int ?_)
    show wpAny _ _ (if ((-1 : Int) == 0) = true then _ else _) _ _ s
    rw [if_neg (by decide)]
    refine wpAny_bind (slicePart_none (wpAny_bind (slicePart_none (wpAny_bind (wpAny_pure ?_)))))
    have e1 : Builtin.Slice.sliceAdjust none none (-1) (n : Int) = ((n : Int) - 1, -1) := rfl
    show wpAny _ _ (match Builtin.Slice.sliceAdjust none none (-1) (n : Int) with | (lo, hi) => pure (lo, (-1 : Int), Builtin.Slice.slicePlaces lo hi (-1))) _ _ s
    rw [e1]
    have e2 : Builtin.Slice.slicePlaces ((n : Int) - 1) (-1) (-1) = n := by
      unfold Builtin.Slice.slicePlaces
      rw [if_neg (by decide)]
      have : (- (-1 : Int)) = 1 := by decide
      rw [this, Int.ediv_one]
      split <;> omega
    show wpAny _ _ (pure ((n : Int) - 1, (-1 : Int), Builtin.Slice.slicePlaces ((n : Int) - 1) (-1) (-1))) _ _ s
    rw [e2]
    exact wpAny_pure h
theorem pick_rev (xs : List Value) : ((List.range xs.length).filterMap fun (m : Nat) => xs.toArray[((xs.length : Int) - 1 + (m : Int) * (-1)).toNat]?) = xs.reverse := by
  have e : ∀ k, k ≤ xs.length → ((List.range k).filterMap fun (m : Nat) => xs.toArray[((xs.length : Int) - 1 + (m : Int) * (-1)).toNat]?) = xs.reverse.take k := by
    intro k
    induction k with
    | zero => intro _; rfl
    | succ k ih =>
      intro hk
      rw [List.range_succ, List.filterMap_append, ih (by omega), List.take_add_one]
      congr 1
      have e1 : ((xs.length : Int) - 1 + (k : Int) * (-1)).toNat = xs.length - 1 - k := by omega
      have h2 : xs.reverse[k]? = some (xs[xs.length - 1 - k]'(by omega)) := by
        rw [List.getElem?_reverse (by omega), List.getElem?_eq_getElem]
      rw [h2]
      simp only [List.filterMap_cons, List.filterMap_nil, e1]
      rw [List.getElem?_toArray, List.getElem?_eq_getElem (by omega)]
      rfl
  have := e xs.length (Nat.le_refl _)
  rw [this, List.take_of_length_le (by rw [List.length_reverse]; exact Nat.le_refl _)]
theorem getItem_tuple_rev {prog : Program} {w : World} {A : Around} {E : Value → Shared → Prop} {s : Shared} {t sl : Addr} {its : List Value} {vs : Value} {Q : Value → Shared → Prop} (ht : IsTup s.heap t its.toArray) (hs : s.heap.IsSliceOf sl .none .none vs) (ps : IsPart vs (some (-1)))
    (hz : its.length ≤ sizeLine) (h : Q (.ref s.heap.objs.size) { s with heap := s.heap.push { cls := .type "tuple", data := .seq its.reverse.toArray } }) : wpAny (model prog w) A (getItem (.ref t) (.ref sl)) Q E s := by
  have htake : sizeOk (.seq its.reverse.toArray) := by
    show its.reverse.toArray.size ≤ sizeLine
    rw [List.size_toArray, List.length_reverse]
    exact hz
  obtain ⟨os, hos, hcs, hds⟩ := id hs
  have hTs : s.TypeIs (.ref sl) "slice" := ⟨os, hos, hcs⟩
  unfold getItem
  try with_reducible refine wpAny_holding ?_
  first | refine wpAny_bind (wpAny_pure ?_) | skip
  refine wpAny_bind (wpAny_sequenceKey ht.typeIs (by decide) ?_)
  refine wpAny_bind (wpAny_callSpecial?_slot (name := Str.ofString "__getitem__") ht.typeIs PyProof.Rows.slot_tuple_getitem
    (wpAny_call_entry PyProof.Rows.slot_tuple_getitem ht.typeIs entry_tuple_getitem ?_ (args_tuple_getitem _ _)))
  show wpAny _ _ (Builtin.Tuple.tupleItemsOf (.ref t) >>= _) _ _ s
  refine wpAny_bind (tupleItemsOf_ ht ?_)
  refine wpAny_bind (wpAny_typeOf hTs ?_)
  rw [if_pos (by decide)]
  refine wpAny_bind (sliceApplied_rev hs ps ?_)
  have hno : ¬ (((its.toArray.size : Int) - 1 == 0 && (-1 : Int) == 1 && its.toArray.size == its.toArray.size) = true) := by
    intro q
    rw [Bool.and_eq_true, Bool.and_eq_true] at q
    exact absurd q.1.2 (by decide)
  show wpAny _ _ (if ((its.toArray.size : Int) - 1 == 0 && (-1 : Int) == 1 && its.toArray.size == its.toArray.size) = true then _ else _) _ _ s
  rw [if_neg hno, List.size_toArray, pick_rev]
  first
    | exact wpAny_bind (m := Builtin.Tuple.tupleExact _) (wpAny_newObj_type (wpAny_pure ⟨_, rfl, wpAny_pure h⟩) htake)
    | exact wpAny_bind (m := Builtin.Tuple.tupleExact _) (wpAny_newObj_type (wpAny_bind (wpAny_pure (wpAny_pure ⟨_, rfl, wpAny_pure h⟩))) htake)
    | exact wpAny_bind (wpAny_bind (m := Builtin.Tuple.tupleExact _) (wpAny_newObj_type (wpAny_pure (wpAny_pure ⟨_, rfl, wpAny_pure h⟩)) htake))
    | exact wpAny_bind (wpAny_bind (m := Builtin.Tuple.tupleExact _) (wpAny_newObj_type (wpAny_pure ⟨_, rfl, wpAny_pure h⟩) htake))
/-- the reading of x[::-1] -/
def tRv (G : Ct) (te : TE) : TE := fun σ H Q => te σ H fun x H1 => ∃ Hs ox fx o, Same Hs H1 ∧ RO G Hs H1 x ox fx ∧ revO ox = some o ∧ Res G Hs H1 o Q
theorem revO_some {ox o : O} (h : revO ox = some o) : (∃ xs, asL ox = some xs ∧ o = .ls xs.reverse) ∨ (∃ xs, ox = .d (.tuple xs) ∧ o = .d (.tuple xs.reverse)) := by
  unfold revO at h
  split at h
  · cases h; exact .inl ⟨_, rfl, rfl⟩
  · cases h; exact .inl ⟨_, rfl, rfl⟩
  · cases h; exact .inr ⟨_, rfl, rfl⟩
  · cases h
theorem pe_rv {e : Expr} {te : TE} {k : Nat} {p1 p2 p3 pos : Pos} (he : PE X e te) : PE X (.Subscript e (.Slice none none (some (.UnaryOp .USub (.Constant (.int 1) k p1) p2)) p3) pos) (tRv (ct X fa) te) := by
  have hl := pe_revL (k := k) (p1 := p1) (p2 := p2) (p3 := p3) (pos := pos) he
  refine ⟨fun pins s σ H Q I h => ?_⟩
  refine Subscript_ (thn (he.run pins s σ H _ I h) fun v s1 ⟨x, H1, I1, r1, q1⟩ => ?_)
  obtain ⟨Hs, ox, fx, o, sb, hx, hr, q⟩ := q1
  have hst : PO X (some (.UnaryOp .USub (.Constant (.int 1) k p1) p2)) (tPart (tUn (rU fun i => .int (-i)) (tC (.int 1)))) := po_some (pe_un un_neg pe_int)
  refine wpAny_Slice (thn (po_none.run pins s1 σ H1 (fun o H2 => o = none ∧ H2 = H1) I1 ⟨rfl, rfl⟩) fun vl s2 ⟨l, H2, I2, pl, el, e2⟩ => ?_)
  subst el e2
  refine thn (po_none.run pins s2 σ H2 (fun o H3 => o = none ∧ H3 = H2) I2 ⟨rfl, rfl⟩) fun vu s3 ⟨u, H3, I3, pu, eu, e3⟩ => ?_
  subst eu e3
  refine thn (hst.run pins s3 σ H3 (fun o H4 => o = some (-1) ∧ H4 = H3) I3 ⟨1, rfl, -1, rfl, rfl, rfl⟩) fun vs s4 ⟨o', H4, I4, ps, eo, e4⟩ => ?_
  subst eo e4
  have I5 : Inv X pins σ H4 { s4 with heap := s4.heap.push { cls := .type "slice", data := .fields #[vl, vu, vs] } } := I4.kept (t' := s4.toks) fun b o e => Heap.get?_push_of_some _ e
  rcases revO_some hr with ⟨xs, h1, rfl⟩ | ⟨xs, rfl, rfl⟩
  · obtain ⟨p, us, rfl, hq, r⟩ := asL_view sb hx h1
    cases r1
    obtain ⟨its, rv, ht, hz⟩ := I5.list hq
    have hlen := rv.length
    show wpAny (model X.prog X.w) X.A (subscriptTail e (.Slice none none (some (.UnaryOp .USub (.Constant (.int 1) k p1) p2)) p3) (.ref p) (.ref s4.heap.objs.size)) (EP X pins σ Q) X.xe { s4 with heap := s4.heap.push { cls := .type "slice", data := .fields #[vl, vu, vs] } }
    refine tail_any (ops := [.ref p, .ref s4.heap.objs.size]) ht.isList.typeIs (PySem.slot_list_getitem.lookup) ?_ (by with_unfolding_all rfl)
    refine wpAny_getItem_list_slice ht.isList (Heap.IsSliceOf.new _ vl vu vs) pl pu ps (by decide) ?_ (by rw [List.size_toArray]; omega)
    rw [PySem.W.krv_pick]
    refine ⟨.ref _, _, I5.laid (t' := s4.toks) (o := .lst us.reverse) (fun b o q => Heap.get?_push_of_some _ q) (Nat.le_refl _) ?_, rfl, q.lst sb r.reverse (I5.hok.fresh (Nat.le_refl _))⟩
    exact ⟨by rw [List.length_reverse]; exact hz, _, 0, rv.reverse, Heap.get?_push_size _ rfl⟩
  · obtain ⟨p, us, rfl, hq, r⟩ := hx.tupV sb
    cases r1
    cases pl
    cases pu
    obtain ⟨its, rv, ht, hz⟩ := I5.tuple hq
    have hlen := rv.length
    show wpAny (model X.prog X.w) X.A (subscriptTail e (.Slice none none (some (.UnaryOp .USub (.Constant (.int 1) k p1) p2)) p3) (.ref p) (.ref s4.heap.objs.size)) (EP X pins σ Q) X.xe { s4 with heap := s4.heap.push { cls := .type "slice", data := .fields #[.none, .none, vs] } }
    refine tail_any (ops := [.ref p, .ref s4.heap.objs.size]) ht.typeIs PyProof.Rows.slot_tuple_getitem.lookup ?_ (by with_unfolding_all rfl)
    refine getItem_tuple_rev ht (Heap.IsSliceOf.new _ .none .none vs) ps (by omega) ?_
    refine ⟨.ref _, _, I5.laid (t' := s4.toks) (o := .tup us.reverse) (fun b o q => Heap.get?_push_of_some _ q) (Nat.le_refl _) ?_, rfl, q.tup sb r.reverse (I5.hok.fresh (Nat.le_refl _))⟩
    exact ⟨by rw [List.length_reverse]; exact hz, _, rv.reverse, IsTup.new _ _⟩
end
end Dv
set_option Elab.async false
set_option linter.all false
set_option maxRecDepth 100000
set_option maxHeartbeats 2000000
/-! Part C3: what is walked. -/
namespace Dv
open PySem PySem.Spec PyProof.Rows L2

/-! ### lists and tuples at once -/
/-- a list (k) or a tuple that is read -/
def SqK (k : Bool) (K : PySem.W.Frag) (H : Hp) (a : Addr) (xs : List V) : Prop := if k = true then SqL K H a xs else SqT K H a xs
def ItK (k : Bool) (h : Heap) (it a : Addr) (i : Nat) : Prop := if k = true then h.IsListIter it a i else h.IsTupleIter it a i
def SeqK (k : Bool) (h : Heap) (a : Addr) (its : Array Value) : Prop := if k = true then h.IsList a its else h.IsTuple a its
theorem seqK_of {X : Cx} {pins : List (Addr × Obj)} {σ : L2.St} {H : Hp} {s : Shared} {k : Bool} {a : Addr} {xs : List V} (I : Inv X pins σ H s) (h : SqK k X.K H a xs) : ∃ its : List Value, Vals xs its ∧ SeqK k s.heap a its.toArray ∧ xs.length ≤ sizeLine := by
  cases k with
  | true =>
    obtain ⟨its, r, p, z⟩ := I.list (show SqL X.K H a xs from h)
    exact ⟨its, r, p.isList, z⟩
  | false =>
    obtain ⟨its, r, p, z⟩ := I.tuple (show SqT X.K H a xs from h)
    exact ⟨its, r, p, z⟩
theorem seqK_inj {X : Cx} {pins : List (Addr × Obj)} {σ : L2.St} {H : Hp} {s : Shared} {k : Bool} {a : Addr} {xs ys : List V} (I : Inv X pins σ H s) (h : SqK k X.K H a xs) (h' : SqK k X.K H a ys) : xs = ys := by
  cases k with
  | true => exact I.list_inj h h'
  | false => exact I.tuple_inj h h'
theorem drawsK {prog : Program} {w : World} {A : Around} (hh : A.handled = none) (k : Bool) {it a : Addr} (hne : a ≠ it) (items : Array Value) :
    Draws prog w A it [it, a] items.size (fun i v => items[i]? = some v) (fun i h => ItK k h it a i ∧ SeqK k h a items) := by
  cases k with
  | true => exact Draws.list hh it a hne items
  | false => exact Draws.tuple hh it a hne items
theorem ItK.at {k : Bool} {h h' : Heap} {it a : Addr} {i : Nat} (x : ItK k h it a i) (f : ∀ o, h.get? it = some o → h'.get? it = some o) : ItK k h' it a i := by
  cases k with
  | true => exact Heap.IsListIter.at x f
  | false => exact Heap.IsTupleIter.at x f
theorem ItK.obj {k : Bool} {h : Heap} {it a : Addr} {i : Nat} (x : ItK k h it a i) : ∃ o, h.get? it = some o ∧ ∀ v, o.data ≠ .cell v := by
  cases k with
  | true =>
    obtain ⟨o, e, _, d⟩ := (show h.IsListIter it a i from x)
    exact ⟨o, e, fun v z => by rw [d] at z; cases z⟩
  | false =>
    obtain ⟨o, e, _, d⟩ := (show h.IsTupleIter it a i from x)
    exact ⟨o, e, fun v z => by rw [d] at z; cases z⟩
def itObj (k : Bool) (a : Addr) : Obj := { cls := .type (if k = true then "list_iterator" else "tuple_iterator"), data := .fields #[.ref a, .int 0 0] }
theorem beginsK (k : Bool) (a : Addr) (items : Array Value) : Begins (.ref a) (itObj k a) fun h => SeqK k h a items := by
  cases k with
  | true => exact begins_list a items
  | false => exact begins_tuple a items
theorem itK_new {k : Bool} {h : Heap} {it a : Addr} (e : h.get? it = some (itObj k a)) : ItK k h it a 0 := by
  cases k with
  | true => exact ⟨_, e, rfl, rfl⟩
  | false => exact ⟨_, e, rfl, rfl⟩

/-! ### enumerate -/
def IteK (k : Bool) (K : PySem.W.Frag) (a : Addr) : It :=
  ⟨fun i H => ∃ (xs : List V) (x : V), SqK k K H a xs ∧ xs[i]? = some x, fun i H v H' => ∃ T x, v = .ref T ∧ H T = none ∧ H' = L2.upd H T (.tup [.int (i : Nat), x]) ∧ ∀ xs, SqK k K H a xs → xs[i]? = some x,
    fun i H => ∃ xs : List V, SqK k K H a xs ∧ xs.length = i⟩
theorem turn_enumK {P : Program} {w : World} {K : PySem.W.Frag} {elts : List Expr} {kk : Nat} {tpos : Pos} (k : Bool) {a e it : Addr} (hne : e ≠ it) (hai : a ≠ it) (hea : e ≠ a) :
    Turn P w K (.Tuple elts kk tpos) (IteK k K a) [e, it] e (fun i h => (∃ old, IsEnum h e it ((i : Nat) : Int) old) ∧ ItK k h it a i) where
  mem := by simp
  obj := fun i h st b hb => by
    obtain ⟨⟨old, he⟩, hi⟩ := st
    have e' : b = e ∨ b = it := by simpa using hb
    rcases e' with z | z
    · rw [z]; exact ⟨_, he, fun v q => nomatch q⟩
    · rw [z]; exact hi.obj
  keep := fun i h h' ⟨⟨old, he⟩, hi⟩ f => ⟨⟨old, f e (by simp) _ he⟩, hi.at fun o q => f it (by simp) o q⟩
  item := by
    rintro X rfl rfl rfl hc i pins s σ H E I hf ⟨⟨old, he⟩, hit⟩ ⟨xs, x, hq, hx⟩
    obtain ⟨its, rv, p, hz⟩ := seqK_of I hq
    obtain ⟨u, hu, ru⟩ := rv.get hx
    have hil : i < its.toArray.size := by
      obtain ⟨h1, _⟩ := List.getElem?_eq_some_iff.mp hu
      simpa using h1
    have hel : e < s.heap.objs.size := Heap.lt_size he
    have hitl : it < s.heap.objs.size := by obtain ⟨_, q, _⟩ := hit.obj; exact Heap.lt_size q
    have D := drawsK (prog := X.prog) (w := X.w) (A := X.A.in1) (I.ok.hd hc) k hai its.toArray
    refine wpAny_pyNext_enum_itemD D he ⟨hit, p⟩ hil hne (by simp [hne, hea]) fun x' h' tk hx' ho hst hT hsz hk => ?_
    have ex : x' = u := by
      have hx'' : its[i]? = some x' := by simpa using hx'
      rw [hu] at hx''
      exact (Option.some.inj hx'').symm
    subst ex
    refine ⟨_, rfl, wpAny_letOwnedTupleGo_enum (s := { s with heap := h', toks := tk + 1 }) ho fun h2 he' sb => ?_⟩
    have hT2 : h2.get? s.heap.objs.size = some { cls := .type "tuple", data := .seq #[.int i tk, x'] } := (sb.2 _ (Nat.ne_of_gt hel)).trans hT
    have new : ObjOk X.prog X.w (L2.upd H s.heap.objs.size (.tup [.int (i : Nat), x])) h2 s.heap.objs.size (.tup [.int (i : Nat), x]) :=
      ⟨by show 2 ≤ sizeLine; decide, [.int i tk, x'], .cons ⟨_, rfl⟩ (.cons ru .nil), ⟨_, hT2, rfl, _, rfl⟩⟩
    have I1 : Inv X pins σ (L2.upd H s.heap.objs.size (.tup [.int (i : Nat), x])) { s with heap := h2, toks := tk + 1 } :=
      I.turnedNew (ch := [e, it]) (fun b ob hb q => (sb.2 b (fun z => hb (by simp [z]))).trans (hk b ob (fun z => hb (by simp [z])) (fun z => hb (by simp [z])) q)) hf (Nat.le_refl _) new
    refine ⟨.ref s.heap.objs.size, _, I1, rfl, ⟨_, x, rfl, I.hok.fresh (Nat.le_refl _), rfl, fun ys hy => by rw [seqK_inj I hy hq]; exact hx⟩, ⟨⟨x', ?_⟩, hst.1.at fun o q => (sb.2 it (Ne.symm hne)).trans q⟩, fun b hb => ?_⟩
    · have e1 : ((i + 1 : Nat) : Int) = (i : Int) + 1 := by omega
      rw [e1]; exact he'
    · have hb' : b < s.heap.objs.size := by
        have e' : b = e ∨ b = it := by simpa using hb
        rcases e' with z | z
        · rw [z]; exact hel
        · rw [z]; exact hitl
      rw [upd_ne (Nat.ne_of_lt hb')]
      exact (hf b hb).1
  done := by
    rintro X rfl rfl rfl hc i pins s σ H E I hf ⟨⟨old, he⟩, hit⟩ ⟨xs, hq, hx⟩
    obtain ⟨its, rv, p, hz⟩ := seqK_of I hq
    obtain ⟨f0, f1, f2, f3, f4, f5⟩ := hf it (by simp)
    have hl := rv.length
    have D := drawsK (prog := X.prog) (w := X.w) (A := X.A.in1) (I.ok.hd hc) k hai its.toArray
    have hi : its.toArray.size = i := by rw [List.size_toArray]; omega
    refine wpAny_pyNext_enum_endD D he ⟨by rw [hi]; exact hit, p⟩ fun h' eb => ⟨rfl, I.turned (t' := s.toks) (fun b o hb q => eb b o hb q) f0 f1 f3 f4 f5⟩
  self := fun A i s Q E ⟨⟨_, he⟩, _⟩ h => wpAny_pyIter_enum he h
theorem meets_enumK {v : Value} {o : Obj} {H : Heap → Prop} (B : Begins v o H) :
    Meets (Builtin.«enumerate.__new__» ⟨[.type "enumerate", v], []⟩) (fun _ R s => H s.heap ∧
      R (.ok (.ret (.ref (s.heap.push o).objs.size))) { s with heap := (s.heap.push o).push { cls := .type "enumerate", data := .fields #[.none, .bool false, .ref s.heap.objs.size, rawInt 0, .none, .none] } }) :=
  .of_wp fun prog w A R s h => by
    obtain ⟨hp, g, d, tk, os⟩ := s; obtain ⟨h1, h⟩ := h
    have hsub := sub_enumerate
    have q1 : ∀ {A' : Around} {E : Value → Shared → Prop} {Q : Value → Shared → Prop}, Q (.ref hp.objs.size) ⟨hp.push o, g, d, tk, os⟩ → wpAny (model prog w) A' (pyIter v) Q E ⟨hp, g, d, tk, os⟩ :=
      fun q => B.iter prog w _ _ ⟨hp, g, d, tk, os⟩ _ h1 q
    wp_walk using q1
    refine wpAny_stack_any fun st => wpAny_pure ?_
    split
    · rename_i c _ _ _ _ _
      cases (c == Value.type "enumerate")
      · wp_walk using q1
        exact ⟨_, rfl, h⟩
      · wp_walk using q1
        exact ⟨_, rfl, h⟩
    · wp_walk using q1
      exact ⟨_, rfl, h⟩
theorem enum_beginK {prog : Program} {w : World} {A : Around} {E : Value → Shared → Prop} {s : Shared} {v : Value} {o : Obj} {H : Heap → Prop} {Q : Value → Shared → Prop} (B : Begins v o H) (h1 : H s.heap)
    (h : ∀ h', IsEnum h' (s.heap.objs.size + 1) s.heap.objs.size 0 .none → h'.get? s.heap.objs.size = some o →
      (∀ b o, s.heap.get? b = some o → h'.get? b = some o) → Q (.ref (s.heap.objs.size + 1)) { s with heap := h' }) :
    wpAny (model prog w) A (call (.type "enumerate") [v]) Q E s := by
  refine callType_new F.called_enumerate (by decide) (F.typeCall_enumerate_1 _) (F.newCall_enumerate_1 _) (fun obj => F.args_object_init_2 obj _) F.entry_enumerate_new (meets_enumK B) ⟨h1, ?_⟩
  have hz : (s.heap.push o).objs.size = s.heap.objs.size + 1 := Heap.size_push ..
  show _ ∧ _
  rw [hz]
  have he : IsEnum ((s.heap.push o).push { cls := .type "enumerate", data := .fields #[.none, .bool false, .ref s.heap.objs.size, rawInt 0, .none, .none] }) (s.heap.objs.size + 1) s.heap.objs.size 0 .none := by
    have := Heap.get?_push_size (s.heap.push o) (o := { cls := .type "enumerate", data := .fields #[.none, .bool false, .ref s.heap.objs.size, rawInt 0, .none, .none] }) rfl
    rw [hz] at this; exact this
  exact ⟨⟨_, he, rfl⟩, h _ he (Heap.get?_push_of_some _ (Heap.get?_push_size _ B.free)) fun b o x => Heap.get?_push_of_some _ (Heap.get?_push_of_some _ x)⟩
theorem seqK_lt {k : Bool} {h : Heap} {a : Addr} {its : Array Value} (x : SeqK k h a its) : a < h.objs.size := by
  cases k with
  | true =>
    obtain ⟨_, e, _⟩ := (show h.IsList a its from x)
    exact Heap.lt_size e
  | false =>
    obtain ⟨_, e, _⟩ := (show h.IsTuple a its from x)
    exact Heap.lt_size e
def iEnumK (K : PySem.W.Frag) (ta : TA) : TI := fun σ H R => ta σ H fun vs H1 => ∃ k a xs, vs = [V.ref a] ∧ SqK k K H1 a xs ∧ R (IteK k K a) H1
theorem pi_enumK {X : Cx} {e : Expr} {ta : TA} {p pos tpos : Pos} {elts : List Expr} {kk : Nat} (hg : Gl X "enumerate") (hm : X.mg "enumerate" = none) (ha : PA X [e] ta) (hs : starEach [e] X.env = [(false, eval e X.env)]) :
    PI X (.Tuple elts kk tpos) (.Call (.Name "enumerate" p) [e] [] pos) (iEnumK X.K ta) := by
  refine ⟨fun pins s σ H R I h => ?_⟩
  refine Call_ (ld_blt I hg hm boot_enumerate (PyProof.Rows.callWith_type1 (thn (ha.run pos pins s σ H _ I h) fun us s1 ⟨vs, H1, I1, r1, k, a, xs, ex, hq, q⟩ => ?_) hs rfl))
  subst ex
  obtain ⟨u, rfl, ru⟩ := vals1 r1
  cases ru
  obtain ⟨its, rv, p', hz⟩ := seqK_of I1 hq
  have hlt := seqK_lt p'
  refine enum_beginK (beginsK k a its.toArray) p' fun h' he hit hk => wpAny_pyIter_enum he ?_
  have I2 : Inv X pins σ H1 { s1 with heap := h' } := I1.kept (t' := s1.toks) hk
  refine ⟨s1.heap.objs.size + 1, [s1.heap.objs.size + 1, s1.heap.objs.size], _, _, H1, rfl, I2, turn_enumK k (Nat.succ_ne_self _) (Nat.ne_of_lt hlt) (Nat.ne_of_gt (Nat.lt_succ_of_lt hlt)), ⟨⟨.none, he⟩, itK_new hit⟩, fun b hb => ?_, q⟩
  have e' : b = s1.heap.objs.size + 1 ∨ b = s1.heap.objs.size := by simpa using hb
  have hle : s1.heap.objs.size ≤ b := by
    rcases e' with z | z
    · exact Nat.le_trans (Nat.le_succ _) (Nat.le_of_eq z.symm)
    · exact Nat.le_of_eq z.symm
  exact I1.fpOk hle (I1.hok.fresh hle)

/-! ### zip -/
def ItzK (k k2 : Bool) (K : PySem.W.Frag) (a b : Addr) : It :=
  ⟨fun i H => ∃ (xs ys : List V) (x y : V), SqK k K H a xs ∧ SqK k2 K H b ys ∧ xs[i]? = some x ∧ ys[i]? = some y,
    fun i H v H' => ∃ T x y, v = .ref T ∧ H T = none ∧ H' = L2.upd H T (.tup [x, y]) ∧ (∀ xs, SqK k K H a xs → xs[i]? = some x) ∧ ∀ ys, SqK k2 K H b ys → ys[i]? = some y,
    fun i H => ∃ xs ys : List V, SqK k K H a xs ∧ SqK k2 K H b ys ∧ i ≤ xs.length ∧ i ≤ ys.length ∧ (i = xs.length ∨ i = ys.length)⟩
theorem turn_zipK {P : Program} {w : World} {K : PySem.W.Frag} {elts : List Expr} {kk : Nat} {tpos : Pos} (k k2 : Bool) {a b z TI TO i1 i2 : Addr} (S : ZipSep2 z TI TO i1 i2 [i1, a] [i2, b]) (ha : a ≠ i1) (hb : b ≠ i2) :
    Turn P w K (.Tuple elts kk tpos) (ItzK k k2 K a b) [z, TI, TO, i1, i2] z (fun i h => IsZip h z TI TO .none ∧ IsTupOf2 h TI (.ref i1) (.ref i2) ∧ (∃ x y, IsTupOf2 h TO x y) ∧ ItK k h i1 a i ∧ ItK k2 h i2 b i) where
  mem := by simp
  obj := fun i h ⟨hz, hTI, ⟨x, y, hTO⟩, h1, h2⟩ c hc => by
    have e' : c = z ∨ c = TI ∨ c = TO ∨ c = i1 ∨ c = i2 := by simpa using hc
    rcases e' with q | q | q | q | q
    · rw [q]; exact ⟨_, hz, fun v q => nomatch q⟩
    · rw [q]; exact ⟨_, hTI, fun v q => nomatch q⟩
    · rw [q]; exact ⟨_, hTO, fun v q => nomatch q⟩
    · rw [q]; exact h1.obj
    · rw [q]; exact h2.obj
  keep := fun i h h' ⟨hz, hTI, ⟨x, y, hTO⟩, h1, h2⟩ f =>
    ⟨f z (by simp) _ hz, f TI (by simp) _ hTI, ⟨x, y, f TO (by simp) _ hTO⟩, h1.at fun o q => f i1 (by simp) o q, h2.at fun o q => f i2 (by simp) o q⟩
  item := by
    rintro X rfl rfl rfl hc i pins s σ H E I hf ⟨hz, hTI, ⟨x0, y0, hTO⟩, h1, h2⟩ ⟨xs, ys, x, y, hqx, hqy, hx, hy⟩
    obtain ⟨its, rv, p, _⟩ := seqK_of I hqx
    obtain ⟨its2, rv2, p2, _⟩ := seqK_of I hqy
    obtain ⟨u, hu, ru⟩ := rv.get hx
    obtain ⟨u2, hu2, ru2⟩ := rv2.get hy
    have hzl : z < s.heap.objs.size := Heap.lt_size hz
    have D1 := drawsK (prog := X.prog) (w := X.w) (A := X.A.in1) (I.ok.hd hc) k ha its.toArray
    have D2 := drawsK (prog := X.prog) (w := X.w) (A := X.A.in1) (I.ok.hd hc) k2 hb its2.toArray
    have l1 : i < its.toArray.size := by
      obtain ⟨q, _⟩ := List.getElem?_eq_some_iff.mp hu
      simpa using q
    have l2 : i < its2.toArray.size := by
      obtain ⟨q, _⟩ := List.getElem?_eq_some_iff.mp hu2
      simpa using q
    refine wpAny_pyNext_zipD2_item S D1 D2 hz hTI hTO ⟨h1, p⟩ ⟨h2, p2⟩ l1 l2 fun x1 x2 h' tk e1 e2 z' TO' st1 st2 hT hsz hk => ?_
    have ex : x1 = u := by
      have q : its[i]? = some x1 := by simpa using e1
      rw [hu] at q
      exact (Option.some.inj q).symm
    have ey : x2 = u2 := by
      have q : its2[i]? = some x2 := by simpa using e2
      rw [hu2] at q
      exact (Option.some.inj q).symm
    subst ex ey
    refine ⟨_, rfl, wpAny_letOwnedTupleGo_zip (s := { s with heap := h', toks := tk }) z' fun h3 z3 sb => ?_⟩
    have hT2 : h3.get? s.heap.objs.size = some { cls := .type "tuple", data := .seq #[x1, x2] } := (sb.2 _ (Nat.ne_of_gt hzl)).trans hT
    have new : ObjOk X.prog X.w (L2.upd H s.heap.objs.size (.tup [x, y])) h3 s.heap.objs.size (.tup [x, y]) :=
      ⟨by show 2 ≤ sizeLine; decide, [x1, x2], .cons ru (.cons ru2 .nil), ⟨_, hT2, rfl, _, rfl⟩⟩
    have I1 : Inv X pins σ (L2.upd H s.heap.objs.size (.tup [x, y])) { s with heap := h3, toks := tk } :=
      I.turnedNew (ch := [z, TI, TO, i1, i2]) (fun c o hb q => (sb.2 c (fun q' => hb (by simp [q']))).trans (hk c o (fun q' => hb (by simp [q'])) (fun q' => hb (by simp [q'])) (fun q' => hb (by simp [q'])) (fun q' => hb (by simp [q'])) q)) hf (Nat.le_refl _) new
    refine ⟨.ref s.heap.objs.size, _, I1, rfl, ⟨_, x, y, rfl, I.hok.fresh (Nat.le_refl _), rfl, fun l hl => by rw [seqK_inj I hl hqx]; exact hx, fun l hl => by rw [seqK_inj I hl hqy]; exact hy⟩, ⟨z3, ?_, ⟨x1, x2, ?_⟩, ?_, ?_⟩, fun c hcm => ?_⟩
    · exact (sb.2 _ S.TIz).trans (hk _ _ S.TIz S.TITO S.TIi1 S.TIi2 hTI)
    · exact (sb.2 _ S.TOz).trans TO'
    · exact st1.1.at fun o q => (sb.2 _ S.zi1.symm).trans q
    · exact st2.1.at fun o q => (sb.2 _ S.zi2.symm).trans q
    · have hlt : c < s.heap.objs.size := by
        have e' : c = z ∨ c = TI ∨ c = TO ∨ c = i1 ∨ c = i2 := by simpa using hcm
        rcases e' with q | q | q | q | q
        · rw [q]; exact hzl
        · rw [q]; exact Heap.lt_size hTI
        · rw [q]; exact Heap.lt_size hTO
        · rw [q]; obtain ⟨_, e, _⟩ := h1.obj; exact Heap.lt_size e
        · rw [q]; obtain ⟨_, e, _⟩ := h2.obj; exact Heap.lt_size e
      rw [upd_ne (Nat.ne_of_lt hlt)]
      exact (hf c hcm).1
  done := by
    rintro X rfl rfl rfl hc i pins s σ H E I hf ⟨hz, hTI, ⟨x0, y0, hTO⟩, h1, h2⟩ ⟨xs, ys, hqx, hqy, n1, n2, hend⟩
    obtain ⟨its, rv, p, _⟩ := seqK_of I hqx
    obtain ⟨its2, rv2, p2, _⟩ := seqK_of I hqy
    have l1 := rv.length
    have l2 := rv2.length
    have D1 := drawsK (prog := X.prog) (w := X.w) (A := X.A.in1) (I.ok.hd hc) k ha its.toArray
    have D2 := drawsK (prog := X.prog) (w := X.w) (A := X.A.in1) (I.ok.hd hc) k2 hb its2.toArray
    exact wpAny_pyNext_zipD2_end S D1 D2 hz hTI hTO ⟨h1, p⟩ ⟨h2, p2⟩ (by rw [List.size_toArray]; omega) (by rw [List.size_toArray]; omega) (by rw [List.size_toArray, List.size_toArray]; omega) fun h' tk hk => ⟨rfl, I.turnedL (t' := tk) (ch := [z, TI, TO, i1, i2]) (fun c o hb q =>
      hk c o (fun q' => hb (by simp [q'])) (fun q' => hb (by simp [q'])) (fun q' => hb (by simp [q'])) (fun q' => hb (by simp [q'])) q) hf⟩
  self := fun A i s Q E st h => wpAny_pyIter_zip st.1 h
theorem zip_sep (n a b : Nat) (ha : a < n) (hb : b < n) : ZipSep2 (n + 4) (n + 2) (n + 3) n (n + 1) [n, a] [n + 1, b] := by
  have ne : ∀ x y : Nat, x < y → (x : Addr) ≠ y ∧ (y : Addr) ≠ x := fun x y h => ⟨Nat.ne_of_lt h, Nat.ne_of_gt h⟩
  have two : ∀ x y z : Nat, x ≠ y → x ≠ z → (x : Addr) ∉ ([y, z] : List Addr) := fun x y z h1 h2 q => by
    rcases List.mem_cons.mp q with q | q
    · exact h1 q
    · exact h2 (List.mem_singleton.mp q)
  exact ⟨(ne _ _ (by omega)).1, (ne _ _ (by omega)).1, (ne _ _ (by omega)).1, (ne _ _ (by omega)).2, List.mem_cons_self, two _ _ _ (by omega) (by omega), two _ _ _ (by omega) (by omega),
    (ne _ _ (by omega)).2, List.mem_cons_self, two _ _ _ (by omega) (by omega), two _ _ _ (by omega) (by omega), two _ _ _ (by omega) (by omega), two _ _ _ (by omega) (by omega)⟩
def iZipK (K : PySem.W.Frag) (ta : TA) : TI := fun σ H R => ta σ H fun vs H1 => ∃ k k2 a b xs ys, vs = [V.ref a, V.ref b] ∧ SqK k K H1 a xs ∧ SqK k2 K H1 b ys ∧ R (ItzK k k2 K a b) H1
theorem pi_zipK {X : Cx} {e e2 : Expr} {ta : TA} {p pos tpos : Pos} {elts : List Expr} {kk : Nat} (hg : Gl X "zip") (hm : X.mg "zip" = none) (ha : PA X [e, e2] ta)
    (hs : starEach [e, e2] X.env = (false, eval e X.env) :: starEach [e2] X.env) (hpl : (backTo pos (starEach [e2] X.env)).any (·.1) = false) :
    PI X (.Tuple elts kk tpos) (.Call (.Name "zip" p) [e, e2] [] pos) (iZipK X.K ta) := by
  refine ⟨fun pins s σ H R I h => ?_⟩
  refine Call_ (ld_blt I hg hm PyProof.Rows.boot_zip (PyProof.Rows.callWith_type1 (thn (ha.run pos pins s σ H _ I h) fun us s1 ⟨vs, H1, I1, r1, k, k2, a, b, xs, ys, ex, hqx, hqy, q⟩ => ?_) hs hpl))
  subst ex
  obtain ⟨u, u', rfl, ru, ru'⟩ := vals2 r1
  cases ru
  cases ru'
  obtain ⟨its, rv, p1, _⟩ := seqK_of I1 hqx
  obtain ⟨its2, rv2, p2, _⟩ := seqK_of I1 hqy
  have hla := seqK_lt p1
  have hlb := seqK_lt p2
  refine zip_begins2 (beginsK k a its.toArray) (beginsK k2 b its2.toArray) p1 p2 fun h' hz hTI hTO h1 h2 hsz hk => wpAny_pyIter_zip hz ?_
  have I2 : Inv X pins σ H1 { s1 with heap := h' } := I1.kept (t' := s1.toks) hk
  have S := zip_sep s1.heap.objs.size a b hla hlb
  refine ⟨s1.heap.objs.size + 4, [s1.heap.objs.size + 4, s1.heap.objs.size + 2, s1.heap.objs.size + 3, s1.heap.objs.size, s1.heap.objs.size + 1], _, _, H1, rfl, I2, turn_zipK k k2 S (Nat.ne_of_lt hla) (Nat.ne_of_lt (Nat.lt_succ_of_lt hlb)), ⟨hz, hTI, ⟨_, _, hTO⟩, itK_new h1, itK_new h2⟩, fun c hcm => ?_, q⟩
  have e' : c = s1.heap.objs.size + 4 ∨ c = s1.heap.objs.size + 2 ∨ c = s1.heap.objs.size + 3 ∨ c = s1.heap.objs.size ∨ c = s1.heap.objs.size + 1 := by simpa using hcm
  have hle : s1.heap.objs.size ≤ c := by
    rcases e' with z | z | z | z | z <;> rw [z] <;> first | exact Nat.le_refl _ | exact Nat.le_add_right _ _
  exact I1.fpOk hle (I1.hok.fresh hle)
end Dv
set_option Elab.async false
set_option linter.all false
set_option maxRecDepth 100000
set_option maxHeartbeats 1000000
/-! Part D: readings by the evaluator. -/
namespace Dv
open PySem PySem.Spec PyProof.Rows L2

section
variable {G : Ct} {Hs Hs' Hs1 Hs2 H H' H1 H2 : Hp} {σ : L2.St} {ρ ρ1 ρ2 : Env} {fp fp1 fp2 : Nat → Fp} {ro : Bool} {v : V} {o : O} {f : Fp}
theorem Xt.go (x : Xt Hs H Hs' H') : Go ro Hs H fp Hs' H' fp :=
  ⟨x.ex, fun b o e _ => x.all b o e, fun i b h => .inl ⟨i, h⟩, fun b o e => (x.grow b o e).imp id .inr, fun _ => ⟨x.all, rfl⟩⟩
theorem Xt.keep (x : Xt Hs H Hs' H') {b : Addr} {u : HO} (e : H b = some u) (n : Hs b = none) : H' b = H b ∧ Hs' b = none := by
  refine ⟨(x.all b u e).trans e.symm, ?_⟩
  cases q : Hs' b with
  | none => rfl
  | some w =>
    rcases x.grow b w q with z | z
    · rw [n] at z; cases z
    · rw [e] at z; cases z
theorem RO.xt (r : RO G Hs H v o f) (x : Xt Hs H Hs' H') : RO G Hs' H' v o f := r.mono x.ex fun b hb => by
  obtain ⟨⟨vs, e⟩, n⟩ := r.at_ b hb
  exact x.keep e n
theorem ROs.xt {vs : List V} {os : List O} (r : ROs G Hs H vs os f) (x : Xt Hs H Hs' H') : ROs G Hs' H' vs os f := r.mono x.ex fun b hb => by
  obtain ⟨⟨vs, e⟩, n⟩ := r.at_ b hb
  exact x.keep e n
theorem Stt.xt (S : Stt G Hs H σ ρ fp) (x : Xt Hs H Hs' H') : Stt G Hs' H' σ ρ fp :=
  ⟨x.sub, S.len, fun i o e => let ⟨v, h, r⟩ := S.slot i o e; ⟨v, h, r.xt x⟩, S.emp, S.dis⟩
/-- borrowed (true): a part of the slots' trees; or owned -/
def Vw (b : Bool) (H : Hp) (fp fp' : Nat → Fp) (f : Fp) : Prop := if b = true then ∀ c, f c → ∃ i, fp' i c else Own H fp fp' f
theorem Vw.carry {b : Bool} (S2 : Stt G Hs2 H2 σ ρ2 fp2) (r : RO G Hs1 H1 v o f) (w : Vw b H fp fp1 f) (g : Go (ro || b) Hs1 H1 fp1 Hs2 H2 fp2) : RO G Hs2 H2 v o f ∧ Vw b H fp fp2 f := by
  cases b with
  | false => exact ⟨r.held (fun c hc => (w c hc).1) g, Own.held r w g⟩
  | true =>
    obtain ⟨q1, q2⟩ := g.quiet (by simp)
    subst q2
    refine ⟨r.mono g.ex fun c hc => ?_, w⟩
    obtain ⟨i, hi⟩ := w c hc
    obtain ⟨⟨us, e⟩, _⟩ := r.at_ c hc
    exact ⟨(q1 c _ e).trans e.symm, (S2.own hi).2⟩
/-- what is new owns nothing else's -/
theorem own_new (S : Stt G Hs1 H1 σ ρ1 fp1) (g : Go ro Hs H fp Hs1 H1 fp1) (n : ∀ b, f b → H1 b = none) : Own H fp fp1 f := fun b hb => by
  have hn := n b hb
  refine ⟨fun i hi => ?_, ?_⟩
  · obtain ⟨⟨vs, e⟩, _⟩ := S.own hi
    rw [e] at hn
    cases hn
  · cases q : H b with
    | none => exact .inr rfl
    | some u =>
      by_cases z : ∃ j, fp j b
      · exact .inl z
      · have := g.frame b u q fun j hj => z ⟨j, hj⟩
        rw [this] at hn
        cases hn
theorem RO.own_leaf (r : RO G Hs H v o f) (h : O.own o = false) : Own H1 fp fp1 f := by
  cases r with
  | d r => exact fun _ h => h.elim
  | ls => cases h
  | nl => cases h
/-- what is owned from here is owned from before -/
theorem own_from (g : Go ro Hs H fp Hs1 H1 fp1) (ow : Own H1 fp1 fp2 f) : Own H fp fp2 f := fun b hb => by
  obtain ⟨n, h⟩ := ow b hb
  refine ⟨n, ?_⟩
  rcases h with ⟨j, hj⟩ | hn
  · exact g.orig j b hj
  · cases q : H b with
    | none => exact .inr rfl
    | some u =>
      by_cases z : ∃ j, fp j b
      · exact .inl z
      · have := g.frame b u q fun j hj => z ⟨j, hj⟩
        rw [this] at hn
        cases hn
theorem own_none : Own H fp fp1 (fun _ => False) := fun _ h => h.elim
theorem R.bind_ok {α β : Type} {r : R α} {k : α → Env → R β} {b : β} {ρ' : Env} (h : r.bind k = .ok b ρ') : ∃ a ρ1, r = .ok a ρ1 ∧ k a ρ1 = .ok b ρ' := by
  cases r with
  | ok a ρ1 => exact ⟨a, ρ1, rfl, h⟩
  | ex => cases h
  | bad => cases h
theorem lift_ok {α : Type} {x : Option α} {a : α} (h : lift x ρ = .ok a ρ1) : x = some a ∧ ρ1 = ρ := by
  unfold lift at h
  split at h
  · cases h; exact ⟨rfl, rfl⟩
  · cases h
theorem map_pair {x : Option O} {y : Bool × O} (h : x.map (fun o => (false, o)) = some y) : x = some y.2 ∧ y.1 = false := by
  obtain ⟨o, e, rfl⟩ := Option.map_eq_some_iff.mp h
  exact ⟨e, rfl⟩
end

/-! ### the readings -/
def hint : E → Option Nat
  | .v i => some i
  | _ => none
structure VwB (lv : Option Nat) (σ : L2.St) (v : V) (b : Bool) (H : Hp) (fp fp' : Nat → Fp) (f : Fp) : Prop where
  vw : Vw b H fp fp' f
  at_ : b = true → ∀ i, lv = some i → σ[i]? = some (some v) ∧ ∀ c, f c → fp' i c
/-- a moment: from (Hs, H, fp) here -/
structure Mo (G : Ct) (σ : L2.St) (ro : Bool) (Hs H : Hp) (fp : Nat → Fp) (ρ' : Env) (Hs' H' : Hp) (fp' : Nat → Fp) : Prop where
  st : Stt G Hs' H' σ ρ' fp'
  go : Go ro Hs H fp Hs' H' fp'
theorem Mo.refl {G : Ct} {σ : L2.St} {ro : Bool} {Hs H : Hp} {fp : Nat → Fp} {ρ : Env} (S : Stt G Hs H σ ρ fp) : Mo G σ ro Hs H fp ρ Hs H fp := ⟨S, Go.refl⟩
theorem Mo.then {G : Ct} {σ : L2.St} {ro ro' : Bool} {Hs H Hs1 H1 Hs2 H2 : Hp} {fp fp1 fp2 : Nat → Fp} {ρ1 ρ2 : Env} (a : Mo G σ ro Hs H fp ρ1 Hs1 H1 fp1) (b : Mo G σ ro' Hs1 H1 fp1 ρ2 Hs2 H2 fp2) (h : ro = true → ro' = true) : Mo G σ ro Hs H fp ρ2 Hs2 H2 fp2 :=
  ⟨b.st, a.go.trans a.st b.go h⟩
theorem Mo.xt {G : Ct} {σ : L2.St} {ro : Bool} {Hs H Hs1 H1 Hs2 H2 : Hp} {fp fp1 : Nat → Fp} {ρ1 : Env} (a : Mo G σ ro Hs H fp ρ1 Hs1 H1 fp1) (x : Xt Hs1 H1 Hs2 H2) : Mo G σ ro Hs H fp ρ1 Hs2 H2 fp1 :=
  ⟨a.st.xt x, a.go.trans a.st (x.go (ro := true)) fun _ => rfl⟩
section
variable (G : Ct) (cf : Nat → List O → CR)
/-- a view comes -/
def PB (lv : Option Nat) (σ : L2.St) (ro : Bool) (Hs H : Hp) (fp : Nat → Fp) (r : R (Bool × O)) (Q : VK) : Prop :=
  ∃ b o ρ', r = .ok (b, o) ρ' ∧ ∀ v Hs' H' fp' f, Mo G σ ro Hs H fp ρ' Hs' H' fp' → RO G Hs' H' v o f → VwB lv σ v b H fp fp' f → Q v H'
def PV (σ : L2.St) (ro : Bool) (Hs H : Hp) (fp : Nat → Fp) (r : R O) (Q : VK) : Prop :=
  ∃ o ρ', r = .ok o ρ' ∧ ∀ v Hs' H' fp' f, Mo G σ ro Hs H fp ρ' Hs' H' fp' → RO G Hs' H' v o f → Own H fp fp' f → Q v H'
def tBv (e : E) : TE := fun σ H Q => ∃ ro Hs ρ fp, Stt G Hs H σ ρ fp ∧ PB G (hint e) σ ro Hs H fp (evB cf e ro ρ) Q
def tV (e : E) : TE := fun σ H Q => ∃ ro Hs ρ fp, Stt G Hs H σ ρ fp ∧ PV G σ ro Hs H fp (asV e ro (evB cf e ro ρ)) Q
def tW (es : E) : TA := fun σ H Q => ∃ ro Hs ρ fp, Stt G Hs H σ ρ fp ∧ ∃ os ρ', evW cf es ro ρ = .ok os ρ' ∧ ∀ vs Hs' H' fp', Mo G σ ro Hs H fp ρ' Hs' H' fp' → Vws G Hs' H' vs os → Q vs H'
def tL (es : E) : TA := fun σ H Q => ∃ ro Hs ρ fp, Stt G Hs H σ ρ fp ∧ ∃ os ρ', evL cf es ro ρ = .ok os ρ' ∧ ∀ vs Hs' H' fp' f, Mo G σ ro Hs H fp ρ' Hs' H' fp' → ROs G Hs' H' vs os f → Own H fp fp' f → Q vs H'
/-- arguments -/
inductive Ars (Hs : Hp) (σ : L2.St) : List V → List Arg → Prop
  | nil : Ars Hs σ [] []
  | val {v : V} {x : D} {vs : List V} {as : List Arg} : RD G Hs v x → Ars Hs σ vs as → Ars Hs σ (v :: vs) (.val (.d x) :: as)
  | io {v : V} {i : Nat} {vs : List V} {as : List Arg} : σ[i]? = some (some v) → Ars Hs σ vs as → Ars Hs σ (v :: vs) (.io i :: as)
def tAr (es : E) : TA := fun σ H Q => ∃ ro Hs ρ fp, Stt G Hs H σ ρ fp ∧ ∃ as ρ', evA cf es ro ρ = .ok as ρ' ∧ ∀ vs Hs' H' fp', Mo G σ ro Hs H fp ρ' Hs' H' fp' → Ars G Hs' σ vs as → Q vs H'
def tTs (e : E) : TT := fun σ H Q => ∃ ro Hs ρ fp, Stt G Hs H σ ρ fp ∧ ∃ t ρ', evT cf e ro ρ = .ok t ρ' ∧ ∀ Hs' H' fp', Mo G σ ro Hs H fp ρ' Hs' H' fp' → Q t H'
def tOp1 (e : E) : TO := fun σ H Q => ∃ ro Hs ρ fp, Stt G Hs H σ ρ fp ∧ ∃ t ρ', evO cf e ro ρ = .ok t ρ' ∧ ∀ Hs' H' fp', Mo G σ ro Hs H fp ρ' Hs' H' fp' → Q t H'
end
theorem pe_imp {X : Cx} {e : Expr} {t t' : TE} (h : PE X e t) (k : ∀ σ H Q, t' σ H Q → t σ H Q) : PE X e t' := ⟨fun pins s σ H Q I q => h.run pins s σ H Q I (k σ H Q q)⟩
theorem pt_imp {X : Cx} {e : Expr} {t t' : TT} (h : PT X e t) (k : ∀ σ H Q, t' σ H Q → t σ H Q) : PT X e t' := ⟨fun pins s σ H Q I q => h.run pins s σ H Q I (k σ H Q q)⟩
theorem pa_imp {X : Cx} {e : List Expr} {t t' : TA} (h : PA X e t) (k : ∀ σ H Q, t' σ H Q → t σ H Q) : PA X e t' := ⟨fun pos pins s σ H Q I q => h.run pos pins s σ H Q I (k σ H Q q)⟩
theorem po_imp {X : Cx} {e : Option Expr} {t t' : TO} (h : PO X e t) (k : ∀ σ H Q, t' σ H Q → t σ H Q) : PO X e t' := ⟨fun pins s σ H Q I q => h.run pins s σ H Q I (k σ H Q q)⟩

section
variable {G : Ct} {σ : L2.St} {ro : Bool} {Hs H Hs1 H1 Hs2 H2 : Hp} {fp fp1 fp2 : Nat → Fp} {ρ1 ρ2 : Env} {lv : Option Nat} {Q : VK} {v : V} {o : O} {f : Fp}
theorem VwB.own (w : Own H fp fp1 f) : VwB lv σ v false H fp fp1 f := ⟨w, fun e => nomatch e⟩
theorem VwB.toOwn (w : VwB lv σ v false H fp fp1 f) : Own H fp fp1 f := w.vw
/-- any new value serves -/
theorem Mo.res (m : Mo G σ ro Hs H fp ρ1 Hs1 H1 fp1) (K : ∀ v Hs' H' fp' f, Mo G σ ro Hs H fp ρ1 Hs' H' fp' → RO G Hs' H' v o f → VwB lv σ v false H fp fp' f → Q v H') : Res G Hs1 H1 o Q :=
  fun v Hs' H' f x r n => K v Hs' H' fp1 f (m.xt x) r ⟨own_new m.st m.go n, fun e => nomatch e⟩
theorem Mo.leaf {x : D} (m : Mo G σ ro Hs H fp ρ1 Hs1 H1 fp1) (K : ∀ v Hs' H' fp' f, Mo G σ ro Hs H fp ρ1 Hs' H' fp' → RO G Hs' H' v (.d x) f → VwB lv σ v false H fp fp' f → Q v H') (h : RD G Hs1 v x) : Q v H1 :=
  K v Hs1 H1 fp1 _ m (.d h) (VwB.own own_none)
theorem Mo.resV (m : Mo G σ ro Hs H fp ρ1 Hs1 H1 fp1) (K : ∀ v Hs' H' fp' f, Mo G σ ro Hs H fp ρ1 Hs' H' fp' → RO G Hs' H' v o f → Own H fp fp' f → Q v H') : Res G Hs1 H1 o Q :=
  fun v Hs' H' f x r n => K v Hs' H' fp1 f (m.xt x) r (own_new m.st m.go n)
/-- what was held is here still -/
theorem Mo.carry {b : Bool} (m2 : Mo G σ (ro || b) Hs1 H1 fp1 ρ2 Hs2 H2 fp2) (r : RO G Hs1 H1 v o f) (w : VwB lv σ v b H fp fp1 f) : RO G Hs2 H2 v o f ∧ Vw b H fp fp2 f := Vw.carry m2.st r w.vw m2.go
end

/-! ### the rules: small expressions -/
section
variable {X : Cx} {fa : Nat → Addr} {cf : Nat → List O → CR} {ea eb ec : E} {a b c : Expr} {pos : Pos}
theorem orT {x y : Bool} (h : x = true) : (x || y) = true := by rw [h]; rfl
theorem sv_v {i : Nat} {x : Str} (hN : X.N[i]? = some x) (hv : Vis X.env.scope x) (h1 : (x == ("__debug__" : Str)) = false) (h2 : (x == ("__classdict__" : Str)) = false) : PE X (.Name x pos) (tBv (ct X fa) cf (.v i)) := by
  refine pe_imp (pe_var (i := i) hN hv h1 h2) ?_
  rintro σ H Q ⟨ro, Hs, ρ, fp, S, b, o, ρ', e, K⟩
  rw [evB] at e
  split at e
  · rename_i u hu
    cases e
    obtain ⟨v, h, r⟩ := S.slot i _ hu
    refine ⟨v, h, K v Hs H fp (fp i) (Mo.refl S) r ⟨?_, fun _ j hj => ?_⟩⟩
    · unfold Vw
      split
      · exact fun c hc => ⟨i, hc⟩
      · rename_i ho
        have : O.own o = false := by
          cases h : O.own o with
          | true => exact absurd h ho
          | false => rfl
        exact r.own_leaf this
    · cases hj
      exact ⟨h, fun _ hc => hc⟩
  · cases e
/-- a constant -/
theorem sv_c {v : V} {x : D} (h : PE X a (tC v)) (r : ∀ Hs, RD (ct X fa) Hs v x) : PE X a (tBv (ct X fa) cf (.c x)) := by
  refine pe_imp h ?_
  rintro σ H Q ⟨ro, Hs, ρ, fp, S, b, o, ρ', e, K⟩
  rw [evB] at e
  cases e
  exact (Mo.refl S).leaf K (r Hs)
theorem sv_tup {es : List Expr} {el : E} {k : Nat} (h : PA X es (tL (ct X fa) cf el)) (hz : ∀ ro ρ os ρ', evL cf el ro ρ = .ok os ρ' → os.length ≤ sizeLine) : PE X (.Tuple es k pos) (tBv (ct X fa) cf (.tup el)) := by
  refine pe_imp (pe_tup h) ?_
  rintro σ H Q ⟨ro, Hs, ρ, fp, S, b, o, ρ', e, K⟩
  rw [evB] at e
  obtain ⟨os, ρ1, e1, e2⟩ := R.bind_ok e
  cases e2
  refine ⟨ro, Hs, ρ, fp, S, os, _, e1, fun vs Hs' H' fp' f m r ow => ⟨by rw [r.length]; exact hz _ _ _ _ e1, fun p hp => ?_⟩⟩
  -- the parts are frozen, then the tuple is laid
  have m1 : Mo (ct X fa) σ ro Hs H fp ρ' (thaw Hs' H' f) H' fp' := by
    refine ⟨⟨thaw_sub m.st.sub, m.st.len, fun i o e => ?_, m.st.emp, m.st.dis⟩, ⟨m.go.ex.trans (thaw_same m.st.sub), m.go.frame, m.go.orig, fun c u e => ?_, m.go.quiet⟩⟩
    · obtain ⟨v, h, r⟩ := m.st.slot i o e
      refine ⟨v, h, r.mono (thaw_same m.st.sub) fun c hc => ⟨rfl, ?_⟩⟩
      rw [thaw_out fun hf => (ow c hf).1 i hc]
      exact (r.at_ c hc).2
    · rcases thaw_grow e with h | h
      · exact m.go.grow c u h
      · exact .inr (ow c h).2
  have r1 : RDs (ct X fa) (thaw Hs' H' f) vs (frzs os) := r.thaw' m.st.sub fun _ h => h
  exact (m1.res K).tup m1.st.sub r1 hp
theorem sv_lst {es : List Expr} {el : E} (h : PA X es (tL (ct X fa) cf el)) (hz : ∀ ro ρ os ρ', evL cf el ro ρ = .ok os ρ' → os.length ≤ sizeLine) : PE X (.List es pos) (tBv (ct X fa) cf (.lst el)) := by
  refine pe_imp (pe_lst h) ?_
  rintro σ H Q ⟨ro, Hs, ρ, fp, S, b, o, ρ', e, K⟩
  rw [evB] at e
  obtain ⟨os, ρ1, e1, e2⟩ := R.bind_ok e
  cases e2
  refine ⟨ro, Hs, ρ, fp, S, os, _, e1, fun vs Hs' H' fp' f m r ow => ⟨by rw [r.length]; exact hz _ _ _ _ e1, fun p hp => ?_⟩⟩
  have x : Xt Hs' H' Hs' (L2.upd H' p (.lst vs)) := Xt.own m.st.sub hp
  have np : ¬ f p := fun h => by
    obtain ⟨⟨_, e⟩, _⟩ := r.at_ p h
    rw [hp] at e
    cases e
  refine K _ _ _ _ _ (m.xt x) (RO.mkL upd_same (none_sub m.st.sub hp) (r.xt x) np) (VwB.own fun c hc => ?_)
  rcases hc with rfl | hc
  · exact own_new (f := fun b => b = c) m.st m.go (fun b hb => by rw [hb]; exact hp) c rfl
  · exact ow c hc
theorem sv_bin {op : Op} (ha : PE X a (tBv (ct X fa) cf ea)) (hb : PE X b (tBv (ct X fa) cf eb)) : PE X (.BinOp a (opP op) b pos) (tBv (ct X fa) cf (.bin op ea eb)) := by
  refine pe_imp (pe_op (op_bin (fa := fa) op) ha hb) ?_
  rintro σ H Q ⟨ro, Hs, ρ, fp, S, b, o, ρ', e, K⟩
  rw [evB] at e
  obtain ⟨⟨bx, ox⟩, ρ1, e1, e⟩ := R.bind_ok e
  obtain ⟨⟨bY, oy⟩, ρ2, e2, e⟩ := R.bind_ok e
  obtain ⟨e3, rfl⟩ := lift_ok e
  obtain ⟨e4, e5⟩ := map_pair e3
  simp only at e1 e2 e3 e4 e5
  subst e5
  refine ⟨ro, Hs, ρ, fp, S, bx, ox, ρ1, e1, fun x Hs1 H1 fp1 f1 m1 r1 w1 => ⟨ro || bx, Hs1, ρ1, fp1, m1.st, bY, oy, _, e2, fun y Hs2 H2 fp2 f2 m2 r2 w2 => ?_⟩⟩
  obtain ⟨r1', _⟩ := m2.carry r1 w1
  have m := m1.then m2 orT
  exact ⟨Hs2, ox, oy, f1, f2, o, m.st.sub, r1', r2, e4, m.res K⟩
theorem sv_cmp {op : Cm} (hu : X.A.units + 65 < cLine) (ha : PE X a (tBv (ct X fa) cf ea)) (hb : PE X b (tBv (ct X fa) cf eb)) (hm : behindInMarks (cmP op) b = false) : PE X (.Compare a [cmP op] [b] pos) (tBv (ct X fa) cf (.cmp op ea eb)) := by
  refine pe_imp (pe_cmpR (op_cmp (fa := fa) hu op) ha hb hm) ?_
  rintro σ H Q ⟨ro, Hs, ρ, fp, S, b, o, ρ', e, K⟩
  rw [evB] at e
  obtain ⟨⟨bx, ox⟩, ρ1, e1, e⟩ := R.bind_ok e
  obtain ⟨⟨bY, oy⟩, ρ2, e2, e⟩ := R.bind_ok e
  obtain ⟨e3, rfl⟩ := lift_ok e
  obtain ⟨t, e4, e5⟩ := Option.map_eq_some_iff.mp e3
  cases e5
  refine ⟨ro, Hs, ρ, fp, S, bx, ox, ρ1, e1, fun x Hs1 H1 fp1 f1 m1 r1 w1 => ⟨ro || bx, Hs1, ρ1, fp1, m1.st, bY, oy, _, e2, fun y Hs2 H2 fp2 f2 m2 r2 w2 => ?_⟩⟩
  obtain ⟨r1', _⟩ := m2.carry r1 w1
  have m := m1.then m2 orT
  exact ⟨_, _, t, r1'.view m.st.sub, r2.view m.st.sub, e4, m.leaf K (.bl t)⟩
theorem st_cmp {op : Cm} (hu : X.A.units + 65 < cLine) (ha : PE X a (tBv (ct X fa) cf ea)) (hb : PE X b (tBv (ct X fa) cf eb)) (hm : behindInMarks (cmP op) b = false) : PT X (.Compare a [cmP op] [b] pos) (tTs (ct X fa) cf (.cmp op ea eb)) := by
  refine pt_imp (pt_cmpR (op_cmp (fa := fa) hu op) ha hb hm) ?_
  rintro σ H Q ⟨ro, Hs, ρ, fp, S, t, ρ', e, K⟩
  rw [evT] at e
  obtain ⟨⟨bx, ox⟩, ρ1, e1, e⟩ := R.bind_ok e
  obtain ⟨⟨bY, oy⟩, ρ2, e2, e⟩ := R.bind_ok e
  obtain ⟨e4, rfl⟩ := lift_ok e
  refine ⟨ro, Hs, ρ, fp, S, bx, ox, ρ1, e1, fun x Hs1 H1 fp1 f1 m1 r1 w1 => ⟨ro || bx, Hs1, ρ1, fp1, m1.st, bY, oy, _, e2, fun y Hs2 H2 fp2 f2 m2 r2 w2 => ?_⟩⟩
  obtain ⟨r1', _⟩ := m2.carry r1 w1
  have m := m1.then m2 orT
  exact ⟨_, _, t, r1'.view m.st.sub, r2.view m.st.sub, e4, t, rfl, K _ _ _ m⟩
theorem sv_chn {op op' : Cm} (hu : X.A.units + 65 < cLine) (ha : PE X a (tBv (ct X fa) cf ea)) (hb : PE X b (tBv (ct X fa) cf eb)) (hc : PE X c (tBv (ct X fa) cf ec)) (hm : lastMarks [cmP op, cmP op'] [b, c] = false) :
    PE X (.Compare a [cmP op, cmP op'] [b, c] pos) (tBv (ct X fa) cf (.chn op op' ea eb ec)) := by
  refine pe_imp (pe_chain (op_cmp (fa := fa) hu op) (op_cmp (fa := fa) hu op') ha hb hc hm) ?_
  rintro σ H Q ⟨ro, Hs, ρ, fp, S, b, o, ρ', e, K⟩
  rw [evB] at e
  obtain ⟨⟨bx, ox⟩, ρ1, e1, e⟩ := R.bind_ok e
  obtain ⟨⟨bY, oy⟩, ρ2, e2, e⟩ := R.bind_ok e
  obtain ⟨t, ρ3, e3', e⟩ := R.bind_ok e
  obtain ⟨e3, rfl⟩ := lift_ok e3'
  refine ⟨ro, Hs, ρ, fp, S, bx, ox, ρ1, e1, fun x Hs1 H1 fp1 f1 m1 r1 w1 => ⟨ro || bx, Hs1, ρ1, fp1, m1.st, bY, oy, _, e2, fun y Hs2 H2 fp2 f2 m2 r2 w2 => ?_⟩⟩
  obtain ⟨r1', _⟩ := m2.carry r1 w1
  have m := m1.then m2 orT
  refine ⟨_, _, t, r1'.view m.st.sub, r2.view m.st.sub, e3, t, rfl, ?_⟩
  cases t with
  | false =>
    rw [if_neg Bool.false_ne_true] at e ⊢
    cases e
    exact m.leaf K (.bl false)
  | true =>
    rw [if_pos rfl] at e ⊢
    obtain ⟨⟨bz, oz⟩, ρ4, e4, e⟩ := R.bind_ok e
    obtain ⟨e5, rfl⟩ := lift_ok e
    obtain ⟨t, e6, e7⟩ := Option.map_eq_some_iff.mp e5
    cases e7
    refine ⟨ro || bY, Hs2, _, fp2, m2.st, bz, oz, _, e4, fun z Hs3 H3 fp3 f3 m3 r3 w3 => ?_⟩
    obtain ⟨r2', _⟩ := m3.carry r2 w2
    have m' := m.then m3 orT
    exact ⟨_, _, t, r2'.view m'.st.sub, r3.view m'.st.sub, e6, m'.leaf K (.bl t)⟩
theorem st_chn {op op' : Cm} (hu : X.A.units + 65 < cLine) (ha : PE X a (tBv (ct X fa) cf ea)) (hb : PE X b (tBv (ct X fa) cf eb)) (hc : PE X c (tBv (ct X fa) cf ec)) (hm : lastMarks [cmP op, cmP op'] [b, c] = false) :
    PT X (.Compare a [cmP op, cmP op'] [b, c] pos) (tTs (ct X fa) cf (.chn op op' ea eb ec)) := by
  refine pt_imp (pt_chain (op_cmp (fa := fa) hu op) (op_cmp (fa := fa) hu op') ha hb hc hm) ?_
  rintro σ H Q ⟨ro, Hs, ρ, fp, S, tt, ρ', e, K⟩
  rw [evT] at e
  obtain ⟨⟨bx, ox⟩, ρ1, e1, e⟩ := R.bind_ok e
  obtain ⟨⟨bY, oy⟩, ρ2, e2, e⟩ := R.bind_ok e
  obtain ⟨t, ρ3, e3', e⟩ := R.bind_ok e
  obtain ⟨e3, rfl⟩ := lift_ok e3'
  refine ⟨ro, Hs, ρ, fp, S, bx, ox, ρ1, e1, fun x Hs1 H1 fp1 f1 m1 r1 w1 => ⟨ro || bx, Hs1, ρ1, fp1, m1.st, bY, oy, _, e2, fun y Hs2 H2 fp2 f2 m2 r2 w2 => ?_⟩⟩
  obtain ⟨r1', _⟩ := m2.carry r1 w1
  have m := m1.then m2 orT
  refine ⟨_, _, t, r1'.view m.st.sub, r2.view m.st.sub, e3, t, rfl, ?_⟩
  cases t with
  | false =>
    rw [if_neg Bool.false_ne_true] at e ⊢
    cases e
    exact ⟨_, rfl, K _ _ _ m⟩
  | true =>
    rw [if_pos rfl] at e ⊢
    obtain ⟨⟨bz, oz⟩, ρ4, e4, e⟩ := R.bind_ok e
    obtain ⟨e6, rfl⟩ := lift_ok e
    refine ⟨ro || bY, Hs2, _, fp2, m2.st, bz, oz, _, e4, fun z Hs3 H3 fp3 f3 m3 r3 w3 => ?_⟩
    obtain ⟨r2', _⟩ := m3.carry r2 w2
    have m' := m.then m3 orT
    exact ⟨_, _, tt, r2'.view m'.st.sub, r3.view m'.st.sub, e6, _, rfl, K _ _ _ m'⟩
/-- a bool, from a test -/
theorem sv_neg (ha : PE X a (tBv (ct X fa) cf ea)) : PE X (.UnaryOp .USub a pos) (tBv (ct X fa) cf (.neg ea)) := by
  refine pe_imp (pe_un un_neg ha) ?_
  rintro σ H Q ⟨ro, Hs, ρ, fp, S, b, o, ρ', e, K⟩
  rw [evB] at e
  obtain ⟨⟨bx, ox⟩, ρ1, e1, e⟩ := R.bind_ok e
  obtain ⟨e2, rfl⟩ := lift_ok e
  obtain ⟨i, e3, e4⟩ := Option.map_eq_some_iff.mp e2
  cases e4
  exact ⟨ro, Hs, ρ, fp, S, bx, ox, _, e1, fun x Hs1 H1 fp1 f1 m1 r1 w1 => ⟨i, asI_view r1 e3, m1.leaf K (.int _)⟩⟩
theorem sv_ix (ha : PE X a (tBv (ct X fa) cf ea)) (hb : PE X b (tBv (ct X fa) cf eb)) (hs : PlainIx b) : PE X (.Subscript a b pos) (tBv (ct X fa) cf (.ix ea eb)) := by
  refine pe_imp (pe_ix (ix_item (fa := fa)) ha hb hs) ?_
  rintro σ H Q ⟨ro, Hs, ρ, fp, S, b, o, ρ', e, K⟩
  rw [evB] at e
  obtain ⟨⟨bx, ox⟩, ρ1, e1, e⟩ := R.bind_ok e
  obtain ⟨⟨bY, oy⟩, ρ2, e2, e⟩ := R.bind_ok e
  obtain ⟨e3, rfl⟩ := lift_ok e
  obtain ⟨⟨bz, oz⟩, e4, e5⟩ := Option.map_eq_some_iff.mp e3
  cases e5
  refine ⟨ro, Hs, ρ, fp, S, bx, ox, ρ1, e1, fun x Hs1 H1 fp1 f1 m1 r1 w1 => ⟨ro || bx, Hs1, ρ1, fp1, m1.st, bY, oy, _, e2, fun y Hs2 H2 fp2 f2 m2 r2 w2 => ?_⟩⟩
  obtain ⟨r1', w⟩ := m2.carry r1 w1
  have m := m1.then m2 orT
  refine ⟨Hs2, ox, oy, f1, f2, _, m.st.sub, r1', r2, e4, fun v f rv sub eo => ?_⟩
  simp only at eo rv
  refine K v _ _ _ _ m rv ⟨?_, fun _ _ z => nomatch z⟩
  cases bz with
  | false => exact rv.own_leaf eo.symm
  | true =>
    cases bx with
    | true => exact fun c hc => w c (sub c hc)
    | false => exact fun c hc => w c (sub c hc)
theorem sv_not (ha : PE X a (tBv (ct X fa) cf ea)) : PE X (.UnaryOp .Not a pos) (tBv (ct X fa) cf (.not ea)) := by
  refine ⟨fun pins s σ H Q I h => ?_⟩
  obtain ⟨ro, Hs, ρ, fp, S, b, o, ρ', e, K⟩ := h
  rw [evB] at e
  obtain ⟨⟨bx, ox⟩, ρ1, e1, e⟩ := R.bind_ok e
  obtain ⟨e2, rfl⟩ := lift_ok e
  obtain ⟨t, e3, e4⟩ := Option.map_eq_some_iff.mp e2
  cases e4
  refine UnaryOp_ (thn (ha.run pins s σ H (fun x H1 => ∃ Hs1 fp1 f1, Mo (ct X fa) σ ro Hs H fp ρ' Hs1 H1 fp1 ∧ RO (ct X fa) Hs1 H1 x ox f1) I ⟨ro, Hs, ρ, fp, S, bx, ox, _, e1, fun x Hs1 H1 fp1 f1 m1 r1 w1 => ⟨Hs1, fp1, f1, m1, r1⟩⟩) fun v s1 ⟨x, H1, I1, rx, Hs1, fp1, f1, m1, r1⟩ => ?_)
  refine not_of (thn (tru_any pins s1 σ H1 x v (fun b H2 => b = t ∧ H2 = H1) I1 rx ⟨Hs1, ox, f1, t, m1.st.sub, r1, e3, rfl, rfl⟩) fun b s2 ⟨H2, I2, q1, q2⟩ => ?_)
  subst q1 q2
  exact ⟨.bl (!b), _, I2, rfl, m1.leaf K (.bl _)⟩

/-! ### slots -/
theorem rd_lt : ∀ {ρ : Env} {i : Nat} {o : O}, rd ρ i = some o → i < ρ.length
  | [], _, _, h => by cases h
  | _ :: _, 0, _, _ => Nat.succ_pos _
  | _ :: r, i + 1, _, h => Nat.succ_lt_succ (rd_lt (ρ := r) h)
theorem st_length : ∀ {ρ : Env} {i : Nat} {x : Option O}, (st ρ i x).length = ρ.length
  | [], _, _ => rfl
  | _ :: _, 0, _ => rfl
  | _ :: r, i + 1, _ => congrArg Nat.succ (st_length (ρ := r))
theorem rd_st_same : ∀ {ρ : Env} {i : Nat} {x : Option O}, i < ρ.length → rd (st ρ i x) i = x
  | [], _, _, h => by cases h
  | _ :: _, 0, _, _ => rfl
  | _ :: r, i + 1, _, h => rd_st_same (ρ := r) (Nat.lt_of_succ_lt_succ h)
theorem rd_st_ne : ∀ {ρ : Env} {i j : Nat} {x : Option O}, j ≠ i → rd (st ρ i x) j = rd ρ j
  | [], _, _, _, _ => rfl
  | _ :: _, 0, 0, _, h => absurd rfl h
  | _ :: _, 0, _ + 1, _, _ => rfl
  | _ :: _, _ + 1, 0, _, _ => rfl
  | _ :: r, i + 1, j + 1, _, h => rd_st_ne (ρ := r) fun e => h (congrArg Nat.succ e)
theorem rd_st_some {ρ : Env} {i j : Nat} {x : Option O} {o : O} (h : rd (st ρ i x) j = some o) : (j = i ∧ x = some o) ∨ (j ≠ i ∧ rd ρ j = some o) := by
  by_cases e : j = i
  · subst e
    have hl : j < ρ.length := by have := rd_lt h; rw [st_length] at this; exact this
    rw [rd_st_same hl] at h
    exact .inl ⟨rfl, h⟩
  · rw [rd_st_ne e] at h
    exact .inr ⟨e, h⟩
def off (fp : Nat → Fp) (i : Nat) : Nat → Fp := fun j b => j ≠ i ∧ fp j b
theorem Mo.freeze {G : Ct} {σ : L2.St} {Hs H Hs1 H1 : Hp} {fp fp1 : Nat → Fp} {ρ1 : Env} {i : Nat} {o : O} {v : V} (m : Mo G σ false Hs H fp ρ1 Hs1 H1 fp1) (hi : rd ρ1 i = some o) (hv : σ[i]? = some (some v)) :
    RD G (thaw Hs1 H1 (fp1 i)) v (frz o) ∧ Mo G σ false Hs H fp (Dv.st ρ1 i (some (.d (frz o)))) (thaw Hs1 H1 (fp1 i)) H1 (off fp1 i) := by
  obtain ⟨v', h1, r⟩ := m.st.slot i o hi
  rw [hv] at h1
  cases h1
  have rd' : RD G (thaw Hs1 H1 (fp1 i)) v (frz o) := r.thaw' m.st.sub fun _ h => h
  refine ⟨rd', ⟨⟨thaw_sub m.st.sub, by rw [st_length]; exact m.st.len, fun j u e => ?_, fun j b ⟨hj, hb⟩ => ?_, fun j k b hjk ⟨_, h1⟩ ⟨_, h2⟩ => m.st.dis j k b hjk h1 h2⟩, ⟨m.go.ex.trans (thaw_same m.st.sub), m.go.frame, fun j b ⟨_, hb⟩ => m.go.orig j b hb, fun c u e => ?_, fun e => nomatch e⟩⟩⟩
  · rcases rd_st_some e with ⟨rfl, e2⟩ | ⟨hj, e⟩
    · cases e2
      exact ⟨v, hv, (RO.d rd').fp fun b => ⟨fun h => h.elim, fun h => h.1 rfl⟩⟩
    · obtain ⟨w, h1, r⟩ := m.st.slot j u e
      refine ⟨w, h1, (r.mono (H' := H1) (thaw_same m.st.sub) fun c hc => ⟨rfl, ?_⟩).fp fun b => ⟨fun h => ⟨hj, h⟩, fun h => h.2⟩⟩
      rw [thaw_out (m.st.dis j i c hj hc)]
      exact (r.at_ c hc).2
  · obtain ⟨u, e⟩ := m.st.emp j b hb
    exact ⟨u, by rw [rd_st_ne hj]; exact e⟩
  · rcases thaw_grow e with h | h
    · exact m.go.grow c u h
    · exact .inr (m.go.orig i c h)
theorem asV_ok {e : E} {r : R (Bool × O)} {o : O} {ρ' : Env} {ro : Bool} (h : asV e ro r = .ok o ρ') : r = .ok (false, o) ρ' ∨ ∃ i o0 ρ0, e = .v i ∧ ro = false ∧ r = .ok (true, o0) ρ0 ∧ o = .d (frz o0) ∧ ρ' = st ρ0 i (some (.d (frz o0))) := by
  unfold asV at h
  split at h
  · cases h; exact .inl rfl
  · split at h
    · cases h; exact .inr ⟨_, _, _, rfl, rfl, rfl, rfl, rfl⟩
    · cases h
  · cases h
  · cases h
/-- as a value -/
theorem sv_V (h : PE X a (tBv (ct X fa) cf ea)) : PE X a (tV (ct X fa) cf ea) := by
  refine pe_imp h ?_
  rintro σ H Q ⟨ro, Hs, ρ, fp, S, o, ρ', ee, K⟩
  rcases asV_ok ee with e | ⟨i, o0, ρ0, rfl, rfl, e, rfl, rfl⟩
  · exact ⟨ro, Hs, ρ, fp, S, false, o, ρ', e, fun v Hs' H' fp' f m r w => K v Hs' H' fp' f m r w.vw⟩
  · refine ⟨false, Hs, ρ, fp, S, true, o0, ρ0, e, fun v Hs' H' fp' f m r w => ?_⟩
    have hi : rd ρ0 i = some o0 := by
      rw [evB] at e
      split at e
      · rename_i u hu
        simp only [R.ok.injEq, Prod.mk.injEq] at e
        obtain ⟨⟨_, rfl⟩, rfl⟩ := e
        exact hu
      · cases e
    obtain ⟨hv, _⟩ := w.at_ rfl i rfl
    obtain ⟨k1, k2⟩ := m.freeze hi hv
    exact K v _ _ _ _ k2 (.d k1) own_none
theorem fresh_ok {r : R O} {y : Bool × O} {ρ' : Env} (h : fresh r = .ok y ρ') : r = .ok y.2 ρ' ∧ y.1 = false := by
  obtain ⟨o, ρ1, e1, e2⟩ := R.bind_ok h
  cases e2
  exact ⟨e1, rfl⟩
theorem sv_and {rest : List Expr} (ha : PE X a (tBv (ct X fa) cf ea)) (hb : PE X (.BoolOp .And (b :: rest) pos) (tBv (ct X fa) cf eb)) : PE X (.BoolOp .And (a :: b :: rest) pos) (tBv (ct X fa) cf (.and ea eb)) := by
  refine pe_imp (pe_and ha (sv_V hb)) ?_
  rintro σ H Q ⟨ro, Hs, ρ, fp, S, b, o, ρ', e, K⟩
  rw [evB] at e
  obtain ⟨⟨bx, ox⟩, ρ1, e1, e⟩ := R.bind_ok e
  obtain ⟨t, ρ2, e2', e⟩ := R.bind_ok e
  obtain ⟨e2, rfl⟩ := lift_ok e2'
  refine ⟨ro, Hs, ρ, fp, S, bx, ox, _, e1, fun x Hs1 H1 fp1 f1 m1 r1 w1 => ⟨t, asB_view r1 e2, ?_⟩⟩
  cases t with
  | false =>
    rw [if_neg Bool.false_ne_true] at e ⊢
    cases e
    exact m1.leaf K (.bl false)
  | true =>
    rw [if_pos rfl] at e ⊢
    obtain ⟨e3, e4⟩ := fresh_ok e
    simp only at e3 e4
    subst e4
    exact ⟨ro, Hs1, _, fp1, m1.st, o, _, e3, fun v Hs' H' fp' f m r ow => K v Hs' H' fp' f (m1.then m id) r (VwB.own (own_from m1.go ow))⟩
theorem sv_or {rest : List Expr} (ha : PE X a (tBv (ct X fa) cf ea)) (hb : PE X (.BoolOp .Or (b :: rest) pos) (tBv (ct X fa) cf eb)) : PE X (.BoolOp .Or (a :: b :: rest) pos) (tBv (ct X fa) cf (.or ea eb)) := by
  refine pe_imp (pe_or ha (sv_V hb)) ?_
  rintro σ H Q ⟨ro, Hs, ρ, fp, S, b, o, ρ', e, K⟩
  rw [evB] at e
  obtain ⟨⟨bx, ox⟩, ρ1, e1, e⟩ := R.bind_ok e
  obtain ⟨t, ρ2, e2', e⟩ := R.bind_ok e
  obtain ⟨e2, rfl⟩ := lift_ok e2'
  refine ⟨ro, Hs, ρ, fp, S, bx, ox, _, e1, fun x Hs1 H1 fp1 f1 m1 r1 w1 => ⟨t, asB_view r1 e2, ?_⟩⟩
  cases t with
  | true =>
    rw [if_pos rfl] at e ⊢
    cases e
    exact m1.leaf K (.bl true)
  | false =>
    rw [if_neg Bool.false_ne_true] at e ⊢
    obtain ⟨e3, e4⟩ := fresh_ok e
    simp only at e3 e4
    subst e4
    exact ⟨ro, Hs1, _, fp1, m1.st, o, _, e3, fun v Hs' H' fp' f m r ow => K v Hs' H' fp' f (m1.then m id) r (VwB.own (own_from m1.go ow))⟩
theorem sv_ite (hc : PT X c (tTs (ct X fa) cf ec)) (ha : PE X a (tBv (ct X fa) cf ea)) (hb : PE X b (tBv (ct X fa) cf eb)) : PE X (.IfExp c a b pos) (tBv (ct X fa) cf (.ite ec ea eb)) := by
  refine pe_imp (pe_ifExp hc (sv_V ha) (sv_V hb)) ?_
  rintro σ H Q ⟨ro, Hs, ρ, fp, S, b, o, ρ', e, K⟩
  rw [evB] at e
  obtain ⟨t, ρ1, e1, e⟩ := R.bind_ok e
  refine ⟨ro, Hs, ρ, fp, S, t, ρ1, e1, fun Hs1 H1 fp1 m1 => ?_⟩
  cases t with
  | true =>
    rw [if_pos rfl] at e ⊢
    obtain ⟨e3, e4⟩ := fresh_ok e
    simp only at e3 e4
    subst e4
    exact ⟨ro, Hs1, _, fp1, m1.st, o, _, e3, fun v Hs' H' fp' f m r ow => K v Hs' H' fp' f (m1.then m id) r (VwB.own (own_from m1.go ow))⟩
  | false =>
    rw [if_neg Bool.false_ne_true] at e ⊢
    obtain ⟨e3, e4⟩ := fresh_ok e
    simp only at e3 e4
    subst e4
    exact ⟨ro, Hs1, _, fp1, m1.st, o, _, e3, fun v Hs' H' fp' f m r ow => K v Hs' H' fp' f (m1.then m id) r (VwB.own (own_from m1.go ow))⟩
/-! ### tests -/
theorem st_no_of (h : PT X a (fun _ H Q => Q true H)) : PT X a (tTs (ct X fa) cf .no) := by
  refine pt_imp h ?_
  rintro σ H Q ⟨ro, Hs, ρ, fp, S, t, ρ', e, K⟩
  rw [evT] at e
  cases e
  exact K _ _ _ (Mo.refl S)
theorem st_not (ha : PT X a (tTs (ct X fa) cf ea)) : PT X (.UnaryOp .Not a pos) (tTs (ct X fa) cf (.not ea)) := by
  refine pt_imp (pt_not ha) ?_
  rintro σ H Q ⟨ro, Hs, ρ, fp, S, t, ρ', e, K⟩
  rw [evT] at e
  obtain ⟨u, ρ1, e1, e⟩ := R.bind_ok e
  cases e
  exact ⟨ro, Hs, ρ, fp, S, u, _, e1, fun Hs' H' fp' m => K _ _ _ m⟩
theorem pt_any {e : Expr} {t : TT} (h : PT X e t) (whole : Sem Value) (hw : ∀ w : Sem Value, isTrue e X.env w = isTrue e X.env (eval e X.env)) : PW X e t := ⟨fun w pins s σ H Q I q => by rw [hw w]; exact h.run pins s σ H Q I q⟩
theorem sw_and {rest : List Expr} (ha : PT X a (tTs (ct X fa) cf ea)) (hb : PW X (.BoolOp .And (b :: rest) pos) (tTs (ct X fa) cf eb)) : PW X (.BoolOp .And (a :: b :: rest) pos) (tTs (ct X fa) cf (.and ea eb)) := by
  refine ⟨fun wh pins s σ H Q I q => (pw_and ha hb).run wh pins s σ H Q I ?_⟩
  obtain ⟨ro, Hs, ρ, fp, S, t, ρ', e, K⟩ := q
  rw [evT] at e
  obtain ⟨u, ρ1, e1, e⟩ := R.bind_ok e
  refine ⟨ro, Hs, ρ, fp, S, u, _, e1, fun Hs1 H1 fp1 m1 => ?_⟩
  cases u with
  | true =>
    rw [if_pos rfl] at e ⊢
    exact ⟨ro, Hs1, _, fp1, m1.st, t, _, e, fun Hs' H' fp' m => K _ _ _ (m1.then m id)⟩
  | false =>
    rw [if_neg Bool.false_ne_true] at e ⊢
    cases e
    exact K _ _ _ m1
theorem sw_or {rest : List Expr} (ha : PT X a (tTs (ct X fa) cf ea)) (hb : PW X (.BoolOp .Or (b :: rest) pos) (tTs (ct X fa) cf eb)) : PW X (.BoolOp .Or (a :: b :: rest) pos) (tTs (ct X fa) cf (.or ea eb)) := by
  refine ⟨fun wh pins s σ H Q I q => (pw_or ha hb).run wh pins s σ H Q I ?_⟩
  obtain ⟨ro, Hs, ρ, fp, S, t, ρ', e, K⟩ := q
  rw [evT] at e
  obtain ⟨u, ρ1, e1, e⟩ := R.bind_ok e
  refine ⟨ro, Hs, ρ, fp, S, u, _, e1, fun Hs1 H1 fp1 m1 => ?_⟩
  cases u with
  | false =>
    rw [if_neg Bool.false_ne_true] at e ⊢
    exact ⟨ro, Hs1, _, fp1, m1.st, t, _, e, fun Hs' H' fp' m => K _ _ _ (m1.then m id)⟩
  | true =>
    rw [if_pos rfl] at e ⊢
    cases e
    exact K _ _ _ m1
/-- the test of a value -/
theorem st_val (ha : PE X a (tBv (ct X fa) cf ea)) (he : ∀ whole, isTrue a X.env whole = (do let v ← whole; standAt a.pos; holding [v] (truthy v)))
    (ht : ∀ ro ρ, evT cf ea ro ρ = (evB cf ea ro ρ).bind fun x ρ' => lift (truth x.2) ρ') : PT X a (tTs (ct X fa) cf ea) := by
  refine ⟨fun pins s σ H Q I h => ?_⟩
  obtain ⟨ro, Hs, ρ, fp, S, t, ρ', e, K⟩ := h
  rw [ht] at e
  obtain ⟨⟨bx, ox⟩, ρ1, e1, e⟩ := R.bind_ok e
  obtain ⟨e2, rfl⟩ := lift_ok e
  exact isTrue_plain (thn (ha.run pins s σ H (fun x H1 => ∃ Hs1 fp1 f1, Mo (ct X fa) σ ro Hs H fp ρ' Hs1 H1 fp1 ∧ RO (ct X fa) Hs1 H1 x ox f1) I ⟨ro, Hs, ρ, fp, S, bx, ox, _, e1, fun x Hs1 H1 fp1 f1 m1 r1 w1 => ⟨Hs1, fp1, f1, m1, r1⟩⟩) fun v s1 ⟨x, H1, I1, rx, Hs1, fp1, f1, m1, r1⟩ =>
    tru_any pins s1 σ H1 x v Q I1 rx ⟨Hs1, ox, f1, t, m1.st.sub, r1, e2, K _ _ _ m1⟩) (he _)
/-! ### lists of expressions -/
theorem sl_nil : PA X [] (tL (ct X fa) cf .nil) := by
  refine pa_imp pa_nil ?_
  rintro σ H Q ⟨ro, Hs, ρ, fp, S, os, ρ', e, K⟩
  rw [evL] at e
  cases e
  exact K [] Hs H fp _ (Mo.refl S) .nil own_none
theorem sl_cons {es : List Expr} {el : E} (ha : PE X a (tBv (ct X fa) cf ea)) (hr : PA X es (tL (ct X fa) cf el)) (hs : starEach (a :: es) X.env = (false, eval a X.env) :: starEach es X.env) : PA X (a :: es) (tL (ct X fa) cf (.cons ea el)) := by
  refine pa_imp (pa_cons (sv_V ha) hr hs) ?_
  rintro σ H Q ⟨ro, Hs, ρ, fp, S, os, ρ', e, K⟩
  rw [evL] at e
  obtain ⟨o, ρ1, e1, e⟩ := R.bind_ok e
  obtain ⟨os, ρ2, e2, e⟩ := R.bind_ok e
  cases e
  refine ⟨ro, Hs, ρ, fp, S, o, ρ1, e1, fun v Hs1 H1 fp1 f1 m1 r1 o1 => ⟨ro, Hs1, ρ1, fp1, m1.st, os, _, e2, fun vs Hs2 H2 fp2 f2 m2 r2 o2 => ?_⟩⟩
  have r1' := r1.held (fun c hc => (o1 c hc).1) m2.go
  have o1' := Own.held r1 o1 m2.go
  have o2' := own_from m1.go o2
  refine K (v :: vs) _ _ _ _ (m1.then m2 id) (.cons r1' r2 fun c h1 h2 => ?_) fun c hc => hc.elim (o1' c) (o2' c)
  rcases (o2 c h2).2 with ⟨j, hj⟩ | hn
  · exact (o1 c h1).1 j hj
  · obtain ⟨⟨us, e⟩, _⟩ := r1.at_ c h1
    rw [e] at hn
    cases hn
theorem sw_nil : PA X [] (tW (ct X fa) cf .nil) := by
  refine pa_imp pa_nil ?_
  rintro σ H Q ⟨ro, Hs, ρ, fp, S, os, ρ', e, K⟩
  rw [evW] at e
  cases e
  exact K [] Hs H fp (Mo.refl S) .nil
theorem sw_cons {es : List Expr} {el : E} (ha : PE X a (tBv (ct X fa) cf ea)) (hr : PA X es (tW (ct X fa) cf el)) (hs : starEach (a :: es) X.env = (false, eval a X.env) :: starEach es X.env) : PA X (a :: es) (tW (ct X fa) cf (.cons ea el)) := by
  refine pa_imp (pa_cons ha hr hs) ?_
  rintro σ H Q ⟨ro, Hs, ρ, fp, S, os, ρ', e, K⟩
  rw [evW] at e
  obtain ⟨⟨bx, ox⟩, ρ1, e1, e⟩ := R.bind_ok e
  obtain ⟨os, ρ2, e2, e⟩ := R.bind_ok e
  cases e
  refine ⟨ro, Hs, ρ, fp, S, bx, ox, ρ1, e1, fun v Hs1 H1 fp1 f1 m1 r1 w1 => ⟨ro || bx, Hs1, ρ1, fp1, m1.st, os, _, e2, fun vs Hs2 H2 fp2 m2 r2 => ?_⟩⟩
  exact K (v :: vs) _ _ _ (m1.then m2 orT) (.cons (m2.carry r1 w1).1 r2)
theorem Ars.mono {G : Ct} {Hs Hs' : Hp} {σ : L2.St} (e : Same Hs Hs') : ∀ {vs : List V} {as : List Arg}, Ars G Hs σ vs as → Ars G Hs' σ vs as
  | _, _, .nil => .nil
  | _, _, .val r t => .val (r.mono e) (Ars.mono e t)
  | _, _, .io h t => .io h (Ars.mono e t)
theorem sa_nil : PA X [] (tAr (ct X fa) cf .nil) := by
  refine pa_imp pa_nil ?_
  rintro σ H Q ⟨ro, Hs, ρ, fp, S, os, ρ', e, K⟩
  rw [evA] at e
  cases e
  exact K [] Hs H fp (Mo.refl S) .nil
theorem Mo.frozen {G : Ct} {ro : Bool} {σ : L2.St} {Hs H Hs1 H1 : Hp} {fp fp1 : Nat → Fp} {ρ1 : Env} {f : Fp} {v : V} {o : O} (m : Mo G σ ro Hs H fp ρ1 Hs1 H1 fp1) (r : RO G Hs1 H1 v o f) (ow : Own H fp fp1 f) :
    RD G (thaw Hs1 H1 f) v (frz o) ∧ Mo G σ ro Hs H fp ρ1 (thaw Hs1 H1 f) H1 fp1 := by
  refine ⟨r.thaw' m.st.sub fun _ h => h, ⟨⟨thaw_sub m.st.sub, m.st.len, fun i o e => ?_, m.st.emp, m.st.dis⟩, ⟨m.go.ex.trans (thaw_same m.st.sub), m.go.frame, m.go.orig, fun c u e => ?_, m.go.quiet⟩⟩⟩
  · obtain ⟨v, h, r⟩ := m.st.slot i o e
    refine ⟨v, h, r.mono (thaw_same m.st.sub) fun c hc => ⟨rfl, ?_⟩⟩
    rw [thaw_out fun hf => (ow c hf).1 i hc]
    exact (r.at_ c hc).2
  · rcases thaw_grow e with h | h
    · exact m.go.grow c u h
    · exact .inr (ow c h).2
theorem sa_val {es : List Expr} {el : E} (hn : ∀ i, ea ≠ .io i) (ha : PE X a (tBv (ct X fa) cf ea)) (hr : PA X es (tAr (ct X fa) cf el)) (hs : starEach (a :: es) X.env = (false, eval a X.env) :: starEach es X.env) : PA X (a :: es) (tAr (ct X fa) cf (.cons ea el)) := by
  refine pa_imp (pa_cons (sv_V ha) hr hs) ?_
  rintro σ H Q ⟨ro, Hs, ρ, fp, S, os, ρ', e, K⟩
  rw [evA.eq_3 _ _ _ _ _ (fun i e => hn i e)] at e
  obtain ⟨o, ρ1, e1, e⟩ := R.bind_ok e
  obtain ⟨os, ρ2, e2, e⟩ := R.bind_ok e
  cases e
  refine ⟨ro, Hs, ρ, fp, S, o, ρ1, e1, fun v Hs1 H1 fp1 f1 m1 r1 o1 => ?_⟩
  obtain ⟨k1, k2⟩ := m1.frozen r1 o1
  exact ⟨ro, _, ρ1, fp1, k2.st, os, _, e2, fun vs Hs2 H2 fp2 m2 r2 => K (v :: vs) _ _ _ (k2.then m2 id) (.val (k1.mono m2.go.ex) r2)⟩
theorem sa_io {es : List Expr} {el : E} {i : Nat} (ha : PE X a (tVar i)) (hr : PA X es (tAr (ct X fa) cf el)) (hs : starEach (a :: es) X.env = (false, eval a X.env) :: starEach es X.env) : PA X (a :: es) (tAr (ct X fa) cf (.cons (.io i) el)) := by
  refine pa_imp (pa_cons ha hr hs) ?_
  rintro σ H Q ⟨ro, Hs, ρ, fp, S, os, ρ', e, K⟩
  rw [evA] at e
  split at e
  · rename_i u hu
    obtain ⟨os, ρ2, e2, e⟩ := R.bind_ok e
    cases e
    obtain ⟨v, hv, _⟩ := S.slot i u hu
    exact ⟨v, hv, ro, Hs, ρ, fp, S, os, _, e2, fun vs Hs2 H2 fp2 m2 r2 => K (v :: vs) _ _ _ m2 (.io hv r2)⟩
  · cases e
/-! ### slices, built-ins -/
theorem so_no : PO X none (tOp1 (ct X fa) cf .no) := by
  refine po_imp po_none ?_
  rintro σ H Q ⟨ro, Hs, ρ, fp, S, os, ρ', e, K⟩
  rw [evO] at e
  cases e
  exact K _ _ _ (Mo.refl S)
theorem so_some (hn : ea ≠ .no) (ha : PE X a (tBv (ct X fa) cf ea)) : PO X (some a) (tOp1 (ct X fa) cf ea) := by
  refine po_imp (po_some ha) ?_
  rintro σ H Q ⟨ro, Hs, ρ, fp, S, t, ρ', e, K⟩
  rw [evO.eq_2 _ _ _ _ hn] at e
  obtain ⟨⟨bx, ox⟩, ρ1, e1, e⟩ := R.bind_ok e
  obtain ⟨e2, rfl⟩ := lift_ok e
  obtain ⟨i, e3, rfl⟩ := Option.map_eq_some_iff.mp e2
  exact ⟨ro, Hs, ρ, fp, S, bx, ox, _, e1, fun x Hs1 H1 fp1 f1 m1 r1 w1 => ⟨i, asI_view r1 e3, K _ _ _ m1⟩⟩
theorem sv_sl {lo hi : Option Expr} {el eh : E} {p2 : Pos} (ha : PE X a (tBv (ct X fa) cf ea)) (hl : PO X lo (tOp1 (ct X fa) cf el)) (hh : PO X hi (tOp1 (ct X fa) cf eh)) : PE X (.Subscript a (.Slice lo hi none p2) pos) (tBv (ct X fa) cf (.sl ea el eh)) := by
  refine pe_imp (pe_slice (sl_any (fa := fa)) ha hl hh) ?_
  rintro σ H Q ⟨ro, Hs, ρ, fp, S, b, o, ρ', e, K⟩
  rw [evB] at e
  obtain ⟨⟨bx, ox⟩, ρ1, e1, e⟩ := R.bind_ok e
  obtain ⟨l, ρ2, e2, e⟩ := R.bind_ok e
  obtain ⟨h, ρ3, e3, e⟩ := R.bind_ok e
  obtain ⟨e4, rfl⟩ := lift_ok e
  obtain ⟨e5, e6⟩ := map_pair e4
  simp only at e1 e2 e3 e4 e5 e6
  subst e6
  refine ⟨ro, Hs, ρ, fp, S, bx, ox, ρ1, e1, fun x Hs1 H1 fp1 f1 m1 r1 w1 => ⟨ro || bx, Hs1, ρ1, fp1, m1.st, l, ρ2, e2, fun Hs2 H2 fp2 m2 => ⟨ro || bx, Hs2, ρ2, fp2, m2.st, h, _, e3, fun Hs3 H3 fp3 m3 => ?_⟩⟩⟩
  have m23 := m2.then m3 id
  have m := m1.then m23 orT
  exact ⟨Hs3, ox, f1, o, m.st.sub, (m23.carry r1 w1).1, e5, m.res K⟩
theorem sv_rev {k : Nat} {p1 p2 p3 : Pos} (ha : PE X a (tBv (ct X fa) cf ea)) : PE X (.Subscript a (.Slice none none (some (.UnaryOp .USub (.Constant (.int 1) k p1) p2)) p3) pos) (tBv (ct X fa) cf (.rev ea)) := by
  refine pe_imp (pe_rv (fa := fa) ha) ?_
  rintro σ H Q ⟨ro, Hs, ρ, fp, S, b, o, ρ', e, K⟩
  rw [evB] at e
  obtain ⟨⟨bx, ox⟩, ρ1, e1, e⟩ := R.bind_ok e
  obtain ⟨e4, rfl⟩ := lift_ok e
  obtain ⟨e5, e6⟩ := map_pair e4
  simp only at e1 e4 e5 e6
  subst e6
  exact ⟨ro, Hs, ρ, fp, S, bx, ox, _, e1, fun x Hs1 H1 fp1 f1 m1 r1 w1 => ⟨Hs1, ox, f1, o, m1.st.sub, r1, e5, m1.res K⟩⟩
def blN : Bl → Str
  | .len => "len"
  | .tuple => "tuple"
  | .list => "list"
  | .abs => "abs"
  | .int => "int"
  | .str => "str"
  | .repr => "repr"
  | .all => "all"
  | .any => "any"
  | .max => "max"
  | .min => "min"
  | .sorted => "sorted"
  | .sum => "sum"
theorem boot_bl (b : Bl) : bootBuiltins (blN b) = some (blP b) := by cases b <;> kernel_rfl
theorem blN_ne (b : Bl) : blN b ≠ "__name__" ∧ (blN b == ("__debug__" : Str)) = false := by cases b <;> decide
theorem nostars_any {pos : Pos} {es : List Expr} {env : PySem.Env} (h : (starEach es env).any (·.1) = false) : (backTo pos (starEach es env)).any (·.1) = false := by
  unfold backTo
  rw [List.any_map]
  exact h
theorem pe_bl (b : Bl) {es : List Expr} {t : TA} {r : List V → Hp → VK → Prop} {p : Pos} (hc : CallR X (blP b) r) (hg : Gl X (blN b)) (hm : X.mg (blN b) = none) (ha : PA X (a :: es) t)
    (he : starEach (a :: es) X.env = (false, eval a X.env) :: starEach es X.env) (hpl : (starEach es X.env).any (·.1) = false) : PE X (.Call (.Name (blN b) p) (a :: es) [] pos) (tCB r t) := by
  have h1 := boot_bl b
  obtain ⟨h2, h3⟩ := blN_ne b
  cases b <;> first
    | exact pe_callB hc hg hm h1 ha h2 h3 he (nostars_any hpl)
    | exact pe_callTy hc hg hm h1 ha h2 h3 he (nostars_any hpl)
theorem sv_bl (b : Bl) {es : List Expr} {el : E} {p : Pos} (hcalm : X.calm = true) (hgd : X.A.guards = some []) (hu : X.A.units + 65 < cLine) (hg : Gl X (blN b)) (hm : X.mg (blN b) = none) (ha : PA X (a :: es) (tW (ct X fa) cf el))
    (he : starEach (a :: es) X.env = (false, eval a X.env) :: starEach es X.env) (hpl : (starEach es X.env).any (·.1) = false) : PE X (.Call (.Name (blN b) p) (a :: es) [] pos) (tBv (ct X fa) cf (.blt b el)) := by
  refine pe_imp (pe_bl b (call_bl (fa := fa) hcalm hgd hu b) hg hm ha he hpl) ?_
  rintro σ H Q ⟨ro, Hs, ρ, fp, S, b', o, ρ', e, K⟩
  rw [evB] at e
  obtain ⟨os, ρ1, e1, e⟩ := R.bind_ok e
  obtain ⟨e4, rfl⟩ := lift_ok e
  obtain ⟨e5, e6⟩ := map_pair e4
  simp only at e1 e4 e5 e6
  subst e6
  exact ⟨ro, Hs, ρ, fp, S, os, _, e1, fun vs Hs1 H1 fp1 m1 r1 => ⟨Hs1, os, o, m1.st.sub, r1, e5, m1.res K⟩⟩
theorem boot_ty (ty : Ty) : bootBuiltins (Str.ofString (tyP ty)) = some (.type (tyP ty)) := by cases ty <;> kernel_rfl
theorem tyP_ne (ty : Ty) : Str.ofString (tyP ty) ≠ "__name__" ∧ (Str.ofString (tyP ty) == ("__debug__" : Str)) = false := by cases ty <;> decide
theorem sv_isi (ty : Ty) {p p2 : Pos} (hg : Gl X "isinstance") (hm : X.mg "isinstance" = none) (hg2 : Gl X (Str.ofString (tyP ty))) (hm2 : X.mg (Str.ofString (tyP ty)) = none) (ha : PE X a (tBv (ct X fa) cf ea))
    (he : ∀ es, starEach (a :: es) X.env = (false, eval a X.env) :: starEach es X.env) : PE X (.Call (.Name "isinstance" p) [a, .Name (Str.ofString (tyP ty)) p2] [] pos) (tBv (ct X fa) cf (.isi ea ty)) := by
  have h1 := boot_ty ty
  obtain ⟨h2, h3⟩ := tyP_ne ty
  have h4 : PE X (.Name (Str.ofString (tyP ty)) p2) (tC (.ty (tyP ty))) := pe_bltn hg2 hm2 h1 rfl h2 h3
  refine pe_imp (pe_callB (call_ty (fa := fa) ty) hg hm (by kernel_rfl) (pa_cons ha (pa_cons h4 pa_nil) (he _)) (by decide) (by decide) (he _)) ?_
  rintro σ H Q ⟨ro, Hs, ρ, fp, S, b', o, ρ', e, K⟩
  rw [evB] at e
  obtain ⟨⟨bx, ox⟩, ρ1, e1, e⟩ := R.bind_ok e
  obtain ⟨e4, rfl⟩ := lift_ok e
  obtain ⟨t, e5, e6⟩ := Option.map_eq_some_iff.mp e4
  cases e6
  exact ⟨ro, Hs, ρ, fp, S, bx, ox, _, e1, fun x Hs1 H1 fp1 f1 m1 r1 w1 => ⟨x, _, t, rfl, r1.view m1.st.sub, e5, m1.leaf K (.bl t)⟩⟩
end
end Dv
set_option Elab.async false
set_option linter.all false
set_option maxRecDepth 100000
set_option maxHeartbeats 1000000
/-! Part E: calls of defs. -/
namespace Dv
open PySem PySem.Spec PyProof.Rows L2

/-- how many -/
def lenE : E → Nat
  | .cons _ r => lenE r + 1
  | _ => 0
/-- where the slot i is lent -/
def posA : Nat → List Arg → Nat → Option Nat
  | _, [], _ => none
  | j, .val _ :: r, i => posA (j + 1) r i
  | j, .io i' :: r, i => if i' = i then some j else posA (j + 1) r i
theorem posA_get : ∀ {as : List Arg} {j i k : Nat}, posA j as i = some k → ∃ m, k = j + m ∧ as[m]? = some (.io i)
  | [], _, _, _, h => by cases h
  | .val _ :: r, j, i, k, h => by
    obtain ⟨m, h1, h2⟩ := posA_get (as := r) (j := j + 1) h
    exact ⟨m + 1, by omega, h2⟩
  | .io i' :: r, j, i, k, h => by
    unfold posA at h
    split at h
    · rename_i e
      cases h
      exact ⟨0, rfl, by rw [e]; rfl⟩
    · obtain ⟨m, h1, h2⟩ := posA_get (as := r) (j := j + 1) h
      exact ⟨m + 1, by omega, h2⟩
theorem posA_of : ∀ {as : List Arg} {j i m : Nat}, as[m]? = some (.io i) → ∃ k, posA j as i = some k
  | [], _, _, _, h => by cases h
  | .val _ :: r, j, i, 0, h => by cases h
  | .val _ :: r, j, i, m + 1, h => posA_of (as := r) (j := j + 1) (m := m) h
  | .io i' :: r, j, i, 0, h => by
    cases h
    exact ⟨j, by unfold posA; rw [if_pos rfl]⟩
  | .io i' :: r, j, i, m + 1, h => by
    unfold posA
    split
    · exact ⟨j, rfl⟩
    · exact posA_of (as := r) (j := j + 1) (m := m) h
theorem mem_ioSlots : ∀ {as : List Arg} {m i : Nat}, as[m]? = some (.io i) → i ∈ ioSlots as
  | .val _ :: r, 0, i, h => by cases h
  | .val _ :: r, m + 1, i, h => mem_ioSlots (as := r) (m := m) h
  | .io i' :: r, 0, i, h => by cases h; exact List.mem_cons_self
  | .io i' :: r, m + 1, i, h => List.mem_cons_of_mem _ (mem_ioSlots (as := r) (m := m) h)
theorem noDup_at : ∀ {as : List Arg} {m m' i : Nat}, noDup (ioSlots as) = true → as[m]? = some (.io i) → as[m']? = some (.io i) → m = m'
  | [], _, _, _, _, h, _ => by cases h
  | .val _ :: r, 0, _, _, _, h, _ => by cases h
  | .val _ :: r, _ + 1, 0, _, _, _, h => by cases h
  | .val _ :: r, m + 1, m' + 1, i, hn, h, h' => congrArg Nat.succ (noDup_at (as := r) hn h h')
  | .io i' :: r, 0, 0, _, _, _, _ => rfl
  | .io i' :: r, 0, m' + 1, i, hn, h, h' => by
    cases h
    have hn' : (!(ioSlots r).contains i' && noDup (ioSlots r)) = true := hn
    rw [Bool.and_eq_true] at hn'
    have := mem_ioSlots (as := r) (m := m') h'
    have h1 := hn'.1
    simp [this] at h1
  | .io i' :: r, m + 1, 0, i, hn, h, h' => by
    cases h'
    have hn' : (!(ioSlots r).contains i' && noDup (ioSlots r)) = true := hn
    rw [Bool.and_eq_true] at hn'
    have := mem_ioSlots (as := r) (m := m) h
    have h1 := hn'.1
    simp [this] at h1
  | .io i' :: r, m + 1, m' + 1, i, hn, h, h' => by
    have hn' : (!(ioSlots r).contains i' && noDup (ioSlots r)) = true := hn
    rw [Bool.and_eq_true] at hn'
    exact congrArg Nat.succ (noDup_at (as := r) hn'.2 h h')
theorem putBack_length {ρ π : Env} : ∀ (as : List Arg) (j : Nat), (putBack ρ π j as).length = ρ.length
  | [], _ => rfl
  | .val _ :: r, j => putBack_length r (j + 1)
  | .io i :: r, j => by
    show (Dv.st (putBack ρ π (j + 1) r) i (rd π j)).length = _
    rw [st_length]
    exact putBack_length r (j + 1)
theorem rd_putBack {ρ π : Env} : ∀ (as : List Arg) (j i : Nat), i < ρ.length → rd (putBack ρ π j as) i = match posA j as i with
    | some k => rd π k
    | none => rd ρ i
  | [], _, _, _ => rfl
  | .val _ :: r, j, i, h => rd_putBack r (j + 1) i h
  | .io i' :: r, j, i, h => by
    show rd (Dv.st (putBack ρ π (j + 1) r) i' (rd π j)) i = _
    unfold posA
    split
    · rename_i e
      split at e
      · rename_i e2
        cases e
        subst e2
        rw [rd_st_same (by rw [putBack_length]; exact h)]
      · rename_i ne
        rw [rd_st_ne (Ne.symm ne), rd_putBack r (j + 1) i h, e]
    · rename_i e
      split at e
      · cases e
      · rename_i ne
        rw [rd_st_ne (Ne.symm ne), rd_putBack r (j + 1) i h, e]
theorem rd_map : ∀ {os : List O} {j : Nat} {o : O}, rd (os.map some) j = some o → os[j]? = some o
  | [], _, _, h => by cases h
  | _ :: _, 0, _, h => by cases h; rfl
  | _ :: r, j + 1, _, h => rd_map (os := r) (j := j) h
theorem rd_map' : ∀ {os : List O} {j : Nat} {o : O}, os[j]? = some o → rd (os.map some) j = some o
  | [], _, _, h => by cases h
  | _ :: _, 0, _, h => by cases h; rfl
  | _ :: r, j + 1, _, h => rd_map' (os := r) (j := j) h
theorem argsO_length : ∀ {as : List Arg} {ρ : Env} {os : List O}, argsO ρ as = some os → os.length = as.length
  | [], _, _, h => by cases h; rfl
  | a :: r, ρ, os, h => by
    unfold argsO at h
    split at h
    · rename_i e1 e2
      cases h
      exact congrArg Nat.succ (argsO_length e2)
    · cases h
theorem argsO_get : ∀ {as : List Arg} {ρ : Env} {os : List O} {j : Nat} {a : Arg}, argsO ρ as = some os → as[j]? = some a → ∃ o, argO ρ a = some o ∧ os[j]? = some o
  | [], _, _, _, _, _, h => by cases h
  | a :: r, ρ, os, j, b, h, hj => by
    unfold argsO at h
    split at h
    · rename_i o os' e1 e2
      cases h
      cases j with
      | zero => cases hj; exact ⟨o, e1, rfl⟩
      | succ j =>
        obtain ⟨u, h1, h2⟩ := argsO_get (as := r) (j := j) e2 hj
        exact ⟨u, h1, h2⟩
    · cases h
theorem Ars.length {G : Ct} {Hs : Hp} {σ : L2.St} : ∀ {vs : List V} {as : List Arg}, Ars G Hs σ vs as → vs.length = as.length
  | _, _, .nil => rfl
  | _, _, .val _ t => congrArg Nat.succ t.length
  | _, _, .io _ t => congrArg Nat.succ t.length
theorem Ars.get {G : Ct} {Hs : Hp} {σ : L2.St} : ∀ {vs : List V} {as : List Arg} {j : Nat} {a : Arg}, Ars G Hs σ vs as → as[j]? = some a → ∃ v, vs[j]? = some v ∧ ((∃ x, a = .val (.d x) ∧ RD G Hs v x) ∨ ∃ i, a = .io i ∧ σ[i]? = some (some v))
  | _, _, _, _, .nil, h => by cases h
  | _, _, 0, _, .val r _, h => by cases h; exact ⟨_, rfl, .inl ⟨_, rfl, r⟩⟩
  | _, _, 0, _, .io r _, h => by cases h; exact ⟨_, rfl, .inr ⟨_, rfl, r⟩⟩
  | _, _, j + 1, _, .val _ t, h => Ars.get t (j := j) h
  | _, _, j + 1, _, .io _ t, h => Ars.get t (j := j) h

/-- what a def promises by the evaluator -/
def spF (G : Ct) (C : List O → CR) (np : Nat) : List V → Hp → VK → Prop := fun vs H Q => ∃ Hs os fpc o π, vs.length = np ∧ os.length = np ∧ Stt G Hs H (vs.map some) (os.map some) fpc ∧ C os = .ok o π ∧
  ∀ v Hs' H' fp' f, Go false Hs H fpc Hs' H' fp' → Stt G Hs' H' (vs.map some) π fp' → RO G Hs' H' v o f → Own H fpc fp' f → Q v H'
theorem map_some_get {vs : List V} {k : Nat} {v : V} (h : (vs.map some)[k]? = some (some v)) : vs[k]? = some v := by
  rw [List.getElem?_map] at h
  cases e : vs[k]? with
  | none => rw [e] at h; cases h
  | some w => rw [e] at h; cases h; rfl
section
variable {G : Ct} {σ : L2.St} {ro : Bool} {Hs1 H1 : Hp} {fp1 : Nat → Fp} {ρ1 : Env} {vs : List V} {as : List Arg} {os : List O}
/-- the parameters' trees -/
def lentF (as : List Arg) (fp1 : Nat → Fp) : Nat → Fp := fun j b => ∃ i, as[j]? = some (.io i) ∧ fp1 i b
theorem stt_call (S : Stt G Hs1 H1 σ ρ1 fp1) (ha : Ars G Hs1 σ vs as) (hn : noDup (ioSlots as) = true) (ho : argsO ρ1 as = some os) : Stt G Hs1 H1 (vs.map some) (os.map some) (lentF as fp1) where
  sub := S.sub
  len := by rw [List.length_map, List.length_map, argsO_length ho, ha.length]; exact Nat.le_refl _
  slot := fun j o e => by
    have e1 := rd_map e
    have hj : j < as.length := by
      have := (List.getElem?_eq_some_iff.mp e1).1
      rw [argsO_length ho] at this
      exact this
    obtain ⟨o', e2, e3⟩ := argsO_get ho (List.getElem?_eq_getElem hj)
    rw [e1] at e3
    cases e3
    obtain ⟨v, e4, k⟩ := ha.get (List.getElem?_eq_getElem hj)
    refine ⟨v, by rw [List.getElem?_map, e4]; rfl, ?_⟩
    rcases k with ⟨x, ea, r⟩ | ⟨i, ea, hv⟩
    · rw [ea] at e2
      cases e2
      refine (RO.d r).fp fun b => ⟨fun h => h.elim, fun ⟨i, h, _⟩ => ?_⟩
      rw [List.getElem?_eq_getElem hj, ea] at h
      cases h
    · rw [ea] at e2
      obtain ⟨v', h1, r⟩ := S.slot i o e2
      rw [hv] at h1
      cases h1
      refine r.fp fun b => ⟨fun h => ⟨i, by rw [List.getElem?_eq_getElem hj, ea], h⟩, fun ⟨i', h, hb⟩ => ?_⟩
      rw [List.getElem?_eq_getElem hj, ea] at h
      cases h
      exact hb
  emp := fun j b ⟨i, h, hb⟩ => by
    obtain ⟨o, _, e⟩ := argsO_get ho h
    exact ⟨o, rd_map' e⟩
  dis := fun j k b hjk ⟨i, h1, hb⟩ ⟨i', h2, hb'⟩ => by
    by_cases e : i = i'
    · subst e
      exact hjk (noDup_at hn h1 h2)
    · exact S.dis i i' b e hb hb'
/-- the slots behind the call -/
def backF (as : List Arg) (fp1 fpc : Nat → Fp) : Nat → Fp := fun i b => match posA 0 as i with
  | some k => fpc k b
  | none => fp1 i b
variable {Hs' H' : Hp} {fp' : Nat → Fp} {π : Env} {o : O} {v : V} {f : Fp}
theorem lent_in {j : Nat} {b : Addr} (h : lentF as fp1 j b) : ∃ i, fp1 i b := let ⟨i, _, hb⟩ := h; ⟨i, hb⟩
/-- a slot that is not lent -/
theorem not_lent (S : Stt G Hs1 H1 σ ρ1 fp1) {i j : Nat} {b : Addr} (hp : posA 0 as i = none) (hb : fp1 i b) : ¬ lentF as fp1 j b := fun ⟨i', h, hb'⟩ => by
  by_cases e : i = i'
  · subst e
    obtain ⟨k, hk⟩ := posA_of (j := 0) h
    rw [hp] at hk
    cases hk
  · exact S.dis i i' b e hb hb'
theorem back_call (S : Stt G Hs1 H1 σ ρ1 fp1) (ha : Ars G Hs1 σ vs as) (hn : noDup (ioSlots as) = true) (ho : argsO ρ1 as = some os) (hr : ro = true → (ioSlots as).isEmpty = true)
    (g : Go false Hs1 H1 (lentF as fp1) Hs' H' fp') (S' : Stt G Hs' H' (vs.map some) π fp') (ow : Own H1 (lentF as fp1) fp' f) :
    Mo G σ ro Hs1 H1 fp1 (putBack ρ1 π 0 as) Hs' H' (backF as fp1 fp') ∧ Own H1 fp1 (backF as fp1 fp') f := by
  have inLen : ∀ {i m : Nat}, as[m]? = some (.io i) → i < ρ1.length := fun {i m} h => by
    obtain ⟨o, e, _⟩ := argsO_get ho h
    exact rd_lt (show rd ρ1 i = some o from e)
  refine ⟨⟨⟨S'.sub, by rw [putBack_length]; exact S.len, fun i o e => ?_, fun i b hb => ?_, fun i j b hij h1 h2 => ?_⟩, ⟨g.ex, fun b o e n => g.frame b o e fun j hj => ?_, fun i b hb => ?_, fun b o e => ?_, fun e => ?_⟩⟩, fun b hb => ⟨fun i hi => ?_, ?_⟩⟩
  · -- slots
    have hl : i < ρ1.length := by have := rd_lt e; rw [putBack_length] at this; exact this
    rw [rd_putBack as 0 i hl] at e
    cases hp : posA 0 as i with
    | some k =>
      rw [hp] at e
      simp only at e
      obtain ⟨m, rfl, hm⟩ := posA_get hp
      rw [Nat.zero_add] at hp e
      obtain ⟨v, h1, r⟩ := S'.slot m o e
      obtain ⟨w, h2, k⟩ := ha.get hm
      have h1' := map_some_get h1
      rw [h2] at h1'
      cases h1'
      rcases k with ⟨x, ea, _⟩ | ⟨i', ea, hv⟩
      · cases ea
      · cases ea
        refine ⟨v, hv, r.fp fun b => ?_⟩
        unfold backF
        rw [hp]
    | none =>
      rw [hp] at e
      simp only at e
      obtain ⟨v, h1, r⟩ := S.slot i o e
      refine ⟨v, h1, (r.mono g.ex fun b hb => ?_).fp fun b => by unfold backF; rw [hp]⟩
      obtain ⟨⟨us, e1⟩, n1⟩ := r.at_ b hb
      have nl : ∀ j, ¬ lentF as fp1 j b := fun j => not_lent S hp hb
      refine ⟨(g.frame b _ e1 nl).trans e1.symm, ?_⟩
      cases q : Hs' b with
      | none => rfl
      | some u =>
        rcases g.grow b u q with z | ⟨j, z⟩ | z
        · rw [n1] at z; cases z
        · exact (nl j z).elim
        · rw [e1] at z; cases z
  · -- nothing where no slot is
    unfold backF at hb
    cases hp : posA 0 as i with
    | some k =>
      rw [hp] at hb
      simp only at hb
      obtain ⟨m, rfl, hm⟩ := posA_get hp
      obtain ⟨o, e⟩ := S'.emp _ b hb
      exact ⟨o, by rw [rd_putBack as 0 i (inLen hm), hp]; exact e⟩
    | none =>
      rw [hp] at hb
      simp only at hb
      obtain ⟨o, e⟩ := S.emp i b hb
      exact ⟨o, by rw [rd_putBack as 0 i (rd_lt e), hp]; exact e⟩
  · -- apart
    have mix : ∀ {i j k : Nat}, posA 0 as i = none → fp1 i b → fp' k b → False := fun {i j k} hp hb hb' => by
      rcases g.orig k b hb' with ⟨j, z⟩ | z
      · exact not_lent S hp hb z
      · obtain ⟨⟨us, e⟩, _⟩ := S.own hb
        rw [e] at z; cases z
    unfold backF at h1 h2
    cases hp : posA 0 as i with
    | some k =>
      rw [hp] at h1
      cases hq : posA 0 as j with
      | some l =>
        rw [hq] at h2
        refine S'.dis k l b (fun e => ?_) h1 h2
        subst e
        obtain ⟨m, e1, hm⟩ := posA_get hp
        obtain ⟨m', e2, hm'⟩ := posA_get hq
        have : m = m' := by omega
        subst this
        rw [hm] at hm'
        cases hm'
        exact hij rfl
      | none =>
        rw [hq] at h2
        exact mix (j := 0) hq h2 h1
    | none =>
      rw [hp] at h1
      cases hq : posA 0 as j with
      | some l =>
        rw [hq] at h2
        exact mix (j := 0) hp h1 h2
      | none =>
        rw [hq] at h2
        exact S.dis i j b hij h1 h2
  · obtain ⟨i, hi⟩ := lent_in hj
    exact n i hi
  · unfold backF at hb
    cases hp : posA 0 as i with
    | some k =>
      rw [hp] at hb
      exact (g.orig k b hb).imp (fun ⟨j, z⟩ => lent_in z) id
    | none =>
      rw [hp] at hb
      exact .inl ⟨i, hb⟩
  · rcases g.grow b o e with z | ⟨j, z⟩ | z
    · exact .inl z
    · exact .inr (.inl (lent_in z))
    · exact .inr (.inr z)
  · have he := hr e
    have no : ∀ m i, as[m]? ≠ some (Arg.io i) := fun m i h => by
      have := mem_ioSlots h
      rw [List.isEmpty_iff.mp he] at this
      cases this
    refine ⟨fun b o e => g.frame b o e fun j ⟨i, h, _⟩ => no j i h, ?_⟩
    funext i b
    unfold backF
    cases hp : posA 0 as i with
    | some k =>
      obtain ⟨m, _, hm⟩ := posA_get hp
      exact (no m i hm).elim
    | none => rfl
  · unfold backF at hi
    cases hp : posA 0 as i with
    | some k =>
      rw [hp] at hi
      exact (ow b hb).1 k hi
    | none =>
      rw [hp] at hi
      rcases (ow b hb).2 with ⟨j, z⟩ | z
      · exact not_lent S hp hi z
      · obtain ⟨⟨us, e⟩, _⟩ := S.own hi
        rw [e] at z; cases z
  · rcases (ow b hb).2 with ⟨j, z⟩ | z
    · exact .inl (lent_in z)
    · exact .inr z
end

/-! ### the call's rule -/
/-- no exception leaves -/
def noX : CXT := fun _ _ _ _ _ _ => False
/-- the def at f keeps sp, where nothing guards -/
structure FG (P : Program) (w : World) (K : PySem.W.Frag) (mg : Str → Option Value) (base : Heap) (k : Nat) (f : Addr) (fd : FuncData) (ps : List Str) (sp : List V → Hp → VK → Prop) : Prop where
  many : ∀ vs H Q, sp vs H Q → vs.length = ps.length
  does : ∀ (A : Around) (outer : List PySem.Env) (s : Shared) (H : Hp) (args : Args) (us : List Value) (vs : List V) (Q : VK), Room k A → A.guards = some [] → Env0 P w K mg base A outer s H → BindsTo s fd args (ps.zip us) → Vals vs us → sp vs H Q →
    codeAny (model P w) A (.call (.ref f) args) (L2.CR noX outer P w H s Q fun _ _ _ => False) s
theorem FG.lower {P : Program} {w : World} {K : PySem.W.Frag} {mg : Str → Option Value} {base : Heap} {j k : Nat} {f : Addr} {fd : FuncData} {ps : List Str} {sp : List V → Hp → VK → Prop} (F : FG P w K mg base j f fd ps sp) (h : j ≤ k) : FG P w K mg base k f fd ps sp :=
  ⟨F.many, fun A outer s H args us vs Q hr => F.does A outer s H args us vs Q (hr.mono h)⟩
section
variable {X : Cx} {fa : Nat → Addr} {cf : Nat → List O → CR} {k f : Nat} {fd : FuncData} {ps : List Str} {sp : List V → Hp → VK → Prop} {x : Str} {p pos : Pos} {a : Expr} {es : List Expr} {el : E} {t : TA} {fA : Addr}
theorem run_fg {pins : List (Addr × Obj)} {σ : L2.St} {H : Hp} {s : Shared} {Q : VK} {us : List Value} {vs : List V} (F : FG X.prog X.w X.K X.mg X.base k fA fd ps sp) (hr : Room k X.A) (hgd : X.A.guards = some []) (hb : Binds X.K fd ps [])
    (I : Inv X pins σ H s) (r : Vals vs us) (h : sp vs H Q) : wpAny (model X.prog X.w) X.A (call (.ref fA) us) (EP X pins σ Q) X.xe s := by
  have hl : (us ++ ([] : List Value)).length = ps.length := by rw [List.append_nil, ← r.length]; exact F.many _ _ _ h
  have hb' := hb s us I.kIn hl
  rw [List.append_nil] at hb'
  refine wpAny_call (codeAny_mono (F.does X.A X.stack s H ⟨us, []⟩ us vs Q hr hgd I.env0 hb' r h) fun r s' hq => ?_)
  cases r with
  | error e => exact False.elim hq
  | ok fl =>
    cases fl with
    | ret u => exact I.after hq
    | next => exact False.elim hq
    | brk => exact False.elim hq
    | cont => exact False.elim hq
def tFG (sp : List V → Hp → VK → Prop) (t : TA) : TE := fun σ H Q => t σ H fun vs H1 => sp vs H1 Q
theorem pe_fg (F : FG X.prog X.w X.K X.mg X.base k fA fd ps sp) (hr : Room k X.A) (hgd : X.A.guards = some []) (hg : Gl X x) (hm : X.mg x = some (.ref fA)) (hk : PySem.W.keepIn X.K (.ref fA) = true) (hb : Binds X.K fd ps [])
    (ha : PA X (a :: es) t) (hdb : (x == ("__debug__" : Str)) = false) (he : starEach (a :: es) X.env = (false, eval a X.env) :: starEach es X.env) (hpl : (starEach es X.env).any (·.1) = false) :
    PE X (.Call (.Name x p) (a :: es) [] pos) (tFG sp t) := by
  refine ⟨fun pins s σ H Q I h => ?_⟩
  refine wpAny_Call_Name_kw (ld_glob I hg hm ?_ hdb)
  exact PySem.W.callWith_K (h₀ := X.base) I.ok.mod.kin hk (thn (ha.run pos pins s σ H _ I h) fun us s1 ⟨vs, H1, I1, r, q⟩ => ⟨I1.kIn, run_fg F hr hgd hb I1 r q⟩) he (nostars_any hpl)
theorem pe_fg0 (F : FG X.prog X.w X.K X.mg X.base k fA fd ps sp) (hr : Room k X.A) (hgd : X.A.guards = some []) (hg : Gl X x) (hm : X.mg x = some (.ref fA)) (hk : PySem.W.keepIn X.K (.ref fA) = true) (hb : Binds X.K fd ps [])
    (hdb : (x == ("__debug__" : Str)) = false) : PE X (.Call (.Name x p) [] [] pos) (tFG sp tNil) := by
  refine ⟨fun pins s σ H Q I h => ?_⟩
  refine wpAny_Call_Name_kw (ld_glob I hg hm ?_ hdb)
  exact PySem.W.callWith_K0 I.kIn hk (run_fg (us := []) F hr hgd hb I .nil h)
theorem evA_len : ∀ (el : E) {ro : Bool} {ρ ρ' : Env} {as : List Arg}, evA cf el ro ρ = .ok as ρ' → as.length = lenE el
  | .nil, ro, ρ, ρ', as, h => by
    rw [evA] at h
    cases h
    rfl
  | .cons a r, ro, ρ, ρ', as, h => by
    cases a with
    | io i =>
      rw [evA] at h
      split at h
      · obtain ⟨as, ρ2, e2, e⟩ := R.bind_ok h
        cases e
        exact congrArg Nat.succ (evA_len r e2)
      · cases h
    | _ =>
      rw [evA.eq_3 _ _ _ _ _ (fun i e => by cases e)] at h
      obtain ⟨o, ρ1, e1, h⟩ := R.bind_ok h
      obtain ⟨as, ρ2, e2, e⟩ := R.bind_ok h
      cases e
      exact congrArg Nat.succ (evA_len r e2)
  | .v _, _, _, _, _, h | .c _, _, _, _, _, h | .tup _, _, _, _, _, h | .lst _, _, _, _, _, h | .bin _ _ _, _, _, _, _, h | .cmp _ _ _, _, _, _, _, h | .chn _ _ _ _ _, _, _, _, _, h | .not _, _, _, _, _, h | .and _ _, _, _, _, _, h | .or _ _, _, _, _, _, h | .neg _, _, _, _, _, h
  | .ite _ _ _, _, _, _, _, h | .ix _ _, _, _, _, _, h | .no, _, _, _, _, h | .sl _ _ _, _, _, _, _, h | .rev _, _, _, _, _, h | .call _ _, _, _, _, _, h | .io _, _, _, _, _, h | .blt _ _, _, _, _, _, h | .isi _ _, _, _, _, _, h | .lc _ _ _ _ _, _, _, _, _, h | .lc2 _ _ _ _ _ _ _ _ _, _, _, _, _, h
  | .rng1 _, _, _, _, _, h | .rng2 _ _, _, _, _, _, h | .enum _, _, _, _, _, h | .zip _ _, _, _, _, _, h => by simp [evA] at h
theorem evL_len : ∀ (el : E) {ro : Bool} {ρ ρ' : Env} {as : List O}, evL cf el ro ρ = .ok as ρ' → as.length = lenE el
  | .nil, ro, ρ, ρ', as, h => by
    rw [evL] at h
    cases h
    rfl
  | .cons a r, ro, ρ, ρ', as, h => by
    rw [evL] at h
    obtain ⟨o, ρ1, e1, h⟩ := R.bind_ok h
    obtain ⟨as, ρ2, e2, e⟩ := R.bind_ok h
    cases e
    exact congrArg Nat.succ (evL_len r e2)
  | .v _, _, _, _, _, h | .c _, _, _, _, _, h | .tup _, _, _, _, _, h | .lst _, _, _, _, _, h | .bin _ _ _, _, _, _, _, h | .cmp _ _ _, _, _, _, _, h | .chn _ _ _ _ _, _, _, _, _, h | .not _, _, _, _, _, h | .and _ _, _, _, _, _, h | .or _ _, _, _, _, _, h | .neg _, _, _, _, _, h
  | .ite _ _ _, _, _, _, _, h | .ix _ _, _, _, _, _, h | .no, _, _, _, _, h | .sl _ _ _, _, _, _, _, h | .rev _, _, _, _, _, h | .call _ _, _, _, _, _, h | .io _, _, _, _, _, h | .blt _ _, _, _, _, _, h | .isi _ _, _, _, _, _, h | .lc _ _ _ _ _, _, _, _, _, h | .lc2 _ _ _ _ _ _ _ _ _, _, _, _, _, h
  | .rng1 _, _, _, _, _, h | .rng2 _ _, _, _, _, _, h | .enum _, _, _, _, _, h | .zip _ _, _, _, _, _, h => by simp [evL] at h
/-- by the evaluator -/
theorem call_law {H : Hp} {σ : L2.St} {Q : VK} {np : Nat} (hnp : ∀ ro ρ as ρ', evA cf el ro ρ = .ok as ρ' → as.length = np) (h : tBv (ct X fa) cf (.call f el) σ H Q) : tFG (spF (ct X fa) (cf f) np) (tAr (ct X fa) cf el) σ H Q := by
  obtain ⟨ro, Hs, ρ, fp, S, b, o, ρ', e, K⟩ := h
  rw [evB] at e
  obtain ⟨as, ρ1, e1, e⟩ := R.bind_ok e
  refine ⟨ro, Hs, ρ, fp, S, as, ρ1, e1, fun vs Hs1 H1 fp1 m1 ha => ?_⟩
  have hl : vs.length = np := ha.length.trans (hnp _ _ _ _ e1)
  unfold calling at e
  split at e
  · rename_i hc
    rw [Bool.and_eq_true] at hc
    obtain ⟨c1, c2⟩ := hc
    split at e
    · rename_i os ho
      cases hcf : cf f os with
      | ok o' π =>
        rw [hcf] at e
        cases e
        refine ⟨Hs1, os, lentF as fp1, o, π, hl, by rw [argsO_length ho, ← ha.length]; exact hl, stt_call m1.st ha c2 ho, hcf, fun v Hs' H' fp' f' g S' r ow => ?_⟩
        obtain ⟨k1, k2⟩ := back_call (ro := ro) m1.st ha c2 ho (fun h => by rw [h] at c1; simpa using c1) g S' ow
        exact K v _ _ _ f' (m1.then k1 id) r (VwB.own (own_from m1.go k2))
      | ex => rw [hcf] at e; cases e
      | bad => rw [hcf] at e; cases e
    · cases e
  · cases e
end
end Dv
set_option Elab.async false
set_option linter.all false
set_option maxRecDepth 100000
set_option maxHeartbeats 1000000
/-! Part F: what is walked, targets, comprehensions. -/
namespace Dv
open PySem PySem.Spec PyProof.Rows L2

/-! ### a source of turns -/
/-- later, what is walked as it was -/
structure Sta (Hs0 H0 : Hp) (f : Fp) (Hs H : Hp) : Prop where
  ex : Same Hs0 Hs
  sub : Same Hs H
  own : ∀ b, f b → H b = H0 b
structure WkD (G : Ct) (J : It) (Hs0 H0 : Hp) (xs : List D) (f : Fp) : Prop where
  goes : ∀ i Hs H, i < xs.length → Sta Hs0 H0 f Hs H → J.go i H
  stops : ∀ Hs H, Sta Hs0 H0 f Hs H → J.stop xs.length H
  yields : ∀ i Hs H v H', i < xs.length → Sta Hs0 H0 f Hs H → J.yld i H v H' → ∃ Hs' x, xs[i]? = some x ∧ Xt Hs H Hs' H' ∧ RD G Hs' v x
def tI (G : Ct) (cf : Nat → List O → CR) (e : E) : TI := fun σ H R => ∃ ro Hs ρ fp, Stt G Hs H σ ρ fp ∧ ∃ s ρ', evI cf e ro ρ = .ok s ρ' ∧
  ∀ J Hs' H' fp' f, Mo G σ ro Hs H fp ρ' Hs' H' fp' → WkD G J Hs' H' s.items f → (∀ c, f c → H' c ≠ none ∧ ((∃ j, fp j c) ∨ H c = none)) → (∀ c i, f c → fp' i c → i ∈ s.lent) → R J H'
theorem pi_imp {X : Cx} {tg e : Expr} {t t' : TI} (h : PI X tg e t) (k : ∀ σ H R, t' σ H R → t σ H R) : PI X tg e t' := ⟨fun pins s σ H R I q => h.run pins s σ H R I (k σ H R q)⟩
def ItS (k : Bool) (K : PySem.W.Frag) (a : Addr) : It := if k = true then Itl K a else Itt K a
theorem turnS {P : Program} {w : World} {K : PySem.W.Frag} {tg : Expr} (k : Bool) (a it : Addr) : Turn P w K tg (ItS k K a) [it] it (fun i h => ItK k h it a i) := by
  cases k with
  | true => exact turn_list a it
  | false => exact turn_tuple a it
def iSeqK (K : PySem.W.Frag) (te : TE) : TI := fun σ H R => te σ H fun x H1 => ∃ k a xs, x = V.ref a ∧ SqK k K H1 a xs ∧ R (ItS k K a) H1
theorem pi_seqK {X : Cx} {tg l : Expr} {tl : TE} (hl : PE X l tl) : PI X tg l (iSeqK X.K tl) := by
  refine ⟨fun pins s σ H R I h => ?_⟩
  refine thn (hl.run pins s σ H _ I h) fun v s1 ⟨x, H1, I1, r1, k, a, xs, e, hq, q⟩ => ?_
  subst e
  cases r1
  obtain ⟨its, rv, p, hz⟩ := seqK_of I1 hq
  refine (beginsK k a its.toArray).iter _ _ _ _ s1 _ p ?_
  refine ⟨s1.heap.objs.size, [s1.heap.objs.size], _, _, H1, rfl, I1.kept (t' := s1.toks) fun b o e => Heap.get?_push_of_some _ e, turnS k a _, itK_new (Heap.get?_push_size _ rfl), fun b hb => ?_, q⟩
  have e : b = s1.heap.objs.size := by simpa using hb
  subst e
  exact I1.fpOk (Nat.le_refl _) (I1.hok.fresh (Nat.le_refl _))
section
variable {G : Ct} {Hs H : Hp} {v : V} {ov : O} {f : Fp} {xs : List D}
theorem asQ_walk (s : Same Hs H) (r : RO G Hs H v ov f) (h : asQ ov = some xs) : ∃ k a vs, v = .ref a ∧ RDs G Hs vs xs ∧ (∀ Hs' H', Sta Hs H f Hs' H' → SqK k G.K H' a vs) ∧ ∀ c, f c → H c ≠ none := by
  cases r with
  | @d _ x r =>
    cases r with
    | lst q t => cases h; exact ⟨true, _, _, rfl, t, fun Hs' H' st => st.sub.seq (st.ex.seq q), fun c z => z.elim⟩
    | tup q t => cases h; exact ⟨false, _, _, rfl, t, fun Hs' H' st => seqT st.sub (seqT st.ex q), fun c z => z.elim⟩
    | _ => cases h
  | ls e n t =>
    cases h
    refine ⟨true, _, _, rfl, t, fun Hs' H' st => SqL.of ((st.own _ rfl).trans e), fun c z => ?_⟩
    cases z
    rw [e]
    exact nofun
  | nl => cases h
theorem Sta.refl (s : Same Hs H) : Sta Hs H f Hs H := ⟨Same.refl _, s, fun _ _ => rfl⟩
theorem Sta.weak {f' : Fp} {Hs' H' : Hp} (st : Sta Hs H f Hs' H') (h : ∀ b, f' b → f b) : Sta Hs H f' Hs' H' := ⟨st.ex, st.sub, fun b hb => st.own b (h b hb)⟩
theorem wk_seq {k : Bool} {a : Addr} {vs : List V} (t : RDs G Hs vs xs) (q : ∀ Hs' H', Sta Hs H f Hs' H' → SqK k G.K H' a vs) : WkD G (ItS k G.K a) Hs H xs f where
  goes := fun i Hs' H' hi st => by
    have hl := t.length
    have hq := q _ _ st
    cases k with
    | true => exact ⟨vs, vs[i]'(by omega), hq, List.getElem?_eq_getElem (by omega)⟩
    | false => exact ⟨vs, vs[i]'(by omega), hq, List.getElem?_eq_getElem (by omega)⟩
  stops := fun Hs' H' st => by
    have hl := t.length
    have hq := q _ _ st
    cases k with
    | true => exact ⟨vs, hq, by omega⟩
    | false => exact ⟨vs, hq, by omega⟩
  yields := fun i Hs' H' v H'' hi st y => by
    have hq := q _ _ st
    have key : H'' = H' ∧ vs[i]? = some v := by
      cases k with
      | true => exact ⟨y.1, y.2 vs hq⟩
      | false => exact ⟨y.1, y.2 vs hq⟩
    obtain ⟨rfl, e⟩ := key
    obtain ⟨x, e1, r⟩ := t.getV e
    exact ⟨Hs', x, e1, Xt.refl st.sub, r.mono st.ex⟩
theorem enumFrom_length : ∀ (xs : List D) (k : Nat), (enumFrom k xs).length = xs.length
  | [], _ => rfl
  | _ :: r, k => congrArg Nat.succ (enumFrom_length r (k + 1))
theorem enumFrom_get : ∀ {xs : List D} {k i : Nat} {x : D}, xs[i]? = some x → (enumFrom k xs)[i]? = some (.tuple [.int ((k + i : Nat) : Int), x])
  | [], _, _, _, h => by cases h
  | _ :: _, k, 0, _, h => by cases h; rfl
  | _ :: r, k, i + 1, x, h => by
    have := enumFrom_get (xs := r) (k := k + 1) (i := i) h
    show (enumFrom (k + 1) r)[i]? = _
    have e : k + 1 + i = k + (i + 1) := by omega
    rw [this, e]
theorem wk_enum {k : Bool} {a : Addr} {vs : List V} (t : RDs G Hs vs xs) (q : ∀ Hs' H', Sta Hs H f Hs' H' → SqK k G.K H' a vs) : WkD G (IteK k G.K a) Hs H (enumFrom 0 xs) f where
  goes := fun i Hs' H' hi st => by
    have hl := t.length
    rw [enumFrom_length] at hi
    exact ⟨vs, vs[i]'(by omega), q _ _ st, List.getElem?_eq_getElem (by omega)⟩
  stops := fun Hs' H' st => ⟨vs, q _ _ st, by rw [enumFrom_length, t.length]⟩
  yields := fun i Hs' H' v H'' hi st y => by
    obtain ⟨T, x, rfl, hT, rfl, e⟩ := y
    obtain ⟨d, e1, r⟩ := t.getV (e vs (q _ _ st))
    have e2 := enumFrom_get (k := 0) e1
    rw [Nat.zero_add] at e2
    refine ⟨L2.upd Hs' T (.tup [.int (i : Nat), x]), _, e2, Xt.new st.sub hT, .tup (.inl (.inl upd_same)) (.cons (.int _) (.cons ?_ .nil))⟩
    exact (r.mono st.ex).mono (same_new (none_sub st.sub hT))
theorem zipD_get : ∀ {xs ys : List D} {i : Nat} {x y : D}, xs[i]? = some x → ys[i]? = some y → (zipD xs ys)[i]? = some (.tuple [x, y])
  | [], _, _, _, _, h, _ => by cases h
  | _ :: _, [], _, _, _, _, h => by cases h
  | _ :: _, _ :: _, 0, _, _, h, h' => by cases h; cases h'; rfl
  | _ :: r, _ :: r', i + 1, _, _, h, h' => zipD_get (xs := r) (ys := r') (i := i) h h'
theorem zipD_length : ∀ {xs ys : List D}, (zipD xs ys).length = min xs.length ys.length
  | [], ys => by cases ys <;> simp [zipD]
  | _ :: _, [] => by simp [zipD]
  | _ :: r, _ :: r' => by
    show (zipD r r').length + 1 = min (r.length + 1) (r'.length + 1)
    rw [zipD_length]
    omega
theorem wk_zip {k k2 : Bool} {a b : Addr} {vs us : List V} {ys : List D} (t : RDs G Hs vs xs) (t2 : RDs G Hs us ys) (q : ∀ Hs' H', Sta Hs H f Hs' H' → SqK k G.K H' a vs) (q2 : ∀ Hs' H', Sta Hs H f Hs' H' → SqK k2 G.K H' b us) : WkD G (ItzK k k2 G.K a b) Hs H (zipD xs ys) f where
  goes := fun i Hs' H' hi st => by
    have hl := t.length
    have hl2 := t2.length
    rw [zipD_length] at hi
    exact ⟨vs, us, vs[i]'(by omega), us[i]'(by omega), q _ _ st, q2 _ _ st, List.getElem?_eq_getElem (by omega), List.getElem?_eq_getElem (by omega)⟩
  stops := fun Hs' H' st => by
    have hl := t.length
    have hl2 := t2.length
    rw [zipD_length]
    exact ⟨vs, us, q _ _ st, q2 _ _ st, by omega, by omega, by omega⟩
  yields := fun i Hs' H' v H'' hi st y => by
    obtain ⟨T, x, z, rfl, hT, rfl, e, e'⟩ := y
    obtain ⟨d, e1, r⟩ := t.getV (e vs (q _ _ st))
    obtain ⟨d2, e2, r2⟩ := t2.getV (e' us (q2 _ _ st))
    refine ⟨L2.upd Hs' T (.tup [x, z]), _, zipD_get e1 e2, Xt.new st.sub hT, .tup (.inl (.inl upd_same)) (.cons ?_ (.cons ?_ .nil))⟩
    · exact (r.mono st.ex).mono (same_new (none_sub st.sub hT))
    · exact (r2.mono st.ex).mono (same_new (none_sub st.sub hT))
theorem range_get {lo n : Int} {i : Nat} (h : i < (n - lo).toNat) : (range lo n)[i]? = some (.int (lo + (i : Int))) := by
  unfold range
  rw [List.getElem?_map, List.getElem?_range h]
  rfl
theorem wk_range {lo n : Int} : WkD G (Itr lo (n - lo).toNat) Hs H (range lo n) f where
  goes := fun i Hs' H' hi _ => by
    unfold range at hi
    rw [List.length_map, List.length_range] at hi
    exact hi
  stops := fun Hs' H' _ => by
    unfold range
    rw [List.length_map, List.length_range]
    exact Nat.le_refl _
  yields := fun i Hs' H' v H'' hi st y => by
    obtain ⟨rfl, rfl⟩ := y
    unfold range at hi
    rw [List.length_map, List.length_range] at hi
    exact ⟨Hs', _, range_get hi, Xt.refl st.sub, .int _⟩
end
theorem srcOf_ok {xs : Option (List D)} {l : Option (List Nat)} {ρ ρ' : Env} {s : Src} (h : srcOf xs l ρ = .ok s ρ') : xs = some s.items ∧ l = some s.lent ∧ ρ' = ρ := by
  unfold srcOf at h
  split at h
  · cases h; exact ⟨rfl, rfl, rfl⟩
  · cases h
theorem lent_ok {G : Ct} {Hs' H' H : Hp} {σ : L2.St} {ρ : Env} {fp fp' : Nat → Fp} {e : E} {b : Bool} {l : List Nat} {v : V} {f : Fp} (S : Stt G Hs' H' σ ρ fp') (h : lentOf e b = some l) (w : VwB (hint e) σ v b H fp fp' f) {c : Addr} {i : Nat} (hc : f c) (hi : fp' i c) : i ∈ l := by
  unfold lentOf at h
  split at h
  · exact ((w.toOwn c hc).1 i hi).elim
  · rename_i i0
    cases h
    obtain ⟨_, k⟩ := w.at_ rfl i0 rfl
    by_cases e : i = i0
    · exact List.mem_singleton.mpr e
    · exact (S.dis _ _ _ e hi (k c hc)).elim
  · cases h
theorem Go.was {ro : Bool} {Hs Hs1 H H1 : Hp} {fp fp1 : Nat → Fp} (g : Go ro Hs H fp Hs1 H1 fp1) {b : Addr} (h : H1 b = none) : (∃ j, fp j b) ∨ H b = none := by
  by_cases z : ∃ j, fp j b
  · exact .inl z
  · cases q : H b with
    | none => exact .inr rfl
    | some u =>
      have := g.frame b u q fun i hi => z ⟨i, hi⟩
      rw [h] at this
      cases this
theorem lent_new {G : Ct} {ro : Bool} {Hs Hs' H' H : Hp} {σ : L2.St} {ρ : Env} {fp fp' : Nat → Fp} {e : E} {b : Bool} {l : List Nat} {v : V} {f : Fp} (m : Mo G σ ro Hs H fp ρ Hs' H' fp') (h : lentOf e b = some l) (w : VwB (hint e) σ v b H fp fp' f) {c : Addr} (hc : f c) : (∃ j, fp j c) ∨ H c = none := by
  unfold lentOf at h
  split at h
  · exact (w.toOwn c hc).2
  · rename_i i0
    obtain ⟨_, k⟩ := w.at_ rfl i0 rfl
    exact m.go.orig i0 c (k c hc)
  · cases h
theorem VwB.carry {G : Ct} {ro b : Bool} {σ : L2.St} {lv : Option Nat} {Hs1 H1 Hs2 H2 H : Hp} {fp fp1 fp2 : Nat → Fp} {ρ2 : Env} {v : V} {o : O} {f : Fp} (m2 : Mo G σ (ro || b) Hs1 H1 fp1 ρ2 Hs2 H2 fp2) (r : RO G Hs1 H1 v o f) (w : VwB lv σ v b H fp fp1 f) : VwB lv σ v b H fp fp2 f := by
  refine ⟨(m2.carry r w).2, fun hb i hi => ?_⟩
  obtain ⟨h1, h2⟩ := w.at_ hb i hi
  subst hb
  obtain ⟨_, q⟩ := m2.go.quiet (by simp)
  rw [q]
  exact ⟨h1, h2⟩
section
variable {X : Cx} {fa : Nat → Addr} {cf : Nat → List O → CR} {ea eb : E} {a b tg : Expr} {p pos : Pos}
theorem si_seq (ha : PE X a (tBv (ct X fa) cf ea)) (he : ∀ ro ρ, evI cf ea ro ρ = (evB cf ea ro ρ).bind fun x ρ' => srcOf (itemsOf x) (lentOf ea x.1) ρ') : PI X tg a (tI (ct X fa) cf ea) := by
  refine pi_imp (pi_seqK ha) ?_
  rintro σ H RJ ⟨ro, Hs, ρ, fp, S, s, ρ', e, K⟩
  rw [he] at e
  obtain ⟨⟨bx, ox⟩, ρ1, e1, e⟩ := R.bind_ok e
  obtain ⟨e2, e3, rfl⟩ := srcOf_ok e
  refine ⟨ro, Hs, ρ, fp, S, bx, ox, _, e1, fun x Hs1 H1 fp1 f1 m1 r1 w1 => ?_⟩
  rcases itemsOf_some e2 with e2 | ⟨os, e2, e4⟩
  · obtain ⟨k, q, vs, rfl, t, hq, hf⟩ := asQ_walk m1.st.sub r1 e2
    exact ⟨k, q, vs, rfl, hq _ _ (Sta.refl m1.st.sub), K _ _ _ _ _ m1 (wk_seq t hq) (fun c hc => ⟨hf c hc, lent_new m1 e3 w1 hc⟩) fun c i hc hi => lent_ok m1.st e3 w1 hc hi⟩
  · cases e2
    have w1o : Own H fp fp1 f1 := w1.toOwn
    obtain ⟨r2, m2⟩ := m1.frozen r1 w1o
    obtain ⟨k, q, vs, rfl, t, hq, hf⟩ := asQ_walk (xs := s.items) m2.st.sub (RO.d (H := H1) r2) (by rw [e4]; rfl)
    exact ⟨k, q, vs, rfl, hq _ _ (Sta.refl m2.st.sub), K _ _ _ _ _ m2 (wk_seq t hq) (fun c hc => hc.elim) fun c i hc hi => hc.elim⟩
theorem si_enum {elts : List Expr} {kk : Nat} {tpos : Pos} (hg : Gl X "enumerate") (hm : X.mg "enumerate" = none) (ha : PE X a (tBv (ct X fa) cf ea)) (hs : ∀ es, starEach (a :: es) X.env = (false, eval a X.env) :: starEach es X.env) :
    PI X (.Tuple elts kk tpos) (.Call (.Name "enumerate" p) [a] [] pos) (tI (ct X fa) cf (.enum ea)) := by
  refine pi_imp (pi_enumK hg hm (pa_cons ha pa_nil (hs _)) (hs _)) ?_
  rintro σ H RJ ⟨ro, Hs, ρ, fp, S, s, ρ', e, K⟩
  rw [evI] at e
  obtain ⟨⟨bx, ox⟩, ρ1, e1, e⟩ := R.bind_ok e
  obtain ⟨e2, e3, rfl⟩ := srcOf_ok e
  obtain ⟨xs, e4, e5⟩ := Option.map_eq_some_iff.mp e2
  refine ⟨ro, Hs, ρ, fp, S, bx, ox, _, e1, fun x Hs1 H1 fp1 f1 m1 r1 w1 => ?_⟩
  obtain ⟨k, q, vs, rfl, t, hq, hf⟩ := asQ_walk m1.st.sub r1 e4
  refine ⟨k, q, vs, rfl, hq _ _ (Sta.refl m1.st.sub), K _ _ _ _ f1 m1 ?_ (fun c hc => ⟨hf c hc, lent_new m1 e3 w1 hc⟩) fun c i hc hi => lent_ok m1.st e3 w1 hc hi⟩
  rw [← e5]
  exact wk_enum t hq
theorem si_zip {elts : List Expr} {kk : Nat} {tpos : Pos} (hg : Gl X "zip") (hm : X.mg "zip" = none) (ha : PE X a (tBv (ct X fa) cf ea)) (hb : PE X b (tBv (ct X fa) cf eb)) (hs : ∀ es, starEach (a :: es) X.env = (false, eval a X.env) :: starEach es X.env) (hs2 : ∀ es, starEach (b :: es) X.env = (false, eval b X.env) :: starEach es X.env) :
    PI X (.Tuple elts kk tpos) (.Call (.Name "zip" p) [a, b] [] pos) (tI (ct X fa) cf (.zip ea eb)) := by
  refine pi_imp (pi_zipK hg hm (pa_cons ha (pa_cons hb pa_nil (hs2 _)) (hs _)) (hs _) (nostars_any (by rw [hs2]; rfl))) ?_
  rintro σ H RJ ⟨ro, Hs, ρ, fp, S, s, ρ', e, K⟩
  rw [evI] at e
  obtain ⟨⟨bx, ox⟩, ρ1, e1, e⟩ := R.bind_ok e
  obtain ⟨⟨bY, oy⟩, ρ2, e1', e⟩ := R.bind_ok e
  obtain ⟨e2, e3, rfl⟩ := srcOf_ok e
  obtain ⟨xs, e4, e5⟩ := Option.bind_eq_some_iff.mp e2
  obtain ⟨ys, e6, e7⟩ := Option.map_eq_some_iff.mp e5
  obtain ⟨l, e8, e9⟩ := Option.bind_eq_some_iff.mp e3
  obtain ⟨l', e10, e11⟩ := Option.map_eq_some_iff.mp e9
  refine ⟨ro, Hs, ρ, fp, S, bx, ox, ρ1, e1, fun x Hs1 H1 fp1 f1 m1 r1 w1 => ⟨ro || bx, Hs1, ρ1, fp1, m1.st, bY, oy, _, e1', fun y Hs2 H2 fp2 f2 m2 r2 w2 => ?_⟩⟩
  obtain ⟨r1', _⟩ := m2.carry r1 w1
  have w1' := VwB.carry m2 r1 w1
  have m := m1.then m2 orT
  obtain ⟨k, q, vs, rfl, t, hq, hf⟩ := asQ_walk m.st.sub r1' e4
  obtain ⟨k2, q2, us, rfl, t2, hq2, hf2⟩ := asQ_walk m.st.sub r2 e6
  refine ⟨k, k2, q, q2, vs, us, rfl, hq _ _ (Sta.refl m.st.sub), hq2 _ _ (Sta.refl m.st.sub), K _ _ _ _ (fun c => f1 c ∨ f2 c) m ?_ (fun c hc => ⟨hc.elim (hf c) (hf2 c), ?_⟩) fun c i hc hi => ?_⟩
  · rw [← e7]
    exact wk_zip t t2 (fun _ _ st => hq _ _ (st.weak fun _ h => .inl h)) (fun _ _ st => hq2 _ _ (st.weak fun _ h => .inr h))
  · rcases hc with hc | hc
    · exact lent_new m e8 w1' hc
    · rcases lent_new m2 e10 w2 hc with ⟨j, z⟩ | z
      · exact m1.go.orig j c z
      · exact m1.go.was z
  · rw [← e11]
    rcases hc with hc | hc
    · exact List.mem_append_left _ (lent_ok m.st e8 w1' hc hi)
    · exact List.mem_append_right _ (lent_ok m.st e10 w2 hc hi)
theorem si_rng1 (hg : Gl X "range") (hm : X.mg "range" = none) (ha : PE X a (tBv (ct X fa) cf ea)) (hs : ∀ es, starEach (a :: es) X.env = (false, eval a X.env) :: starEach es X.env) : PI X tg (.Call (.Name "range" p) [a] [] pos) (tI (ct X fa) cf (.rng1 ea)) := by
  refine pi_imp (pi_range1 hg hm (pa_cons ha pa_nil (hs _)) (hs _)) ?_
  rintro σ H RJ ⟨ro, Hs, ρ, fp, S, s, ρ', e, K⟩
  rw [evI] at e
  obtain ⟨⟨bx, ox⟩, ρ1, e1, e⟩ := R.bind_ok e
  obtain ⟨e2, e3, rfl⟩ := srcOf_ok e
  obtain ⟨n, e4, e5⟩ := Option.bind_eq_some_iff.mp e2
  split at e5
  · rename_i hk
    have hk' := of_decide_eq_true hk
    refine ⟨ro, Hs, ρ, fp, S, bx, ox, _, e1, fun x Hs1 H1 fp1 f1 m1 r1 w1 => ⟨n, by rw [asI_view r1 e4], hk'.2.2.1, hk'.2.2.2, K _ _ _ _ (fun _ => False) m1 ?_ (fun _ z => z.elim) fun _ _ z => z.elim⟩⟩
    have e6 : range 0 n = s.items := Option.some.inj e5
    rw [← e6]
    have := wk_range (G := ct X fa) (Hs := Hs1) (H := H1) (f := fun _ => False) (lo := 0) (n := n)
    rw [Int.sub_zero] at this
    exact this
  · cases e5
theorem si_rng2 (hg : Gl X "range") (hm : X.mg "range" = none) (ha : PE X a (tBv (ct X fa) cf ea)) (hb : PE X b (tBv (ct X fa) cf eb)) (hs : ∀ es, starEach (a :: es) X.env = (false, eval a X.env) :: starEach es X.env) (hs2 : ∀ es, starEach (b :: es) X.env = (false, eval b X.env) :: starEach es X.env) :
    PI X tg (.Call (.Name "range" p) [a, b] [] pos) (tI (ct X fa) cf (.rng2 ea eb)) := by
  refine pi_imp (pi_range2 hg hm (pa_cons ha (pa_cons hb pa_nil (hs2 _)) (hs _)) (by rw [hs, hs2]; rfl) (by rw [hs2]; rfl)) ?_
  rintro σ H RJ ⟨ro, Hs, ρ, fp, S, s, ρ', e, K⟩
  rw [evI] at e
  obtain ⟨⟨bx, ox⟩, ρ1, e1, e⟩ := R.bind_ok e
  obtain ⟨⟨bY, oy⟩, ρ2, e1', e⟩ := R.bind_ok e
  obtain ⟨e2, e3, rfl⟩ := srcOf_ok e
  obtain ⟨lo, e4, e5⟩ := Option.bind_eq_some_iff.mp e2
  obtain ⟨n, e6, e7⟩ := Option.bind_eq_some_iff.mp e5
  split at e7
  · rename_i hk
    have hk' := of_decide_eq_true hk
    refine ⟨ro, Hs, ρ, fp, S, bx, ox, ρ1, e1, fun x Hs1 H1 fp1 f1 m1 r1 w1 => ⟨ro, Hs1, ρ1, fp1, m1.st, bY, oy, _, e1', fun y Hs2 H2 fp2 f2 m2 r2 w2 => ⟨lo, n, by rw [asI_view r1 e4, asI_view r2 e6], hk', K _ _ _ _ (fun _ => False) (m1.then m2 id) ?_ (fun _ z => z.elim) fun _ _ z => z.elim⟩⟩⟩
    have e8 : range lo n = s.items := Option.some.inj e7
    rw [← e8]
    exact wk_range
  · cases e7
end

/-! ### targets -/
def offs (fp : Nat → Fp) (l : List Nat) : Nat → Fp := fun i b => i ∉ l ∧ fp i b
/-- other slots as they were -/
structure But (l : List Nat) (σ σ' : L2.St) : Prop where
  len : σ'.length = σ.length
  same : ∀ j, j ∉ l → σ'[j]? = σ[j]?
theorem But.refl {l : List Nat} {σ : L2.St} : But l σ σ := ⟨rfl, fun _ _ => rfl⟩
theorem But.trans {l : List Nat} {σ σ1 σ2 : L2.St} (a : But l σ σ1) (b : But l σ1 σ2) : But l σ σ2 := ⟨b.len.trans a.len, fun j h => (b.same j h).trans (a.same j h)⟩
theorem But.mono {l l' : List Nat} {σ σ1 : L2.St} (a : But l σ σ1) (h : ∀ i, i ∈ l → i ∈ l') : But l' σ σ1 := ⟨a.len, fun j hj => a.same j fun z => hj (h j z)⟩
def tTg (G : Ct) (g : Tg) : TG := fun v σ H Q => ∃ Hs ρ fp x ρ', Stt G Hs H σ ρ fp ∧ RD G Hs v x ∧ put g x ρ = some ρ' ∧
  ∀ σ', But (slots g) σ σ' → Stt G Hs H σ' ρ' (offs fp (slots g)) → Q σ' H
def tTgs (G : Ct) (g : Tg) : TGs := fun vs σ H Q => ∃ Hs ρ fp xs ρ', Stt G Hs H σ ρ fp ∧ RDs G Hs vs xs ∧ puts g xs ρ = some ρ' ∧
  ∀ σ', But (slots g) σ σ' → Stt G Hs H σ' ρ' (offs fp (slots g)) → Q σ' H
theorem pg_imp {X : Cx} {e : Expr} {t t' : TG} (h : PG X e t) (k : ∀ v σ H Q, t' v σ H Q → t v σ H Q) : PG X e t' := ⟨fun pins s σ H v u Q I r q => h.run pins s σ H v u Q I r (k v σ H Q q)⟩
theorem pgs_imp {X : Cx} {e : List Expr} {t t' : TGs} (h : PGs X e t) (k : ∀ v σ H Q, t' v σ H Q → t v σ H Q) : PGs X e t' := ⟨fun pins s σ H v u Q I r q => h.run pins s σ H v u Q I r (k v σ H Q q)⟩
theorem stt_set {G : Ct} {Hs H : Hp} {σ : L2.St} {ρ : Env} {fp : Nat → Fp} {i : Nat} {v : V} {x : D} (S : Stt G Hs H σ ρ fp) (r : RD G Hs v x) : Stt G Hs H (σ.set i (some v)) (Dv.st ρ i (some (.d x))) (offs fp [i]) where
  sub := S.sub
  len := by rw [st_length, List.length_set]; exact S.len
  slot := fun j o e => by
    have hl := rd_lt e
    rw [st_length] at hl
    have hi : j < σ.length := Nat.lt_of_lt_of_le hl S.len
    rcases rd_st_some e with ⟨rfl, e2⟩ | ⟨hj, e⟩
    · cases e2
      exact ⟨v, by rw [List.getElem?_set_self hi], (RO.d r).fp fun b => ⟨fun h => h.elim, fun h => h.1 (List.mem_singleton.mpr rfl)⟩⟩
    · obtain ⟨w, h1, r⟩ := S.slot j o e
      exact ⟨w, by rw [List.getElem?_set_ne (Ne.symm hj)]; exact h1, r.fp fun b => ⟨fun h => ⟨fun z => hj (List.mem_singleton.mp z), h⟩, fun h => h.2⟩⟩
  emp := fun j b ⟨hj, hb⟩ => by
    obtain ⟨o, e⟩ := S.emp j b hb
    exact ⟨o, by rw [rd_st_ne fun z => hj (List.mem_singleton.mpr z)]; exact e⟩
  dis := fun j k b hjk h1 h2 => S.dis j k b hjk h1.2 h2.2
theorem stt_fp {G : Ct} {Hs H : Hp} {σ : L2.St} {ρ : Env} {fp fp' : Nat → Fp} (S : Stt G Hs H σ ρ fp) (h : ∀ i b, fp i b ↔ fp' i b) : Stt G Hs H σ ρ fp' := by
  have : fp = fp' := funext fun i => funext fun b => propext (h i b)
  rw [← this]
  exact S
section
variable {X : Cx} {fa : Nat → Addr} {a : Expr} {pos : Pos} {G : Ct}
theorem sg_n {i : Nat} {x : Str} (hN : X.N.Nodup) (hi : X.N[i]? = some x) (hx : Loc X.env.scope x) (hf : X.fn x = true ∨ X.env.scope.names.lookup x = some .local) : PG X (.Name x pos) (tTg G (.n i)) := by
  refine pg_imp (pg_name hN hi hx hf) ?_
  rintro v σ H Q ⟨Hs, ρ, fp, y, ρ', S, r, e, K⟩
  rw [put] at e
  cases e
  exact K _ ⟨List.length_set, fun j hj => List.getElem?_set_ne fun z => hj (List.mem_singleton.mpr z.symm)⟩ (stt_set S r)
theorem sgs_nil : PGs X [] (tTgs G .t0) := by
  refine pgs_imp pgs_nil ?_
  rintro v σ H Q ⟨Hs, ρ, fp, y, ρ', S, r, e, K⟩
  cases r with
  | nil =>
    rw [puts] at e
    cases e
    exact ⟨rfl, K σ But.refl (stt_fp S fun i b => ⟨fun h => ⟨by simp [slots], h⟩, fun h => h.2⟩)⟩
  | cons _ _ =>
    rw [puts] at e
    cases e
    all_goals simp
theorem sgs_cons {es : List Expr} {g r : Tg} (h1 : PG X a (tTg G g)) (h2 : PGs X es (tTgs G r)) (hs : (assignEach (a :: es) X.env).map (·.2) = assign a X.env :: (assignEach es X.env).map (·.2)) : PGs X (a :: es) (tTgs G (.tc g r)) := by
  refine pgs_imp (pgs_cons h1 h2 hs) ?_
  rintro v σ H Q ⟨Hs, ρ, fp, y, ρ', S, rr, e, K⟩
  cases rr with
  | nil =>
    rw [puts] at e
    cases e
    all_goals simp
  | cons r1 r2 =>
    rw [puts] at e
    split at e
    · rename_i ρ1 e1
      refine ⟨_, _, rfl, Hs, ρ, fp, _, ρ1, S, r1, e1, fun σ1 b1 S1 => ⟨Hs, ρ1, _, _, ρ', S1, r2, e, fun σ2 b2 S2 => ?_⟩⟩
      refine K σ2 ((b1.mono fun i hi => List.mem_append_left _ hi).trans (b2.mono fun i hi => List.mem_append_right _ hi)) (stt_fp S2 fun i b => ?_)
      show (i ∉ slots r ∧ i ∉ slots g ∧ fp i b) ↔ (i ∉ slots g ++ slots r ∧ fp i b)
      rw [List.mem_append, not_or]
      exact ⟨fun ⟨a, b, c⟩ => ⟨⟨b, a⟩, c⟩, fun ⟨⟨b, a⟩, c⟩ => ⟨a, b, c⟩⟩
    · cases e
def tcLen : Tg → Nat
  | .tc _ r => tcLen r + 1
  | _ => 0
theorem puts_len : ∀ {g : Tg} {xs : List D} {ρ ρ' : Env}, puts g xs ρ = some ρ' → xs.length = tcLen g
  | .n _, xs, ρ, ρ', h => by cases xs <;> simp [puts] at h
  | .t0, [], ρ, ρ', h => rfl
  | .t0, _ :: _, ρ, ρ', h => by simp [puts] at h
  | .tc _ _, [], ρ, ρ', h => by simp [puts] at h
  | .tc g r, x :: xs, ρ, ρ', h => by
    rw [puts] at h
    split at h
    · exact congrArg Nat.succ (puts_len (g := r) h)
    · cases h
theorem sg_tup {es : List Expr} {k : Nat} {g r : Tg} (hc : X.calm = true) (h : PGs X es (tTgs (ct X fa) (.tc g r))) (hn : (assignEach es X.env).length = tcLen (.tc g r)) (hst : (assignEach es X.env).findIdx? (·.1) = none) : PG X (.Tuple es k pos) (tTg (ct X fa) (.tc g r)) := by
  refine pg_imp (pg_tup hc h hn hst) ?_
  rintro v σ H Q ⟨Hs, ρ, fp, y, ρ', S, rr, e, K⟩
  cases rr with
  | tup q t =>
    simp only [put] at e
    exact ⟨_, _, rfl, seqT S.sub q, t.length.trans (puts_len e), Hs, ρ, fp, _, ρ', S, t, e, K⟩
  | _ => simp only [put] at e; cases e
end
end Dv
set_option Elab.async false
set_option linter.all false
set_option maxRecDepth 100000
set_option maxHeartbeats 1000000
/-! Part G: comprehensions. -/
namespace Dv
open PySem PySem.Spec PyProof.Rows L2

theorem rd_none {ρ : Env} {i : Nat} : rd (Dv.st ρ i none) i = none := by
  cases h : rd (Dv.st ρ i none) i with
  | none => rfl
  | some o =>
    rcases rd_st_some h with ⟨_, e⟩ | ⟨e, _⟩
    · cases e
    · exact absurd rfl e
theorem rd_wipe_in {ρ : Env} : ∀ {l : List Nat} {i : Nat}, i ∈ l → rd (Dv.wipe ρ l) i = none
  | j :: l, i, h => by
    show rd (Dv.st (Dv.wipe ρ l) j none) i = none
    by_cases e : i = j
    · subst e; exact rd_none
    · rw [rd_st_ne e]
      exact rd_wipe_in ((List.mem_cons.mp h).resolve_left e)
theorem rd_wipe_out {ρ : Env} : ∀ {l : List Nat} {i : Nat}, i ∉ l → rd (Dv.wipe ρ l) i = rd ρ i
  | [], _, _ => rfl
  | j :: l, i, h => by
    show rd (Dv.st (Dv.wipe ρ l) j none) i = rd ρ i
    rw [List.mem_cons, not_or] at h
    rw [rd_st_ne h.1, rd_wipe_out h.2]
theorem wipe_len {ρ : Env} : ∀ {l : List Nat}, (Dv.wipe ρ l).length = ρ.length
  | [] => rfl
  | j :: l => by
    show (Dv.st (Dv.wipe ρ l) j none).length = _
    rw [st_length, wipe_len]
theorem rd_mrg {ρ' : Env} {l : List Nat} : ∀ {ρ : Env} {j i : Nat}, rd (mrg ρ' l j ρ) i = if i < ρ.length then (if l.contains (j + i) = true then rd ρ i else rd ρ' (j + i)) else none
  | [], j, i => by simp [mrg, rd]
  | o :: r, j, 0 => by
    rw [if_pos (show 0 < (o :: r).length from Nat.succ_pos _)]
    rfl
  | o :: r, j, i + 1 => by
    show rd (mrg ρ' l (j + 1) r) i = _
    rw [rd_mrg (ρ := r)]
    have e : j + 1 + i = j + (i + 1) := by omega
    rw [e]
    by_cases h : i < r.length
    · rw [if_pos h, if_pos (show i + 1 < (o :: r).length from Nat.succ_lt_succ h)]
      rfl
    · rw [if_neg h, if_neg (show ¬ i + 1 < (o :: r).length from fun z => h (Nat.lt_of_succ_lt_succ z))]
theorem back_len {ρ ρ' : Env} {l : List Nat} : (back ρ ρ' l).length = ρ.length := by
  have : ∀ (ρ : Env) (j : Nat), (mrg ρ' l j ρ).length = ρ.length := by
    intro ρ
    induction ρ with
    | nil => intro j; rfl
    | cons o r ih => intro j; exact congrArg Nat.succ (ih (j + 1))
  exact this ρ 0
theorem rd_back {ρ ρ' : Env} {l : List Nat} {i : Nat} (h : i < ρ.length) : rd (back ρ ρ' l) i = if i ∈ l then rd ρ i else rd ρ' i := by
  unfold back
  rw [rd_mrg, if_pos h, Nat.zero_add]
  by_cases e : i ∈ l
  · rw [if_pos e, if_pos (List.contains_iff_mem.mpr e)]
  · rw [if_neg e, if_neg (fun z => e (List.contains_iff_mem.mp z))]
theorem get_wipe_out {σ : L2.St} : ∀ {l : List Nat} {j : Nat}, j ∉ l → (L2.wipe σ l)[j]? = σ[j]?
  | [], _, _ => rfl
  | v :: l, j, h => by
    rw [List.mem_cons, not_or] at h
    show ((L2.wipe σ l).set v none)[j]? = _
    rw [List.getElem?_set_ne (Ne.symm h.1)]
    exact get_wipe_out h.2
theorem get_wipe_in {σ : L2.St} : ∀ {l : List Nat} {j : Nat}, j ∈ l → (L2.wipe σ l)[j]? = if j < σ.length then some none else none
  | v :: l, j, h => by
    show ((L2.wipe σ l).set v none)[j]? = _
    by_cases e : j = v
    · subst e
      by_cases hl : j < σ.length
      · rw [List.getElem?_set_self (by rw [wipe_length]; exact hl), if_pos hl]
      · rw [List.getElem?_eq_none (by rw [List.length_set, wipe_length]; omega), if_neg hl]
    · rw [List.getElem?_set_ne (Ne.symm e)]
      exact get_wipe_in ((List.mem_cons.mp h).resolve_left e)
theorem but_wipe {σ : L2.St} {l : List Nat} : But l σ (L2.wipe σ l) := ⟨wipe_length σ l, fun j h => get_wipe_out h⟩
theorem wipe_but {σ σ' : L2.St} {l : List Nat} (b : But l σ σ') : L2.wipe σ' l = L2.wipe σ l := by
  apply List.ext_getElem?
  intro j
  by_cases h : j ∈ l
  · rw [get_wipe_in h, get_wipe_in h, b.len]
  · rw [get_wipe_out h, get_wipe_out h, b.same j h]

section
variable {G : Ct} {Hs H Hs1 H1 Hs' H' : Hp} {σ σ' σ2 : L2.St} {ρ ρ1 ρ' ρE : Env} {fp fp1 fp' : Nat → Fp} {l : List Nat} {ro : Bool}
theorem stt_wipe (S : Stt G Hs H σ ρ fp) (b : But l σ σ') : Stt G Hs H σ' (Dv.wipe ρ l) (offs fp l) where
  sub := S.sub
  len := by rw [wipe_len, b.len]; exact S.len
  slot := fun j o e => by
    by_cases h : j ∈ l
    · rw [rd_wipe_in h] at e; cases e
    · rw [rd_wipe_out h] at e
      obtain ⟨v, h1, r⟩ := S.slot j o e
      exact ⟨v, (b.same j h).trans h1, r.fp fun c => ⟨fun z => ⟨h, z⟩, fun z => z.2⟩⟩
  emp := fun j c ⟨h, hc⟩ => by
    obtain ⟨o, e⟩ := S.emp j c hc
    exact ⟨o, by rw [rd_wipe_out h]; exact e⟩
  dis := fun i j c hij h1 h2 => S.dis i j c hij h1.2 h2.2
def backO (l : List Nat) (n : Nat) (fp1 fp' : Nat → Fp) : Nat → Fp := fun i b => (i ∈ l ∧ fp1 i b) ∨ (i ∉ l ∧ i < n ∧ fp' i b)
theorem unwipe (S1 : Stt G Hs1 H1 σ ρ1 fp1) (g : Go ro Hs1 H1 (offs fp1 l) Hs' H' fp') (S' : Stt G Hs' H' σ' ρ' fp') (hE : ∀ i, i ∉ l → rd ρE i = rd ρ' i) (hl : σ2.length = σ.length) (h1 : ∀ i, i ∈ l → σ2[i]? = σ[i]?) (h2 : ∀ i, i ∉ l → σ2[i]? = σ'[i]?) :
    Mo G σ2 ro Hs1 H1 fp1 (back ρ1 ρE l) Hs' H' (backO l ρ1.length fp1 fp') := by
  have kept : ∀ {i : Nat} {b : Addr}, i ∈ l → fp1 i b → ∀ j, ¬ offs fp1 l j b := fun {i b} hi hb j ⟨hj, hb'⟩ => by
    by_cases e : i = j
    · subst e; exact hj hi
    · exact S1.dis i j b e hb hb'
  refine ⟨⟨S'.sub, by rw [back_len, hl]; exact S1.len, fun i o e => ?_, fun i b hb => ?_, fun i j b hij h3 h4 => ?_⟩, ⟨g.ex, fun b o e n => g.frame b o e fun i h => n i h.2, fun i b hb => ?_, fun b o e => ?_, fun e => ?_⟩⟩
  · have hi : i < ρ1.length := by have := rd_lt e; rw [back_len] at this; exact this
    rw [rd_back hi] at e
    by_cases h : i ∈ l
    · rw [if_pos h] at e
      obtain ⟨v, q, r⟩ := S1.slot i o e
      refine ⟨v, (h1 i h).trans q, (r.mono g.ex fun b hb => ?_).fp fun b => ⟨fun z => .inl ⟨h, z⟩, fun z => z.elim (·.2) fun z => absurd h z.1⟩⟩
      obtain ⟨⟨us, e1⟩, n1⟩ := r.at_ b hb
      refine ⟨(g.frame b _ e1 (kept h hb)).trans e1.symm, ?_⟩
      cases q : Hs' b with
      | none => rfl
      | some u =>
        rcases g.grow b u q with z | ⟨j, z⟩ | z
        · rw [n1] at z; cases z
        · exact (kept h hb j z).elim
        · rw [e1] at z; cases z
    · rw [if_neg h, hE i h] at e
      obtain ⟨v, q, r⟩ := S'.slot i o e
      exact ⟨v, (h2 i h).trans q, r.fp fun b => ⟨fun z => .inr ⟨h, hi, z⟩, fun z => z.elim (fun z => absurd z.1 h) fun z => z.2.2⟩⟩
  · rcases hb with ⟨h, hb⟩ | ⟨h, hi, hb⟩
    · obtain ⟨o, e⟩ := S1.emp i b hb
      exact ⟨o, by rw [rd_back (rd_lt e), if_pos h]; exact e⟩
    · obtain ⟨o, e⟩ := S'.emp i b hb
      exact ⟨o, by rw [rd_back hi, if_neg h, hE i h]; exact e⟩
  · have mix : ∀ {i j : Nat}, i ∈ l → fp1 i b → fp' j b → False := fun {i j} hi hb hb' => by
      rcases g.orig j b hb' with ⟨k, z⟩ | z
      · exact kept hi hb k z
      · obtain ⟨⟨us, e⟩, _⟩ := S1.own hb
        rw [e] at z; cases z
    rcases h3 with ⟨a1, a2⟩ | ⟨a1, _, a2⟩ <;> rcases h4 with ⟨b1, b2⟩ | ⟨b1, _, b2⟩
    · exact S1.dis i j b hij a2 b2
    · exact mix a1 a2 b2
    · exact mix b1 b2 a2
    · exact S'.dis i j b hij a2 b2
  · rcases hb with ⟨_, hb⟩ | ⟨_, _, hb⟩
    · exact .inl ⟨i, hb⟩
    · exact (g.orig i b hb).imp (fun ⟨j, z⟩ => ⟨j, z.2⟩) id
  · rcases g.grow b o e with z | ⟨j, z⟩ | z
    · exact .inl z
    · exact .inr (.inl ⟨j, z.2⟩)
    · exact .inr (.inr z)
  · obtain ⟨q1, q2⟩ := g.quiet e
    refine ⟨q1, ?_⟩
    subst q2
    funext i b
    refine propext ⟨fun z => z.elim (·.2) fun z => z.2.2.2, fun z => ?_⟩
    by_cases h : i ∈ l
    · exact .inl ⟨h, z⟩
    · obtain ⟨o, e⟩ := S1.emp i b z
      exact .inr ⟨h, rd_lt e, h, z⟩
theorem Go.off (a : Go ro Hs H fp Hs' H' fp') (h : ro = true → offs fp' l = fp') : Go ro Hs H fp Hs' H' (offs fp' l) :=
  ⟨a.ex, a.frame, fun i b hb => a.orig i b hb.2, a.grow, fun e => by rw [h e]; exact a.quiet e⟩
theorem calm_ok {α : Type} {r : R α} {a : α} (h : r.calm = .ok a ρ) : r = .ok a ρ := by
  cases r with
  | ok x y => exact h
  | ex => cases h
  | bad => cases h
end

section
variable {X : Cx} {fa : Nat → Addr} {cf : Nat → List O → CR}
theorem lc_law {own : List Nat} {g : Tg} {src cond elt : E} {σ : L2.St} {H : Hp} {Q : VK} (hsl : ∀ i ∈ slots g, i ∈ own) (h : tBv (ct X fa) cf (.lc own g src cond elt) σ H Q) :
    tLc (tI (ct X fa) cf src) (tTg (ct X fa) g) (tTs (ct X fa) cf cond) (tV (ct X fa) cf elt) own σ H Q := by
  obtain ⟨ro, Hs, ρ, fp, S, b, o, ρ', e, K⟩ := h
  rw [evB] at e
  obtain ⟨s, ρ1, e1, e⟩ := R.bind_ok e
  obtain ⟨accE, ρE, e2, e3⟩ := R.bind_ok e
  cases e3
  refine ⟨ro, Hs, ρ, fp, S, s, ρ1, e1, fun J Hs1 H1 fp1 f m1 wk hf hl La hD => ?_⟩
  generalize hstep : (fun (x : D) (acc : List O) (ρ : Env) => match put g x (Dv.wipe ρ own) with
        | some ρ2 => ((evT cf cond ro ρ2).bind fun t ρ3 => if t = true then (asV elt ro (evB cf elt ro ρ3)).bind fun o ρ4 => if fits (acc.length + 1) = true then R.ok (acc ++ [o]) ρ4 else .bad else .ok acc ρ3).calm
        | none => R.bad) = step at e2
  have LI : ∃ LI : Nat → Hp → Prop, LI = fun i H' => ∃ Hs' ρ' fp' acc vs fa', Stt (ct X fa) Hs' H' (L2.wipe σ own) (Dv.wipe ρ' own) fp' ∧ Go ro Hs1 H1 (offs fp1 (own ++ s.lent)) Hs' H' fp' ∧ H' La = some (.lst vs) ∧ Hs' La = none ∧ (∀ i, ¬ fp' i La) ∧
      ROs (ct X fa) Hs' H' vs acc fa' ∧ ¬ fa' La ∧ (∀ b, fa' b → (∀ i, ¬ fp' i b) ∧ ((∃ j, offs fp1 (own ++ s.lent) j b) ∨ H1 b = none)) ∧ lcGo step (s.items.drop i) acc ρ' = .ok accE ρE := ⟨_, rfl⟩
  obtain ⟨LI, hLI⟩ := LI
  refine ⟨fun i m H' => m = s.items.length - i ∧ i ≤ s.items.length ∧ LI i H', ⟨s.items.length, by simp, Nat.zero_le _, ?_⟩, ?_⟩
  · -- the start
    rw [hLI]
    have x : Xt Hs1 H1 Hs1 (L2.upd H1 La (.lst [])) := Xt.own m1.st.sub hD
    have bw : But own σ (L2.wipe σ own) := but_wipe
    have S0 := stt_wipe (stt_wipe (m1.st.xt x) (But.refl (l := s.lent))) bw
    have nD : ∀ i, ¬ fp1 i La := fun i z => by
      obtain ⟨⟨_, e⟩, _⟩ := m1.st.own z
      rw [hD] at e; cases e
    refine ⟨Hs1, Dv.wipe ρ1 s.lent, offs fp1 (own ++ s.lent), [], [], fun _ => False, stt_fp S0 fun i b => ?_, x.go, upd_same, none_sub m1.st.sub hD, fun i z => nD i z.2, .nil, id, fun _ z => z.elim, e2⟩
    show (i ∉ own ∧ i ∉ s.lent ∧ fp1 i b) ↔ (i ∉ own ++ s.lent ∧ fp1 i b)
    rw [List.mem_append, not_or]
    exact ⟨fun ⟨a, b, c⟩ => ⟨⟨a, b⟩, c⟩, fun ⟨⟨a, b⟩, c⟩ => ⟨a, b, c⟩⟩
  · rintro i m H' ⟨rfl, hi, p⟩
    rw [hLI] at p
    obtain ⟨Hs', ρ', fp', acc, vs, fa', S', g', hD', nD', fD', ra, naD, oa, rest⟩ := p
    have sta : Sta Hs1 H1 f Hs' H' := ⟨g'.ex, S'.sub, fun b hb => by
      cases q : H1 b with
      | none => exact absurd q (hf b hb).1
      | some u => exact g'.frame b u q fun j hj => hj.1 (List.mem_append_right _ (hl b j hb hj.2))⟩
    have notown : ∀ {i b}, fp' i b → i ∉ own := fun {i b} hb hi => by
      obtain ⟨o, e⟩ := S'.emp i b hb
      rw [rd_wipe_in hi] at e
      cases e
    by_cases hlt : i < s.items.length
    · refine .inr ⟨wk.goes i Hs' H' hlt sta, LI (i + 1), fun H2 p2 => ⟨s.items.length - (i + 1), by omega, rfl, hlt, p2⟩, fun v H2 y => ?_⟩
      obtain ⟨Hs2, x, ex, xt, rx⟩ := wk.yields i Hs' H' v H2 hlt sta y
      have hdrop : s.items.drop i = x :: s.items.drop (i + 1) := by
        rw [List.drop_eq_getElem_cons hlt]
        rw [List.getElem?_eq_getElem hlt] at ex
        rw [Option.some.inj ex]
      rw [hdrop] at rest
      obtain ⟨acc', ρ'', e4, e5⟩ := R.bind_ok (show (step x acc ρ').bind (fun acc' ρ' => lcGo step (s.items.drop (i + 1)) acc' ρ') = .ok accE ρE from rest)
      rw [← hstep] at e4
      simp only at e4
      cases hp : put g x (Dv.wipe ρ' own) with
      | none => rw [hp] at e4; cases e4
      | some ρ2 =>
        rw [hp] at e4
        obtain ⟨t, ρ3, e6, e7⟩ := R.bind_ok (calm_ok e4)
        refine ⟨Hs2, _, fp', x, ρ2, S'.xt xt, rx, hp, fun σ2 b2 S2 => ⟨?_, ?_⟩⟩
        · have b3 : But own (L2.wipe σ own) σ2 := b2.mono hsl
          exact wipe_but (but_wipe.trans b3)
        · have S2' : Stt (ct X fa) Hs2 H2 σ2 ρ2 fp' := stt_fp S2 fun i b => ⟨fun z => z.2, fun z => ⟨fun q => notown z (hsl i q), z⟩⟩
          have g2 : Go ro Hs1 H1 (offs fp1 (own ++ s.lent)) Hs2 H2 fp' := g'.trans S' (xt.go (ro := true)) fun _ => rfl
          have hD2 : H2 La = some (.lst vs) := xt.all La _ hD'
          have nD2 : Hs2 La = none := (xt.keep hD' nD').2
          have ra2 := ra.xt xt
          -- at a later moment
          have later : ∀ {Hs3 H3 : Hp} {fp3 : Nat → Fp} {ρ3 : Env}, Mo (ct X fa) σ2 ro Hs2 H2 fp' ρ3 Hs3 H3 fp3 → Stt (ct X fa) Hs3 H3 (L2.wipe σ own) (Dv.wipe ρ3 own) (offs fp3 own) ∧ Go ro Hs1 H1 (offs fp1 (own ++ s.lent)) Hs3 H3 (offs fp3 own) ∧ H3 La = some (.lst vs) ∧ Hs3 La = none ∧ (∀ i, ¬ fp3 i La) ∧
              ROs (ct X fa) Hs3 H3 vs acc fa' ∧ (∀ b, fa' b → (∀ i, ¬ fp3 i b) ∧ ((∃ j, offs fp1 (own ++ s.lent) j b) ∨ H1 b = none)) := fun {Hs3 H3 fp3 ρ3} m3 => by
            have b3 : But own (L2.wipe σ own) σ2 := b2.mono hsl
            have b3' : But own σ2 (L2.wipe σ own) := ⟨b3.len.symm, fun j h => (b3.same j h).symm⟩
            refine ⟨stt_wipe m3.st b3', (g2.trans S2' m3.go id).off fun hr => ?_, m3.go.frame La _ hD2 fD', ?_, fun i z => ?_, ra2.held (fun b hb => (oa b hb).1) m3.go, fun b hb => ⟨fun i z => ?_, (oa b hb).2⟩⟩
            · obtain ⟨_, q⟩ := m3.go.quiet hr
              rw [q]
              funext i b
              exact propext ⟨fun z => z.2, fun z => ⟨notown z, z⟩⟩
            · cases q : Hs3 La with
              | none => rfl
              | some u =>
                rcases m3.go.grow La u q with z | ⟨j, z⟩ | z
                · rw [nD2] at z; cases z
                · exact (fD' j z).elim
                · rw [hD2] at z; cases z
            · rcases m3.go.orig i La z with ⟨j, z⟩ | z
              · exact fD' j z
              · rw [hD2] at z; cases z
            · rcases m3.go.orig i b z with ⟨j, z⟩ | z
              · exact (oa b hb).1 j z
              · obtain ⟨⟨_, e⟩, _⟩ := ra2.at_ b hb
                rw [e] at z; cases z
          refine ⟨ro, Hs2, ρ2, fp', S2', t, ρ3, e6, fun Hs3 H3 fp3 m3 => ?_⟩
          cases t with
          | false =>
            rw [if_neg Bool.false_ne_true] at e7 ⊢
            cases e7
            obtain ⟨a1, a2, a3, a4, a5, a6, a7⟩ := later m3
            rw [hLI]
            exact ⟨Hs3, _, _, acc, vs, fa', a1, a2, a3, a4, fun i z => a5 i z.2, a6, naD, fun b hb => ⟨fun i z => (a7 b hb).1 i z.2, (a7 b hb).2⟩, e5⟩
          | true =>
            rw [if_pos rfl] at e7 ⊢
            obtain ⟨oy, ρ4, e8, e9⟩ := R.bind_ok e7
            split at e9
            · rename_i hz
              cases e9
              refine ⟨ro, Hs3, ρ3, fp3, m3.st, oy, _, e8, fun y Hs4 H4 fp4 fy m4 ry ow => ?_⟩
              have m34 := m3.then m4 id
              obtain ⟨a1, a2, a3, a4, a5, a6, a7⟩ := later m34
              obtain ⟨_, _, c3, c4, c5, c6, c7⟩ := later m3
              refine ⟨vs, a3, by have := fits_le hz; rw [ra.length]; omega, ?_⟩
              rw [hLI]
              have nyD : ¬ fy La := fun z => by
                rcases (ow La z).2 with ⟨j, z⟩ | z
                · exact c5 j z
                · rw [c3] at z; cases z
              -- the item is appended
              have same4 : ∀ b u, b ≠ La → H4 b = some u → L2.upd H4 La (.lst (vs ++ [y])) b = some u := fun b u h e => by rw [upd_ne h]; exact e
              have keepR : ∀ {b : Addr}, b ≠ La → L2.upd H4 La (.lst (vs ++ [y])) b = H4 b := fun h => upd_ne h
              refine ⟨Hs4, _, offs fp4 own, acc ++ [oy], vs ++ [y], fun b => fa' b ∨ fy b, ⟨fun b u e => same4 b u (fun z => by rw [z, a4] at e; cases e) (a1.sub b u e), a1.len, fun j u e => ?_, a1.emp, a1.dis⟩, ⟨a2.ex, fun b u e n => ?_, a2.orig, a2.grow, fun hr => ⟨fun b u e => ?_, (a2.quiet hr).2⟩⟩, upd_same, a4, fun i z => a5 i z.2, ?_, fun z => z.elim naD nyD, fun b hb => ?_, e5⟩
              · obtain ⟨w, h1, r⟩ := a1.slot j u e
                exact ⟨w, h1, r.mono (Same.refl _) fun b hb => ⟨keepR fun z => a5 j (by rw [z] at hb; exact hb.2), (r.at_ b hb).2⟩⟩
              · have hbD : b ≠ La := fun z => by rw [z, hD] at e; cases e
                exact same4 b u hbD (a2.frame b u e n)
              · have hbD : b ≠ La := fun z => by rw [z, hD] at e; cases e
                exact same4 b u hbD ((a2.quiet hr).1 b u e)
              · have r1 : ROs (ct X fa) Hs4 (L2.upd H4 La (.lst (vs ++ [y]))) vs acc fa' := a6.mono (Same.refl _) fun b hb => ⟨keepR fun z => naD (by rw [← z]; exact hb), (a6.at_ b hb).2⟩
                have r2 : RO (ct X fa) Hs4 (L2.upd H4 La (.lst (vs ++ [y]))) y oy fy := ry.mono (Same.refl _) fun b hb => ⟨keepR fun z => nyD (by rw [← z]; exact hb), (ry.at_ b hb).2⟩
                have dis : ∀ b, fa' b → ¬ fy b := fun b hb hb' => by
                  rcases (ow b hb').2 with ⟨j, z⟩ | z
                  · exact (c7 b hb).1 j z
                  · obtain ⟨⟨_, e⟩, _⟩ := c6.at_ b hb
                    rw [e] at z; cases z
                exact ROs.snoc r1 r2 dis
              · rcases hb with hb | hb
                · exact ⟨fun i z => (a7 b hb).1 i z.2, (a7 b hb).2⟩
                · refine ⟨fun i z => (ow b hb).1 i z.2, ?_⟩
                  have g3 : Go ro Hs1 H1 (offs fp1 (own ++ s.lent)) Hs3 H3 fp3 := g2.trans S2' m3.go id
                  exact (own_from g3 ow b hb).2
            · cases e9
    · have hin : i = s.items.length := by omega
      subst hin
      refine .inl ⟨wk.stops Hs' H' sta, ?_⟩
      rw [List.drop_length] at rest
      cases rest
      have hE : ∀ i, i ∉ own ++ s.lent → rd ρE i = rd (Dv.wipe ρE own) i := fun i hi => (rd_wipe_out fun z => hi (List.mem_append_left _ z)).symm
      have mB := unwipe (σ2 := σ) m1.st g' S' hE rfl (fun _ _ => rfl) fun i hi => (get_wipe_out fun z => hi (List.mem_append_left _ z)).symm
      refine K (.ref La) _ _ _ _ (m1.then mB id) (RO.mkL hD' nD' ra naD) (VwB.own (own_from m1.go fun b hb => ?_))
      rcases hb with rfl | hb
      · refine ⟨fun i z => ?_, .inr hD⟩
        rcases z with ⟨_, z⟩ | ⟨_, _, z⟩
        · obtain ⟨⟨_, e⟩, _⟩ := m1.st.own z
          rw [hD] at e; cases e
        · exact fD' i z
      · refine ⟨fun i z => ?_, (oa b hb).2.imp (fun ⟨j, z⟩ => ⟨j, z.2⟩) id⟩
        rcases z with ⟨hi', z⟩ | ⟨_, _, z⟩
        · rcases (oa b hb).2 with ⟨j, hj, w⟩ | w
          · by_cases e : i = j
            · subst e; exact hj hi'
            · exact m1.st.dis i j b e z w
          · obtain ⟨⟨_, e⟩, _⟩ := m1.st.own z
            rw [e] at w; cases w
        · exact (oa b hb).1 i z
theorem pts_imp {ifs : List Expr} {t t' : TT} (h : PTs X ifs t) (k : ∀ σ H Q, t' σ H Q → t σ H Q) : PTs X ifs t' := ⟨fun pins s σ H Q I q => h.run pins s σ H Q I (k σ H Q q)⟩
theorem sts_nil : PTs X [] (tTs (ct X fa) cf .no) := by
  refine pts_imp pts_nil ?_
  rintro σ H Q ⟨ro, Hs, ρ, fp, S, t, ρ', e, K⟩
  rw [evT] at e
  cases e
  exact K _ _ _ (Mo.refl S)
end
end Dv
set_option Elab.async false
set_option linter.all false
set_option maxRecDepth 100000
set_option maxHeartbeats 1000000
/-! Part G2: comprehensions of two clauses. -/
namespace Dv
open PySem PySem.Spec PyProof.Rows L2

/-- the list at La grows: its items stand for acc -/
structure Acc (G : Ct) (ro : Bool) (Hs1 H1 : Hp) (fpw : Nat → Fp) (La : Addr) (acc : List O) (Hs' H' : Hp) (fp' : Nat → Fp) : Prop where
  go : Go ro Hs1 H1 fpw Hs' H' fp'
  new : H1 La = none
  ex : ∃ vs f, H' La = some (.lst vs) ∧ Hs' La = none ∧ (∀ i, ¬ fp' i La) ∧ ROs G Hs' H' vs acc f ∧ ¬ f La ∧ ∀ b, f b → (∀ i, ¬ fp' i b) ∧ ((∃ j, fpw j b) ∨ H1 b = none)
section
variable {G : Ct} {ro : Bool} {Hs1 H1 Hs' H' Hs3 H3 Hs4 H4 : Hp} {fpw fp' fp3 fp4 : Nat → Fp} {La : Addr} {acc : List O} {σ : L2.St} {ρ : Env}
theorem Acc.later (A : Acc G ro Hs1 H1 fpw La acc Hs' H' fp') (S : Stt G Hs' H' σ ρ fp') (g : Go ro Hs' H' fp' Hs3 H3 fp3) : Acc G ro Hs1 H1 fpw La acc Hs3 H3 fp3 := by
  obtain ⟨g0, n, vs, f, e1, e2, e3, r, e4, oa⟩ := A
  refine ⟨g0.trans S g id, n, vs, f, g.frame La _ e1 e3, ?_, fun i z => ?_, r.held (fun b hb => (oa b hb).1) g, e4, fun b hb => ⟨fun i z => ?_, (oa b hb).2⟩⟩
  · cases q : Hs3 La with
    | none => rfl
    | some u =>
      rcases g.grow La u q with z | ⟨j, z⟩ | z
      · rw [e2] at z; cases z
      · exact (e3 j z).elim
      · rw [e1] at z; cases z
  · rcases g.orig i La z with ⟨j, z⟩ | z
    · exact e3 j z
    · rw [e1] at z; cases z
  · rcases g.orig i b z with ⟨j, z⟩ | z
    · exact (oa b hb).1 j z
    · obtain ⟨⟨_, e⟩, _⟩ := r.at_ b hb
      rw [e] at z; cases z
theorem Acc.off {l : List Nat} (A : Acc G ro Hs1 H1 fpw La acc Hs' H' fp') (h : ro = true → offs fp' l = fp') : Acc G ro Hs1 H1 fpw La acc Hs' H' (offs fp' l) := by
  obtain ⟨g0, n, vs, f, e1, e2, e3, r, e4, oa⟩ := A
  exact ⟨g0.off h, n, vs, f, e1, e2, fun i z => e3 i z.2, r, e4, fun b hb => ⟨fun i z => (oa b hb).1 i z.2, (oa b hb).2⟩⟩
/-- one more item -/
theorem Acc.app (A : Acc G ro Hs1 H1 fpw La acc Hs3 H3 fp3) (S3 : Stt G Hs3 H3 σ ρ fp3) (g : Go ro Hs3 H3 fp3 Hs4 H4 fp4) {y : V} {oy : O} {fy : Fp} (ry : RO G Hs4 H4 y oy fy) (ow : Own H3 fp3 fp4 fy) :
    ∃ vs, H4 La = some (.lst vs) ∧ vs.length = acc.length ∧ Acc G ro Hs1 H1 fpw La (acc ++ [oy]) Hs4 (L2.upd H4 La (.lst (vs ++ [y]))) fp4 ∧ ∀ {σ' : L2.St} {ρ' : Env}, Stt G Hs4 H4 σ' ρ' fp4 → Stt G Hs4 (L2.upd H4 La (.lst (vs ++ [y]))) σ' ρ' fp4 := by
  obtain ⟨vs0, f0, c1, _, c3, r0, _, oa0⟩ := A.ex
  obtain ⟨g4, n, vs, f, e1, e2, e3, r, e4, oa⟩ := A.later S3 g
  have nyD : ¬ fy La := fun z => by
    rcases (ow La z).2 with ⟨j, z⟩ | z
    · exact c3 j z
    · rw [c1] at z; cases z
  have e0 : H4 La = some (.lst vs0) := g.frame La _ c1 c3
  have ev : vs = vs0 := by
    rw [e1] at e0
    cases e0
    rfl
  subst ev
  have keep : ∀ {b : Addr}, b ≠ La → L2.upd H4 La (.lst (vs ++ [y])) b = H4 b := fun h => upd_ne h
  have old : ∀ b u, H1 b = some u → b ≠ La := fun b u e z => by rw [z, n] at e; cases e
  refine ⟨vs, e1, r.length, ⟨⟨g4.ex, fun b u e nn => ?_, g4.orig, g4.grow, fun hr => ⟨fun b u e => ?_, (g4.quiet hr).2⟩⟩, n, vs ++ [y], fun b => f b ∨ fy b, upd_same, e2, e3, ?_, fun z => z.elim e4 nyD, fun b hb => ?_⟩, fun {σ' ρ'} S => ⟨fun b u e => ?_, S.len, fun j u e => ?_, S.emp, S.dis⟩⟩
  · rw [keep (old b u e)]
    exact g4.frame b u e nn
  · rw [keep (old b u e)]
    exact (g4.quiet hr).1 b u e
  · have r1 : ROs G Hs4 (L2.upd H4 La (.lst (vs ++ [y]))) vs acc f := r.mono (Same.refl _) fun b hb => ⟨keep fun z => e4 (by rw [← z]; exact hb), (r.at_ b hb).2⟩
    have r2 : RO G Hs4 (L2.upd H4 La (.lst (vs ++ [y]))) y oy fy := ry.mono (Same.refl _) fun b hb => ⟨keep fun z => nyD (by rw [← z]; exact hb), (ry.at_ b hb).2⟩
    -- the items at hand are those of before
    have same : ∀ b, f b → f0 b := fun b hb => ROs.fp_uniq r (r0.held (fun b hb => (oa0 b hb).1) g) b hb
    exact ROs.snoc r1 r2 fun b hb hb' => by
      rcases (ow b hb').2 with ⟨j, z⟩ | z
      · exact (oa0 b (same b hb)).1 j z
      · obtain ⟨⟨_, e⟩, _⟩ := r0.at_ b (same b hb)
        rw [e] at z; cases z
  · rcases hb with hb | hb
    · exact oa b hb
    · refine ⟨(ow b hb).1, ?_⟩
      exact (own_from A.go ow b hb).2
  · by_cases h : b = La
    · rw [h, e2] at e; cases e
    · rw [keep h]
      exact S.sub b u e
  · obtain ⟨w, h1, rr⟩ := S.slot j u e
    exact ⟨w, h1, rr.mono (Same.refl _) fun b hb => ⟨keep fun z => e3 j (by rw [← z]; exact hb), (rr.at_ b hb).2⟩⟩
theorem stt_congr {Hs H : Hp} {fp : Nat → Fp} {ρ ρ' : Env} (S : Stt G Hs H σ ρ fp) (h : ∀ i, rd ρ' i = rd ρ i) (hl : ρ'.length = ρ.length) : Stt G Hs H σ ρ' fp :=
  ⟨S.sub, by rw [hl]; exact S.len, fun i o e => S.slot i o (by rw [← h]; exact e), fun i b hb => by
    obtain ⟨o, e⟩ := S.emp i b hb
    exact ⟨o, by rw [h]; exact e⟩, S.dis⟩
end
section
variable {X : Cx} {fa : Nat → Addr} {cf : Nat → List O → CR}
theorem drop_at {xs : List D} {i : Nat} {x : D} (h : xs[i]? = some x) : xs.drop i = x :: xs.drop (i + 1) := by
  obtain ⟨hl, e⟩ := List.getElem?_eq_some_iff.mp h
  rw [List.drop_eq_getElem_cons hl, e]
theorem lc2_law {own vs : List Nat} {g g' : Tg} {src cond src' cond' elt : E} {σ : L2.St} {H : Hp} {Q : VK} (hsl : ∀ i ∈ slots g, i ∈ own) (hsl' : ∀ i ∈ slots g', i ∈ vs) (hvs : ∀ i ∈ vs, i ∈ own) (h : tBv (ct X fa) cf (.lc2 own g src cond vs g' src' cond' elt) σ H Q) :
    tLc2 (tI (ct X fa) cf src) (tTg (ct X fa) g) (tTs (ct X fa) cf cond) (tI (ct X fa) cf src') (tTg (ct X fa) g') (tTs (ct X fa) cf cond') (tV (ct X fa) cf elt) own vs σ H Q := by
  obtain ⟨ro, Hs, ρ, fp, S, b, o, ρ', e, K⟩ := h
  rw [evB] at e
  obtain ⟨s, ρ1, e1, e⟩ := R.bind_ok e
  obtain ⟨accE, ρE, e2, e3⟩ := R.bind_ok e
  cases e3
  refine ⟨ro, Hs, ρ, fp, S, s, ρ1, e1, fun J Hs1 H1 fp1 f m1 wk hf hl La hD => ?_⟩
  generalize hstep1 : (fun (x : D) (acc : List O) (ρ : Env) => match put g' x (Dv.wipe ρ vs) with
              | some ρ5 => (evT cf cond' ro ρ5).bind fun t ρ6 => if t = true then (asV elt ro (evB cf elt ro ρ6)).bind fun o ρ7 => if fits (acc.length + 1) = true then R.ok (acc ++ [o]) ρ7 else .bad else .ok acc ρ6
              | none => R.bad) = step1 at e2
  generalize hstep : (fun (x : D) (acc : List O) (ρ : Env) => match put g x (Dv.wipe ρ own) with
        | some ρ2 => ((evT cf cond ro ρ2).bind fun t ρ3 => if t = true then (evI cf src' ro ρ3).bind fun s' ρ4 =>
            if s'.lent.isEmpty = true then lcGo step1 s'.items acc ρ4 else R.bad
            else R.ok acc ρ3).calm
        | none => R.bad) = step at e2
  obtain ⟨LI, hLI⟩ : ∃ LI : Nat → Hp → Prop, LI = fun i H' => ∃ Hs' ρ' fp' acc, Stt (ct X fa) Hs' H' (L2.wipe σ own) (Dv.wipe ρ' own) fp' ∧ Acc (ct X fa) ro Hs1 H1 (offs fp1 (own ++ s.lent)) La acc Hs' H' fp' ∧ lcGo step (s.items.drop i) acc ρ' = .ok accE ρE := ⟨_, rfl⟩
  refine ⟨fun i m H' => m = s.items.length - i ∧ i ≤ s.items.length ∧ LI i H', ⟨s.items.length, by simp, Nat.zero_le _, ?_⟩, ?_⟩
  · rw [hLI]
    have x : Xt Hs1 H1 Hs1 (L2.upd H1 La (.lst [])) := Xt.own m1.st.sub hD
    have S0 := stt_wipe (stt_wipe (m1.st.xt x) (But.refl (l := s.lent))) (but_wipe (l := own))
    have nD : ∀ i, ¬ fp1 i La := fun i z => by
      obtain ⟨⟨_, e⟩, _⟩ := m1.st.own z
      rw [hD] at e; cases e
    refine ⟨Hs1, Dv.wipe ρ1 s.lent, offs fp1 (own ++ s.lent), [], stt_fp S0 fun i b => ?_, ⟨x.go, hD, [], fun _ => False, upd_same, none_sub m1.st.sub hD, fun i z => nD i z.2, .nil, id, fun _ z => z.elim⟩, e2⟩
    show (i ∉ own ∧ i ∉ s.lent ∧ fp1 i b) ↔ (i ∉ own ++ s.lent ∧ fp1 i b)
    rw [List.mem_append, not_or]
    exact ⟨fun ⟨a, b, c⟩ => ⟨⟨a, b⟩, c⟩, fun ⟨⟨a, b⟩, c⟩ => ⟨a, b, c⟩⟩
  · rintro i m H' ⟨rfl, hi, p⟩
    rw [hLI] at p
    obtain ⟨Hs', ρ', fp', acc, S', A', rest⟩ := p
    have gg := A'.go
    have sta : Sta Hs1 H1 f Hs' H' := ⟨gg.ex, S'.sub, fun b hb => by
      cases q : H1 b with
      | none => exact absurd q (hf b hb).1
      | some u => exact gg.frame b u q fun j hj => hj.1 (List.mem_append_right _ (hl b j hb hj.2))⟩
    have notown : ∀ {i b}, fp' i b → i ∉ own := fun {i b} hb hi => by
      obtain ⟨o, e⟩ := S'.emp i b hb
      rw [rd_wipe_in hi] at e
      cases e
    by_cases hlt : i < s.items.length
    · refine .inr ⟨wk.goes i Hs' H' hlt sta, LI (i + 1), fun H2 p2 => ⟨s.items.length - (i + 1), by omega, rfl, hlt, p2⟩, fun v H2 y => ?_⟩
      obtain ⟨Hs2, x, ex, xt, rx⟩ := wk.yields i Hs' H' v H2 hlt sta y
      rw [drop_at ex] at rest
      obtain ⟨acc', ρ'', e4, e5⟩ := R.bind_ok (show (step x acc ρ').bind (fun acc' ρ' => lcGo step (s.items.drop (i + 1)) acc' ρ') = .ok accE ρE from rest)
      rw [← hstep] at e4
      simp only at e4
      cases hp : put g x (Dv.wipe ρ' own) with
      | none => rw [hp] at e4; cases e4
      | some ρ2 =>
        rw [hp] at e4
        obtain ⟨t, ρ3, e6, e7⟩ := R.bind_ok (calm_ok e4)
        refine ⟨Hs2, _, fp', x, ρ2, S'.xt xt, rx, hp, fun σ2 b2 S2 => ⟨?_, ?_⟩⟩
        · exact wipe_but (but_wipe.trans (b2.mono hsl))
        · have S2' : Stt (ct X fa) Hs2 H2 σ2 ρ2 fp' := stt_fp S2 fun i b => ⟨fun z => z.2, fun z => ⟨fun q => notown z (hsl i q), z⟩⟩
          have A2 := A'.later S' (xt.go (ro := ro))
          have b3 : But own (L2.wipe σ own) σ2 := b2.mono hsl
          have b3' : But own σ2 (L2.wipe σ own) := ⟨b3.len.symm, fun j h => (b3.same j h).symm⟩
          refine ⟨ro, Hs2, ρ2, fp', S2', t, ρ3, e6, fun Hs3 H3 fp3 m3 => ?_⟩
          have quiet3 : ro = true → fp3 = fp' := fun hr => (m3.go.quiet hr).2
          cases t with
          | false =>
            rw [if_neg Bool.false_ne_true] at e7
            dsimp only
            rw [if_neg Bool.false_ne_true]
            cases e7
            rw [hLI]
            refine ⟨Hs3, _, _, acc, stt_wipe m3.st b3', (A2.later S2' m3.go).off fun hr => ?_, e5⟩
            rw [quiet3 hr]
            funext i b
            exact propext ⟨fun z => z.2, fun z => ⟨notown z, z⟩⟩
          | true =>
            rw [if_pos rfl] at e7
            dsimp only
            rw [if_pos rfl]
            obtain ⟨s', ρ4, e8, e9⟩ := R.bind_ok e7
            split at e9
            · rename_i hlent
              have hnil : s'.lent = [] := List.isEmpty_iff.mp hlent
              refine ⟨ro, Hs3, ρ3, fp3, m3.st, s', ρ4, e8, fun J1 Hs4 H4 fp4 f4 m4 wk4 hf4 hl4 => ?_⟩
              have quiet4 : ro = true → fp4 = fp' := fun hr => (m4.go.quiet hr).2.trans (quiet3 hr)
              have A4 := (A2.later S2' m3.go).later m3.st m4.go
              have nf4 : ¬ f4 La := fun z => by
                obtain ⟨_, _, w1, _, w3, _⟩ := (A2.later S2' m3.go).ex
                rcases (hf4 La z).2 with ⟨j, w⟩ | w
                · exact w3 j w
                · rw [w1] at w; cases w
              have noloc : ∀ {b : Addr}, f4 b → ∀ i, ¬ offs fp4 vs i b := by
                intro b hb i hi
                have hm := hl4 b i hb hi.2
                rw [hnil] at hm
                cases hm
              obtain ⟨L1, hL1⟩ : ∃ L1 : Nat → Hp → Prop, L1 = fun j H5 => ∃ Hs5 ρ5 fp5 acc5, Stt (ct X fa) Hs5 H5 (L2.wipe σ2 vs) (Dv.wipe ρ5 vs) fp5 ∧ Go ro Hs4 (fun b => if b = La then none else H4 b) (offs fp4 vs) Hs5 H5 fp5 ∧ Acc (ct X fa) ro Hs1 H1 (offs fp1 (own ++ s.lent)) La acc5 Hs5 H5 fp5 ∧
                  lcGo step1 (s'.items.drop j) acc5 ρ5 = .ok acc' ρ'' := ⟨_, rfl⟩
              have off4 : ro = true → offs fp4 vs = fp4 := fun hr => by
                rw [quiet4 hr]
                funext i b
                exact propext ⟨fun z => z.2, fun z => ⟨fun q => notown z (hvs i q), z⟩⟩
              refine ⟨fun j k H5 => k = s'.items.length - j ∧ j ≤ s'.items.length ∧ L1 j H5, ⟨s'.items.length, by simp, Nat.zero_le _, ?_⟩, ?_⟩
              · rw [hL1]
                refine ⟨Hs4, ρ4, _, acc, stt_wipe m4.st but_wipe, ⟨Same.refl _, fun b u e _ => ?_, fun i b h => .inl ⟨i, h⟩, fun _ _ h => .inl h, fun _ => ⟨fun b u e => ?_, rfl⟩⟩, A4.off off4, e9⟩
                · by_cases h : b = La
                  · rw [if_pos h] at e; cases e
                  · rw [if_neg h] at e; exact e
                · dsimp only at e
                  by_cases h : b = La
                  · rw [if_pos h] at e; cases e
                  · rw [if_neg h] at e; exact e
              · rintro j k H5 ⟨rfl, hj, p5⟩
                rw [hL1] at p5
                obtain ⟨Hs5, ρ5, fp5, acc5, S5, g5, A5, rest5⟩ := p5
                have quiet5 : ro = true → fp5 = offs fp4 vs := fun hr => (g5.quiet hr).2
                have sta5 : Sta Hs4 H4 f4 Hs5 H5 := ⟨g5.ex, S5.sub, fun b hb => by
                  cases q : H4 b with
                  | none => exact absurd q (hf4 b hb).1
                  | some u =>
                    have hne : b ≠ La := fun z => nf4 (z ▸ hb)
                    exact g5.frame b u ((if_neg hne).trans q) (noloc hb)⟩
                have notvs : ∀ {i b}, fp5 i b → i ∉ vs := fun {i b} hb hi => by
                  obtain ⟨o, e⟩ := S5.emp i b hb
                  rw [rd_wipe_in hi] at e
                  cases e
                by_cases hjt : j < s'.items.length
                · refine .inr ⟨wk4.goes j Hs5 H5 hjt sta5, L1 (j + 1), fun H6 p6 => ⟨s'.items.length - (j + 1), by omega, rfl, hjt, p6⟩, fun v1 H6 y1 => ?_⟩
                  obtain ⟨Hs6, x1, ex1, xt1, rx1⟩ := wk4.yields j Hs5 H5 v1 H6 hjt sta5 y1
                  rw [drop_at ex1] at rest5
                  obtain ⟨acc6, ρx, e10, e11⟩ := R.bind_ok (show (step1 x1 acc5 ρ5).bind (fun acc' ρ' => lcGo step1 (s'.items.drop (j + 1)) acc' ρ') = .ok acc' ρ'' from rest5)
                  rw [← hstep1] at e10
                  simp only at e10
                  cases hp1 : put g' x1 (Dv.wipe ρ5 vs) with
                  | none => rw [hp1] at e10; cases e10
                  | some ρ6 =>
                    rw [hp1] at e10
                    obtain ⟨t1, ρ7, e12, e13⟩ := R.bind_ok e10
                    refine ⟨Hs6, _, fp5, x1, ρ6, S5.xt xt1, rx1, hp1, fun σ3 c2 S6 => ⟨wipe_but (but_wipe.trans (c2.mono hsl')), ?_⟩⟩
                    have S6' : Stt (ct X fa) Hs6 H6 σ3 ρ6 fp5 := stt_fp S6 fun i b => ⟨fun z => z.2, fun z => ⟨fun q => notvs z (hsl' i q), z⟩⟩
                    have A6 := A5.later S5 (xt1.go (ro := ro))
                    have g6 : Go ro Hs4 (fun b => if b = La then none else H4 b) (offs fp4 vs) Hs6 H6 fp5 := g5.trans S5 (xt1.go (ro := true)) fun _ => rfl
                    have c3 : But vs (L2.wipe σ2 vs) σ3 := c2.mono hsl'
                    have c3' : But vs σ3 (L2.wipe σ2 vs) := ⟨c3.len.symm, fun j h => (c3.same j h).symm⟩
                    refine ⟨ro, Hs6, ρ6, fp5, S6', t1, ρ7, e12, fun Hs7 H7 fp7 m7 => ?_⟩
                    have off7 : ∀ {fp8 : Nat → Fp}, (ro = true → fp8 = fp5) → ro = true → offs fp8 vs = fp8 := fun {fp8} hq hr => by
                      rw [hq hr]
                      funext i b
                      exact propext ⟨fun z => z.2, fun z => ⟨notvs z, z⟩⟩
                    have q7 : ro = true → fp7 = fp5 := fun hr => (m7.go.quiet hr).2
                    cases t1 with
                    | false =>
                      rw [if_neg Bool.false_ne_true] at e13
                      dsimp only
                      rw [if_neg Bool.false_ne_true]
                      cases e13
                      rw [hL1]
                      exact ⟨Hs7, _, _, acc5, stt_wipe m7.st c3', (g6.trans S6' m7.go id).off (off7 q7), (A6.later S6' m7.go).off (off7 q7), e11⟩
                    | true =>
                      rw [if_pos rfl] at e13
                      dsimp only
                      rw [if_pos rfl]
                      obtain ⟨oy, ρ8, e14, e15⟩ := R.bind_ok e13
                      split at e15
                      · rename_i hz
                        cases e15
                        refine ⟨ro, Hs7, ρ7, fp7, m7.st, oy, _, e14, fun y Hs8 H8 fp8 fy m8 ry ow => ?_⟩
                        obtain ⟨ws, w1, w2, A8, keep8⟩ := (A6.later S6' m7.go).app m7.st m8.go ry ow
                        have q8 : ro = true → fp8 = fp5 := fun hr => (m8.go.quiet hr).2.trans (q7 hr)
                        have g8 := (g6.trans S6' m7.go id).trans m7.st m8.go id
                        have A8' := A8.off (off7 q8)
                        refine ⟨ws, w1, by have := fits_le hz; omega, ?_⟩
                        rw [hL1]
                        have kp : ∀ {b : Addr} {u}, (if b = La then none else H4 b) = some u → b ≠ La := fun {b u} e z => by rw [if_pos z] at e; cases e
                        have g9 : Go ro Hs4 (fun b => if b = La then none else H4 b) (offs fp4 vs) Hs8 (L2.upd H8 La (.lst (ws ++ [y]))) fp8 :=
                          ⟨g8.ex, fun b u e nn => (upd_ne (kp e)).trans (g8.frame b u e nn), g8.orig, g8.grow, fun hr => ⟨fun b u e => (upd_ne (kp e)).trans ((g8.quiet hr).1 b u e), (g8.quiet hr).2⟩⟩
                        exact ⟨Hs8, _, _, acc5 ++ [oy], stt_wipe (keep8 m8.st) c3', g9.off (off7 q8), A8', e11⟩
                      · cases e15
                · have hjn : j = s'.items.length := by omega
                  subst hjn
                  refine .inl ⟨wk4.stops Hs5 H5 sta5, ?_⟩
                  rw [List.drop_length] at rest5
                  cases rest5
                  rw [hLI]
                  have cw : But own (L2.wipe σ2 vs) (L2.wipe σ own) := by
                    have k1 : But own σ2 (L2.wipe σ2 vs) := but_wipe.mono hvs
                    exact (⟨k1.len.symm, fun j h => (k1.same j h).symm⟩ : But own (L2.wipe σ2 vs) σ2).trans b3'
                  refine ⟨Hs5, _, offs fp5 own, acc', stt_congr (stt_wipe S5 cw) (fun i => ?_) (by rw [wipe_len, wipe_len, wipe_len]), A5.off fun hr => ?_, e5⟩
                  · by_cases h : i ∈ own
                    · rw [rd_wipe_in h, rd_wipe_in h]
                    · rw [rd_wipe_out h, rd_wipe_out h, rd_wipe_out fun z => h (hvs i z)]
                  · rw [quiet5 hr, off4 hr, quiet4 hr]
                    funext i b
                    exact propext ⟨fun z => z.2, fun z => ⟨notown z, z⟩⟩
            · cases e9
    · have hin : i = s.items.length := by omega
      subst hin
      refine .inl ⟨wk.stops Hs' H' sta, ?_⟩
      rw [List.drop_length] at rest
      cases rest
      obtain ⟨_, _, ws, fa', w1, w2, w3, w4, w5, oa⟩ := A'
      have hE : ∀ i, i ∉ own ++ s.lent → rd ρE i = rd (Dv.wipe ρE own) i := fun i hi => (rd_wipe_out fun z => hi (List.mem_append_left _ z)).symm
      have mB := unwipe (σ2 := σ) m1.st gg S' hE rfl (fun _ _ => rfl) fun i hi => (get_wipe_out fun z => hi (List.mem_append_left _ z)).symm
      refine K (.ref La) _ _ _ _ (m1.then mB id) (RO.mkL w1 w2 w4 w5) (VwB.own (own_from m1.go fun b hb => ?_))
      rcases hb with rfl | hb
      · refine ⟨fun i z => ?_, .inr hD⟩
        rcases z with ⟨_, z⟩ | ⟨_, _, z⟩
        · obtain ⟨⟨_, e⟩, _⟩ := m1.st.own z
          rw [hD] at e; cases e
        · exact w3 i z
      · refine ⟨fun i z => ?_, (oa b hb).2.imp (fun ⟨j, z⟩ => ⟨j, z.2⟩) id⟩
        rcases z with ⟨hi', z⟩ | ⟨_, _, z⟩
        · rcases (oa b hb).2 with ⟨j, hj, w⟩ | w
          · by_cases e : i = j
            · subst e; exact hj hi'
            · exact m1.st.dis i j b e z w
          · obtain ⟨⟨_, e⟩, _⟩ := m1.st.own z
            rw [e] at w; cases w
        · exact (oa b hb).1 i z
end
end Dv
set_option Elab.async false
set_option linter.all false
set_option maxRecDepth 100000
set_option maxHeartbeats 1000000
/-! Part H: statements. -/
namespace Dv
open PySem PySem.Spec PyProof.Rows L2

/-- from (σ, Hs, H, fp) here; the slots io are bound as they were -/
structure MoS (G : Ct) (io : List Nat) (σ : L2.St) (Hs H : Hp) (fp : Nat → Fp) (σ' : L2.St) (ρ' : Env) (Hs' H' : Hp) (fp' : Nat → Fp) : Prop where
  st : Stt G Hs' H' σ' ρ' fp'
  go : Go false Hs H fp Hs' H' fp'
  io : ∀ i ∈ io, σ'[i]? = σ[i]?
  len : σ'.length = σ.length
theorem MoS.refl {G : Ct} {io : List Nat} {σ : L2.St} {Hs H : Hp} {fp : Nat → Fp} {ρ : Env} (S : Stt G Hs H σ ρ fp) : MoS G io σ Hs H fp σ ρ Hs H fp := ⟨S, Go.refl, fun _ _ => rfl, rfl⟩
theorem MoS.then {G : Ct} {io : List Nat} {σ σ1 σ2 : L2.St} {Hs H Hs1 H1 Hs2 H2 : Hp} {fp fp1 fp2 : Nat → Fp} {ρ1 ρ2 : Env} (a : MoS G io σ Hs H fp σ1 ρ1 Hs1 H1 fp1) (b : MoS G io σ1 Hs1 H1 fp1 σ2 ρ2 Hs2 H2 fp2) : MoS G io σ Hs H fp σ2 ρ2 Hs2 H2 fp2 :=
  ⟨b.st, a.go.trans a.st b.go id, fun i h => (b.io i h).trans (a.io i h), b.len.trans a.len⟩
theorem Mo.s {G : Ct} {io : List Nat} {σ : L2.St} {Hs H Hs1 H1 : Hp} {fp fp1 : Nat → Fp} {ρ1 : Env} (a : Mo G σ false Hs H fp ρ1 Hs1 H1 fp1) : MoS G io σ Hs H fp σ ρ1 Hs1 H1 fp1 := ⟨a.st, a.go, fun _ _ => rfl, rfl⟩
/-- behind a statement -/
def PSr (G : Ct) (io : List Nat) (σ : L2.St) (Hs H : Hp) (fp : Nat → Fp) (r : SR) (Z : Ends) : Prop := match r with
  | .nx ρ' => ∀ σ' Hs' H' fp', MoS G io σ Hs H fp σ' ρ' Hs' H' fp' → Z.nx σ' H'
  | .bk ρ' => ∀ σ' Hs' H' fp', MoS G io σ Hs H fp σ' ρ' Hs' H' fp' → Z.bk σ' H'
  | .ct ρ' => ∀ σ' Hs' H' fp', MoS G io σ Hs H fp σ' ρ' Hs' H' fp' → Z.ct σ' H'
  | .rt o ρ' => ∀ v σ' Hs' H' fp' f, MoS G io σ Hs H fp σ' ρ' Hs' H' fp' → RO G Hs' H' v o f → Own H fp fp' f → Z.rt v H'
  | _ => False
theorem PSr.from {G : Ct} {io : List Nat} {σ σ1 : L2.St} {Hs H Hs1 H1 : Hp} {fp fp1 : Nat → Fp} {ρ1 : Env} {r : SR} {Z : Ends} (a : MoS G io σ Hs H fp σ1 ρ1 Hs1 H1 fp1) (p : PSr G io σ Hs H fp r Z) : PSr G io σ1 Hs1 H1 fp1 r Z := by
  cases r with
  | nx ρ' => exact fun σ' Hs' H' fp' m => p σ' Hs' H' fp' (a.then m)
  | bk ρ' => exact fun σ' Hs' H' fp' m => p σ' Hs' H' fp' (a.then m)
  | ct ρ' => exact fun σ' Hs' H' fp' m => p σ' Hs' H' fp' (a.then m)
  | rt o ρ' => exact fun v σ' Hs' H' fp' f m r ow => p v σ' Hs' H' fp' f (a.then m) r (own_from a.go ow)
  | ex => exact p
  | bad => exact p
def tSt (G : Ct) (cf : Nat → List O → CR) (s : S) : TS := fun Z σ H => ∃ io Hs ρ fp, Stt G Hs H σ ρ fp ∧ PSr G io σ Hs H fp (evS cf s io ρ) Z
theorem ps_imp {X : Cx} {e : Stmt} {t t' : TS} (h : PS X e t) (k : ∀ Z σ H, t' Z σ H → t Z σ H) : PS X e t' := ⟨fun pins s σ H Z I q => h.run pins s σ H Z I (k Z σ H q)⟩
theorem pss_imp {X : Cx} {e : List Stmt} {t t' : TS} (h : PSs X e t) (k : ∀ Z σ H, t' Z σ H → t Z σ H) : PSs X e t' := ⟨fun pins s σ H Z I q => h.run pins s σ H Z I (k Z σ H q)⟩
theorem psr_sr {α : Type} {G : Ct} {io : List Nat} {σ : L2.St} {Hs H : Hp} {fp : Nat → Fp} {Z : Ends} {r : R α} {k : α → Env → SR} (h : PSr G io σ Hs H fp (r.sr k) Z) : ∃ a ρ1, r = .ok a ρ1 ∧ PSr G io σ Hs H fp (k a ρ1) Z := by
  cases r with
  | ok a ρ1 => exact ⟨a, ρ1, rfl, h⟩
  | ex => exact h.elim
  | bad => exact h.elim
/-- slot i by another tree -/
def upf (fp : Nat → Fp) (i : Nat) (f : Fp) : Nat → Fp := fun j b => if j = i then f b else fp j b
theorem stt_let {G : Ct} {Hs H : Hp} {σ : L2.St} {ρ : Env} {fp : Nat → Fp} {i : Nat} {v : V} {o : O} {f : Fp} (S : Stt G Hs H σ ρ fp) (r : RO G Hs H v o f) (d : ∀ b, f b → ∀ j, ¬ fp j b) (hi : i < ρ.length) : Stt G Hs H (σ.set i (some v)) (Dv.st ρ i (some o)) (upf fp i f) where
  sub := S.sub
  len := by rw [st_length, List.length_set]; exact S.len
  slot := fun j u e => by
    rcases rd_st_some e with ⟨rfl, e2⟩ | ⟨hj, e⟩
    · cases e2
      exact ⟨v, by rw [List.getElem?_set_self (Nat.lt_of_lt_of_le hi S.len)], r.fp fun b => by unfold upf; rw [if_pos rfl]⟩
    · obtain ⟨w, h1, r⟩ := S.slot j u e
      exact ⟨w, by rw [List.getElem?_set_ne (Ne.symm hj)]; exact h1, r.fp fun b => by unfold upf; rw [if_neg hj]⟩
  emp := fun j b hb => by
    unfold upf at hb
    split at hb
    · rename_i e
      subst e
      exact ⟨o, rd_st_same hi⟩
    · rename_i hj
      obtain ⟨u, e⟩ := S.emp j b hb
      exact ⟨u, by rw [rd_st_ne hj]; exact e⟩
  dis := fun j k b hjk h1 h2 => by
    unfold upf at h1 h2
    split at h1 <;> split at h2
    · rename_i e1 e2
      exact hjk (e1.trans e2.symm)
    · exact d b h1 k h2
    · exact d b h2 j h1
    · exact S.dis j k b hjk h1 h2
/-- a slot beyond the names: nothing is bound -/
theorem stt_let0 {G : Ct} {Hs H : Hp} {σ : L2.St} {ρ : Env} {fp : Nat → Fp} {i : Nat} {v : V} {x : Option O} (S : Stt G Hs H σ ρ fp) (hi : ¬ i < ρ.length) : Stt G Hs H (σ.set i (some v)) (Dv.st ρ i x) fp := by
  have e : Dv.st ρ i x = ρ := by
    clear S
    induction ρ generalizing i with
    | nil => rfl
    | cons o r ih =>
      cases i with
      | zero => exact absurd (Nat.succ_pos _) hi
      | succ i => exact congrArg (o :: ·) (ih fun z => hi (Nat.succ_lt_succ z))
  rw [e]
  refine ⟨S.sub, by rw [List.length_set]; exact S.len, fun j u h => ?_, S.emp, S.dis⟩
  obtain ⟨w, h1, r⟩ := S.slot j u h
  exact ⟨w, by rw [List.getElem?_set_ne fun z => hi (by rw [z]; exact rd_lt h)]; exact h1, r⟩
theorem MoS.let {G : Ct} {io : List Nat} {σ : L2.St} {Hs H Hs1 H1 : Hp} {fp fp1 : Nat → Fp} {ρ1 : Env} {i : Nat} {v : V} {o : O} {f : Fp} {σ1 : L2.St} (m : MoS G io σ Hs H fp σ1 ρ1 Hs1 H1 fp1) (r : RO G Hs1 H1 v o f) (ow : Own H fp fp1 f) (hi : io.contains i = false) :
    ∃ fp2, MoS G io σ Hs H fp (σ1.set i (some v)) (Dv.st ρ1 i (some o)) Hs1 H1 fp2 ∧ ∀ (g : Fp), (∀ b, g b → ¬ f b) → Own H fp fp1 g → Own H fp fp2 g := by
  have hio : ∀ j ∈ io, (σ1.set i (some v))[j]? = σ[j]? := fun j hj => by
    have : j ≠ i := fun z => by
      rw [z] at hj
      have := List.contains_iff_mem.mpr hj
      rw [hi] at this
      cases this
    rw [List.getElem?_set_ne (Ne.symm this)]
    exact m.io j hj
  by_cases h : i < ρ1.length
  · refine ⟨upf fp1 i f, ⟨stt_let m.st r (fun b hb => (ow b hb).1) h, ⟨m.go.ex, m.go.frame, fun j b hb => ?_, m.go.grow, fun e => nomatch e⟩, hio, by rw [List.length_set]; exact m.len⟩, fun g hg hog b hb => ⟨fun j hj => ?_, (hog b hb).2⟩⟩
    · unfold upf at hb
      split at hb
      · exact (ow b hb).2
      · exact m.go.orig j b hb
    · unfold upf at hj
      split at hj
      · exact hg b hb hj
      · exact (hog b hb).1 j hj
  · exact ⟨fp1, ⟨stt_let0 m.st h, m.go, hio, by rw [List.length_set]; exact m.len⟩, fun g _ h => h⟩

section
variable {X : Cx} {fa : Nat → Addr} {cf : Nat → List O → CR} {e a b : Expr} {ee ea eb : E} {x : Str} {i : Nat} {pos pos' : Pos} {st : Stmt} {rest sts sts2 : List Stmt} {s r : S}
theorem ss_nil : PSs X [] (tSt (ct X fa) cf .nil) := by
  refine pss_imp pss_nil ?_
  rintro Z σ H ⟨io, Hs, ρ, fp, S, p⟩
  exact p σ Hs H fp (MoS.refl S)
theorem ss_seq (h1 : PS X st (tSt (ct X fa) cf s)) (h2 : PSs X rest (tSt (ct X fa) cf r)) : PSs X (st :: rest) (tSt (ct X fa) cf (.seq s r)) := by
  refine pss_imp (pss_cons h1 h2) ?_
  rintro Z σ H ⟨io, Hs, ρ, fp, S, p⟩
  refine ⟨io, Hs, ρ, fp, S, ?_⟩
  rw [evS] at p
  cases h : evS cf s io ρ with
  | nx ρ1 =>
    rw [h] at p
    exact fun σ1 Hs1 H1 fp1 m => ⟨io, Hs1, ρ1, fp1, m.st, PSr.from m p⟩
  | bk ρ1 => rw [h] at p; exact p
  | ct ρ1 => rw [h] at p; exact p
  | rt o ρ1 => rw [h] at p; exact p
  | ex => rw [h] at p; exact p
  | bad => rw [h] at p; exact p
/-- name = value -/
theorem set_law {Z : Ends} {σ : L2.St} {H : Hp} (h : tSt (ct X fa) cf (.set i ee) Z σ H) : tAsg (tV (ct X fa) cf ee) (gName i) Z σ H := by
  obtain ⟨io, Hs, ρ, fp, S, p⟩ := h
  rw [evS] at p
  split at p
  · exact p.elim
  · rename_i hi
    have hi' : io.contains i = false := by
      cases h : io.contains i with
      | true => exact absurd h hi
      | false => rfl
    obtain ⟨o, ρ1, e1, p⟩ := psr_sr p
    refine ⟨false, Hs, ρ, fp, S, o, ρ1, e1, fun v Hs1 H1 fp1 f m r ow => ?_⟩
    obtain ⟨fp2, m2, _⟩ := (Mo.s (io := io) m).let r ow hi'
    exact p _ _ _ _ m2
theorem ss_set (hN : X.N.Nodup) (hi : X.N[i]? = some x) (hx : Loc X.env.scope x) (hf : X.fn x = true ∨ X.env.scope.names.lookup x = some .local) (he : PE X e (tBv (ct X fa) cf ee)) (hs : swapsWith e (some (.Name x pos')) pos.line X.env = pure false) : PS X (.Assign [.Name x pos'] e pos) (tSt (ct X fa) cf (.set i ee)) :=
  ps_imp (ps_set hN hi hx (sv_V he) hs hf) fun _ _ _ h => set_law h
/-- a frozen value -/
theorem ss_setF (hN : X.N.Nodup) (hi : X.N[i]? = some x) (hx : Loc X.env.scope x) (hf : X.fn x = true ∨ X.env.scope.names.lookup x = some .local) (he : PE X e (tBv (ct X fa) cf ee)) (hs : swapsWith e (some (.Name x pos')) pos.line X.env = pure false) : PS X (.Assign [.Name x pos'] e pos) (tSt (ct X fa) cf (.setF i ee)) := by
  refine ps_imp (ps_set hN hi hx (sv_V he) hs hf) ?_
  rintro Z σ H ⟨io, Hs, ρ, fp, S, p⟩
  rw [evS] at p
  split at p
  · exact p.elim
  · rename_i hi
    have hi' : io.contains i = false := by
      cases h : io.contains i with
      | true => exact absurd h hi
      | false => rfl
    obtain ⟨o, ρ1, e1, p⟩ := psr_sr p
    refine ⟨false, Hs, ρ, fp, S, o, ρ1, e1, fun v Hs1 H1 fp1 f m r ow => ?_⟩
    obtain ⟨k1, k2⟩ := m.frozen r ow
    obtain ⟨fp2, m2, _⟩ := (Mo.s (io := io) k2).let (.d k1) own_none hi'
    exact p _ _ _ _ m2
theorem ss_ex (he : PE X e (tBv (ct X fa) cf ee)) (hs : swapsWith e none pos.line X.env = pure false) : PS X (.Expr e pos) (tSt (ct X fa) cf (.ex ee)) := by
  refine ps_imp (ps_expr he hs) ?_
  rintro Z σ H ⟨io, Hs, ρ, fp, S, p⟩
  rw [evS] at p
  obtain ⟨⟨b, o⟩, ρ1, e1, p⟩ := psr_sr p
  exact ⟨false, Hs, ρ, fp, S, b, o, ρ1, e1, fun v Hs1 H1 fp1 f m r w => p _ _ _ _ (Mo.s m)⟩
theorem ss_doc {y : Str} {j : Nat} {pos pos' : Pos} : PS X (.Expr (.Constant (.str y) j pos) pos') (tSt (ct X fa) cf .pas) := by
  refine ps_imp ps_doc ?_
  rintro Z σ H ⟨io, Hs, ρ, fp, S, p⟩
  exact p σ Hs H fp (MoS.refl S)
theorem ss_pas : PS X (.Pass pos) (tSt (ct X fa) cf .pas) := by
  refine ps_imp ps_pass ?_
  rintro Z σ H ⟨io, Hs, ρ, fp, S, p⟩
  exact p σ Hs H fp (MoS.refl S)
theorem ss_brk : PS X (.Break pos) (tSt (ct X fa) cf .brk) := by
  refine ps_imp ps_break ?_
  rintro Z σ H ⟨io, Hs, ρ, fp, S, p⟩
  exact p σ Hs H fp (MoS.refl S)
theorem ss_cnt : PS X (.Continue pos) (tSt (ct X fa) cf .cnt) := by
  refine ps_imp ps_continue ?_
  rintro Z σ H ⟨io, Hs, ρ, fp, S, p⟩
  exact p σ Hs H fp (MoS.refl S)
theorem ss_ret0 : PS X (.Return none pos) (tSt (ct X fa) cf .ret0) := by
  refine ps_imp ps_retN ?_
  rintro Z σ H ⟨io, Hs, ρ, fp, S, p⟩
  exact p _ σ Hs H fp _ (MoS.refl S) (.d .non) own_none
theorem ss_ret (hn : ∀ i, ee ≠ .v i) (he : PE X e (tBv (ct X fa) cf ee)) : PS X (.Return (some e) pos) (tSt (ct X fa) cf (.ret ee)) := by
  refine ps_imp (ps_ret (sv_V he)) ?_
  rintro Z σ H ⟨io, Hs, ρ, fp, S, p⟩
  have p' : PSr (ct X fa) io σ Hs H fp ((asV ee false (evB cf ee false ρ)).sr fun o ρ' => .rt o ρ') Z := by
    cases ee <;> first
      | exact absurd rfl (hn _)
      | (rw [evS] at p; exact p; done)
      | (rw [evS] at p; exact p; all_goals (intro i z; cases z))
  obtain ⟨o, ρ1, e1, p'⟩ := psr_sr p'
  exact ⟨false, Hs, ρ, fp, S, o, ρ1, e1, fun v Hs1 H1 fp1 f m r ow => p' _ _ _ _ _ _ (Mo.s m) r ow⟩
theorem ss_retV (he : PE X e (tVar i)) : PS X (.Return (some e) pos) (tSt (ct X fa) cf (.ret (.v i))) := by
  refine ps_imp (ps_ret he) ?_
  rintro Z σ H ⟨io, Hs, ρ, fp, S, p⟩
  rw [evS] at p
  split at p
  · rename_i o hi
    obtain ⟨v, hv, r⟩ := S.slot i o hi
    refine ⟨v, hv, ?_⟩
    split at p
    · obtain ⟨k1, k2⟩ := (Mo.refl (ro := false) S).freeze hi hv
      exact p v σ _ _ _ _ (Mo.s k2) (.d k1) own_none
    · refine p v σ Hs H (off fp i) (fp i) ⟨⟨S.sub, by rw [st_length]; exact S.len, fun j u e => ?_, fun j b ⟨hj, hb⟩ => ?_, fun j k b hjk h1 h2 => S.dis j k b hjk h1.2 h2.2⟩, ⟨Same.refl _, fun _ _ h _ => h, fun j b h => .inl ⟨j, h.2⟩, fun _ _ h => .inl h, fun e => nomatch e⟩, fun _ _ => rfl, rfl⟩ r fun b hb => ⟨fun j hj => S.dis i j b (Ne.symm hj.1) hb hj.2, .inl ⟨i, hb⟩⟩
      · rcases rd_st_some e with ⟨_, e2⟩ | ⟨hj, e⟩
        · cases e2
        · obtain ⟨w, h1, r⟩ := S.slot j u e
          exact ⟨w, h1, r.fp fun b => ⟨fun h => ⟨hj, h⟩, fun h => h.2⟩⟩
      · obtain ⟨u, e⟩ := S.emp j b hb
        exact ⟨u, by rw [rd_st_ne hj]; exact e⟩
  · exact p.elim
theorem ss_iff {c : Expr} {ec : E} {s1 s2 : S} (hc : PT X c (tTs (ct X fa) cf ec)) (h1 : PSs X sts (tSt (ct X fa) cf s1)) (h2 : PSs X sts2 (tSt (ct X fa) cf s2)) : PS X (.If c sts sts2 pos) (tSt (ct X fa) cf (.iff ec s1 s2)) := by
  refine ps_imp (ps_if hc h1 h2) ?_
  rintro Z σ H ⟨io, Hs, ρ, fp, S, p⟩
  rw [evS] at p
  obtain ⟨t, ρ1, e1, p⟩ := psr_sr p
  refine ⟨false, Hs, ρ, fp, S, t, ρ1, e1, fun Hs1 H1 fp1 m => ?_⟩
  cases t with
  | true =>
    rw [if_pos rfl] at p ⊢
    exact ⟨io, Hs1, ρ1, fp1, m.st, PSr.from (Mo.s m) p⟩
  | false =>
    rw [if_neg Bool.false_ne_true] at p ⊢
    exact ⟨io, Hs1, ρ1, fp1, m.st, PSr.from (Mo.s m) p⟩
/-- a target taken apart -/
theorem ss_unp {tg : Expr} {g : Tg} (he : PE X e (tBv (ct X fa) cf ee)) (hg : PG X tg (tTg (ct X fa) g)) (hs : swapsWithSole [tg] e pos.line X.env = pure false) (hw : swappedStores [tg] e X.env = pure none) (h1 : (assignEach [tg] X.env).map (·.2) = [assign tg X.env]) : PS X (.Assign [tg] e pos) (tSt (ct X fa) cf (.unp g ee)) := by
  refine ps_imp (ps_asg he hg hs hw h1) ?_
  rintro Z σ H ⟨io, Hs, ρ, fp, S, p⟩
  rw [evS] at p
  split at p
  · exact p.elim
  · rename_i hio
    obtain ⟨⟨b, o⟩, ρ1, e1, p⟩ := psr_sr p
    refine ⟨false, Hs, ρ, fp, S, b, o, ρ1, e1, fun v Hs1 H1 fp1 f m r w => ?_⟩
    cases r with
    | @d _ y r =>
      simp only at p
      split at p
      · rename_i ρ2 e2
        refine ⟨Hs1, ρ1, fp1, y, ρ2, m.st, r, e2, fun σ' bt S' => p σ' Hs1 H1 _ ⟨S', ⟨m.go.ex, m.go.frame, fun i b hb => m.go.orig i b hb.2, m.go.grow, fun e => nomatch e⟩, fun i hi => bt.same i fun z => hio ?_, bt.len⟩⟩
        rw [List.any_eq_true]
        exact ⟨i, z, List.contains_iff_mem.mpr hi⟩
      · exact p.elim
    | ls => exact p.elim
    | nl => exact p.elim
/-! a, b = x, y -/
theorem lets2 {ρ ρ2 : Env} {i j : Nat} {os : List O} (h : lets ρ [i, j] os = some ρ2) : ∃ o u, os = [o, u] ∧ ρ2 = Dv.st (Dv.st ρ i (some o)) j (some u) := by
  match os, h with
  | [o, u], h => cases h; exact ⟨o, u, rfl, rfl⟩
  | [], h => cases h
  | [_], h => cases h
  | _ :: _ :: _ :: _, h => cases h
theorem lets3 {ρ ρ2 : Env} {i j k : Nat} {os : List O} (h : lets ρ [i, j, k] os = some ρ2) : ∃ o u w, os = [o, u, w] ∧ ρ2 = Dv.st (Dv.st (Dv.st ρ i (some o)) j (some u)) k (some w) := by
  match os, h with
  | [o, u, w], h => cases h; exact ⟨o, u, w, rfl, rfl⟩
  | [], h => cases h
  | [_], h => cases h
  | [_, _], h => cases h
  | _ :: _ :: _ :: _ :: _, h => cases h
theorem not_true {b : Bool} (h : ¬ b = true) : b = false := by cases b <;> first | rfl | exact absurd rfl h
theorem ss_par2 {y : Str} {j : Nat} {el : E} {px py pt : Pos} {kt k2 : Nat} {pt2 : Pos} (hc : X.calm = true) (hN : X.N.Nodup) (hi : X.N[i]? = some x) (hj : X.N[j]? = some y) (hij : i ≠ j) (hx : X.env.scope.names.lookup x = some .local) (hy : X.env.scope.names.lookup y = some .local)
    (ha : PA X [a, b] (tL (ct X fa) cf el)) (hw : swappedStores [.Tuple [.Name x px, .Name y py] kt pt] (.Tuple [a, b] k2 pt2) X.env = pure (some [x, y])) :
    PS X (.Assign [.Tuple [.Name x px, .Name y py] kt pt] (.Tuple [a, b] k2 pt2) pos) (tSt (ct X fa) cf (.par [i, j] el)) := by
  refine ps_imp (ps_par hc hN hi hj hij hx hy ha hw) ?_
  rintro Z σ H ⟨io, Hs, ρ, fp, S, p⟩
  rw [evS] at p
  split at p
  · exact p.elim
  · rename_i hio
    have hio' := not_true hio
    simp only [List.any_cons, List.any_nil, Bool.or_false, Bool.or_eq_false_iff] at hio'
    obtain ⟨⟨c1, c2⟩, _⟩ := hio'
    obtain ⟨os, ρ1, e1, p⟩ := psr_sr p
    split at p
    · rename_i ρ2 e2
      obtain ⟨o, u, rfl, rfl⟩ := lets2 e2
      refine ⟨false, Hs, ρ, fp, S, _, ρ1, e1, fun vs Hs1 H1 fp1 f m r ow => ?_⟩
      cases r with
      | cons r1 r d1 =>
        cases r with
        | cons r2 r d2 =>
          cases r
          refine ⟨_, _, rfl, ?_⟩
          obtain ⟨fp2, m2, k2⟩ := (Mo.s (io := io) m).let r1 (fun b hb => ow b (.inl hb)) c1
          obtain ⟨fp3, m3, _⟩ := m2.let r2 (k2 _ (fun b hb hb' => d1 b hb' (.inl hb)) fun b hb => ow b (.inr (.inl hb))) c2
          exact p _ _ _ _ m3
    · exact p.elim
theorem ss_par3 {y z : Str} {j k : Nat} {c : Expr} {el : E} {px py pz pt : Pos} {kt k2 : Nat} {pt2 : Pos} (hc : X.calm = true) (hN : X.N.Nodup) (hi : X.N[i]? = some x) (hj : X.N[j]? = some y) (hk : X.N[k]? = some z) (hij : i ≠ j) (hik : i ≠ k) (hjk : j ≠ k) (hx : X.env.scope.names.lookup x = some .local) (hy : X.env.scope.names.lookup y = some .local) (hz : X.env.scope.names.lookup z = some .local)
    (ha : PA X [a, b, c] (tL (ct X fa) cf el)) (hw : swappedStores [.Tuple [.Name x px, .Name y py, .Name z pz] kt pt] (.Tuple [a, b, c] k2 pt2) X.env = pure (some [x, y, z])) :
    PS X (.Assign [.Tuple [.Name x px, .Name y py, .Name z pz] kt pt] (.Tuple [a, b, c] k2 pt2) pos) (tSt (ct X fa) cf (.par [i, j, k] el)) := by
  refine ps_imp (ps_par3 hc hN hi hj hk hij hik hjk hx hy hz ha hw) ?_
  rintro Z σ H ⟨io, Hs, ρ, fp, S, p⟩
  rw [evS] at p
  split at p
  · exact p.elim
  · rename_i hio
    have hio' := not_true hio
    simp only [List.any_cons, List.any_nil, Bool.or_false, Bool.or_eq_false_iff] at hio'
    obtain ⟨⟨c1, c2, c3⟩, _⟩ := hio'
    obtain ⟨os, ρ1, e1, p⟩ := psr_sr p
    split at p
    · rename_i ρ2 e2
      obtain ⟨o, u, w, rfl, rfl⟩ := lets3 e2
      refine ⟨false, Hs, ρ, fp, S, _, ρ1, e1, fun vs Hs1 H1 fp1 f m r ow => ?_⟩
      cases r with
      | cons r1 r d1 =>
        cases r with
        | cons r2 r d2 =>
          cases r with
          | cons r3 r d3 =>
            cases r
            refine ⟨_, _, _, rfl, ?_⟩
            obtain ⟨fp2, m2, k2⟩ := (Mo.s (io := io) m).let r1 (fun b hb => ow b (.inl hb)) c1
            obtain ⟨fp3, m3, k3⟩ := m2.let r2 (k2 _ (fun b hb hb' => d1 b hb' (.inl hb)) fun b hb => ow b (.inr (.inl hb))) c2
            obtain ⟨fp4, m4, _⟩ := m3.let r3 (k3 _ (fun b hb hb' => d2 b hb' (.inl hb)) (k2 _ (fun b hb hb' => d1 b hb' (.inr (.inl hb))) fun b hb => ow b (.inr (.inr (.inl hb))))) c3
            exact p _ _ _ _ m4
    · exact p.elim
end
end Dv
set_option Elab.async false
set_option linter.all false
set_option maxRecDepth 100000
set_option maxHeartbeats 1000000
/-! Part I: statements that change a list; loops. -/
namespace Dv
open PySem PySem.Spec PyProof.Rows L2

section
variable {X : Cx} {fa : Nat → Addr}
theorem op_aug (op : Op) : OpR X (inplaceOp (opP op)) (r2 (ct X fa) (aug2 op)) := by
  intro pins s σ H x y v u Q I rx ry ⟨Hs, ox, oy, fx, fy, o, sb, hx, hy, hb, q⟩
  unfold aug2 at hb
  split at hb
  · cases hb
    rw [hx.int] at rx
    rw [hy.int] at ry
    exact iop_add pins s σ H _ _ v u Q I rx ry ⟨_, _, rfl, rfl, q.d sb (.int _)⟩
  · obtain ⟨h1, rfl⟩ := guardO_some hb
    rw [hx.strV] at rx
    rw [hy.strV] at ry
    exact iop_add_str pins s σ H _ _ v u Q I rx ry ⟨_, _, rfl, rfl, fits_le h1, q.d sb (.str _)⟩
  · cases hb
    rw [hx.int] at rx
    rw [hy.int] at ry
    exact iop_sub pins s σ H _ _ v u Q I rx ry ⟨_, _, rfl, rfl, q.d sb (.int _)⟩
  · obtain ⟨h1, rfl⟩ := guardO_some hb
    rw [hx.int] at rx
    rw [hy.int] at ry
    have h2 := of_decide_eq_true h1
    exact iop_mul pins s σ H _ _ v u Q I rx ry ⟨_, _, rfl, rfl, h2, q.d sb (.int _)⟩
  · cases hb
/-- xs[i], for xs[i] op= e -/
theorem get_list : PGet X (rIxL X.K) := by
  intro pins s σ H o i ov iv Q I ro ri ⟨p, xs, k, z, e1, e2, hq, he, q⟩
  subst e1 e2
  cases ro
  obtain ⟨t, rfl⟩ := ri
  obtain ⟨its, r, pl, hz⟩ := I.list hq
  obtain ⟨j, h1, h2, h3, h4, h5⟩ := atI_get he
  obtain ⟨w, ew, rw'⟩ := r.get h2
  have hl := r.length
  have hn := line63
  by_cases h0 : 0 ≤ k
  · have hj : k.toNat = j := by
      rw [seqIndex_of h0 h5] at h1
      exact Option.some.inj h1
    exact wpAny_getItem_list pl.isList h0 (by omega) (by rw [hj]; simpa using ew) ⟨z, H, I, rw', q⟩
  · have hj : (k + (its.toArray.size : Int)).toNat = j := by
      rw [seqIndex_neg (by omega) h4] at h1
      rw [List.size_toArray, ← hl]
      exact Option.some.inj h1
    exact wpAny_getItem_list_neg pl.isList (by omega) (by rw [List.size_toArray]; omega) (by omega) (by rw [hj]; simpa using ew) ⟨z, H, I, rw', q⟩
end
section
variable {G : Ct} {Hs H Hs1 H1 : Hp} {v : V} {f g : Fp} {xs : List D} {os : List O}
theorem RO.lsI (r : RO G Hs H v (.ls xs) f) : ∃ a vs, v = .ref a ∧ H a = some (.lst vs) ∧ Hs a = none ∧ RDs G Hs vs xs ∧ ∀ b, f b ↔ b = a := by
  cases r with
  | ls e n t => exact ⟨_, _, rfl, e, n, t, fun b => Iff.rfl⟩
theorem RO.nlI (r : RO G Hs H v (.nl os) f) : ∃ a vs g, v = .ref a ∧ H a = some (.lst vs) ∧ Hs a = none ∧ ROs G Hs H vs os g ∧ ¬ g a ∧ ∀ b, f b ↔ (b = a ∨ g b) := by
  cases r with
  | nl e n t nf => exact ⟨_, _, _, rfl, e, n, t, nf, fun b => Iff.rfl⟩
theorem ownI {o : O} (h : o.own = true) (r : RO G Hs H v o f) : ∃ a vs, v = .ref a ∧ H a = some (.lst vs) ∧ f a := by
  cases r with
  | d => cases h
  | ls e n t => exact ⟨_, _, rfl, e, rfl⟩
  | nl e n t nf => exact ⟨_, _, rfl, e, .inl rfl⟩
theorem ROs.setI : ∀ {vs : List V} {os : List O} {v : V} {o : O} {f g : Fp} (j : Nat), ROs G Hs H vs os f → RO G Hs H v o g → (∀ b, f b → ¬ g b) → ∃ f', ROs G Hs H (vs.set j v) (os.set j o) f' ∧ ∀ b, f' b → f b ∨ g b
  | _, _, _, _, _, _, _, .nil, _, _ => ⟨_, .nil, fun _ z => z.elim⟩
  | _, _, _, _, _, _, 0, .cons r t d, r', d' => ⟨_, .cons r' t fun b h1 h2 => d' b (.inr h2) h1, fun b z => z.elim .inr fun z => .inl (.inr z)⟩
  | _, _, _, _, _, _, j + 1, .cons r t d, r', d' => by
    obtain ⟨f', h1, h2⟩ := ROs.setI j t r' fun b z => d' b (.inr z)
    refine ⟨_, .cons r h1 fun b z w => ?_, fun b z => z.elim (fun z => .inl (.inl z)) fun z => (h2 b z).imp .inr id⟩
    rcases h2 b w with w | w
    · exact d b z w
    · exact d' b (.inl z) w
/-- the list at a is written -/
theorem Mo.written {σ : L2.St} {fp fp1 : Nat → Fp} {ρ1 : Env} {io : List Nat} {i : Nat} {o o' : O} {a : Addr} {vs vs' : List V} {f' : Fp} (m : Mo G σ false Hs H fp ρ1 Hs1 H1 fp1) (hi : rd ρ1 i = some o) (hv : σ[i]? = some (some (.ref a))) (ha : fp1 i a) (hH : H1 a = some (.lst vs))
    (r' : RO G Hs1 (L2.upd H1 a (.lst vs')) (.ref a) o' f') (hf : ∀ b, f' b → fp1 i b ∨ g b) (og : Own H fp fp1 g) : MoS G io σ Hs H fp σ (Dv.st ρ1 i (some o')) Hs1 (L2.upd H1 a (.lst vs')) (upf fp1 i f') := by
  have na : Hs1 a = none := (m.st.own ha).2
  refine ⟨⟨fun b u e => ?_, by rw [st_length]; exact m.st.len, fun j u e => ?_, fun j b hb => ?_, fun j k b hjk h1 h2 => ?_⟩, ⟨m.go.ex, fun b u e n => ?_, fun j b hb => ?_, m.go.grow, fun e => nomatch e⟩, fun _ _ => rfl, rfl⟩
  · rw [upd_ne fun z => by rw [z, na] at e; cases e]
    exact m.st.sub b u e
  · rcases rd_st_some e with ⟨rfl, e2⟩ | ⟨hj, e⟩
    · cases e2
      exact ⟨_, hv, r'.fp fun b => by unfold upf; rw [if_pos rfl]⟩
    · obtain ⟨w, h1, r⟩ := m.st.slot j u e
      exact ⟨w, h1, (r.mono (Same.refl _) fun b hb => ⟨upd_ne fun z => m.st.dis j i b hj hb (by rw [z]; exact ha), (r.at_ b hb).2⟩).fp fun b => by unfold upf; rw [if_neg hj]⟩
  · unfold upf at hb
    split at hb
    · rename_i e
      subst e
      exact ⟨o', rd_st_same (rd_lt hi)⟩
    · rename_i hj
      obtain ⟨u, e⟩ := m.st.emp j b hb
      exact ⟨u, by rw [rd_st_ne hj]; exact e⟩
  · unfold upf at h1 h2
    have key : ∀ {k : Nat}, k ≠ i → f' b → fp1 k b → False := fun {k} hk z w => by
      rcases hf b z with z | z
      · exact m.st.dis k i b hk w z
      · exact (og b z).1 k w
    split at h1 <;> split at h2
    · rename_i e1 e2
      exact hjk (e1.trans e2.symm)
    · rename_i e1 e2
      exact key e2 h1 h2
    · rename_i e1 e2
      exact key e1 h2 h1
    · exact m.st.dis j k b hjk h1 h2
  · have hb : b ≠ a := fun z => by
      subst z
      rcases m.go.orig i b ha with ⟨j, w⟩ | w
      · exact n j w
      · rw [e] at w; cases w
    rw [upd_ne hb]
    exact m.go.frame b u e n
  · unfold upf at hb
    split at hb
    · rcases hf b hb with z | z
      · exact m.go.orig i b z
      · exact (og b z).2
    · exact m.go.orig j b hb
end
section
variable {X : Cx} {fa : Nat → Addr} {cf : Nat → List O → CR} {e a b ix : Expr} {ee ea eb ei : E} {x : Str} {i : Nat} {pos pos' : Pos} {st : Stmt} {rest sts sts2 : List Stmt} {s r : S}
theorem ss_aug {op : Op} (hN : X.N.Nodup) (hi : X.N[i]? = some x) (hx : Loc X.env.scope x) (hf : X.fn x = true ∨ X.env.scope.names.lookup x = some .local) (he : PE X e (tBv (ct X fa) cf ee)) : PS X (.AugAssign (.Name x pos') (opP op) e pos) (tSt (ct X fa) cf (.aug i op ee)) := by
  refine ps_imp (ps_aug hN hi hx he (op_aug (fa := fa) op) hf) ?_
  rintro Z σ H ⟨io, Hs, ρ, fp, S, p⟩
  rw [evS] at p
  split at p
  · exact p.elim
  · rename_i hio
    split at p
    · rename_i y hy
      obtain ⟨v, hv, rv⟩ := S.slot i _ hy
      obtain ⟨⟨bY, oy⟩, ρ1, e1, p⟩ := psr_sr p
      refine ⟨v, hv, false, Hs, ρ, fp, S, bY, oy, ρ1, e1, fun u Hs1 H1 fp1 f1 m1 r1 w1 => ?_⟩
      split at p
      · rename_i z hz
        have rv' : ∃ f, RO (ct X fa) Hs1 H1 v (.d y) f := by
          generalize fp i = q at rv
          cases rv with
          | d r => exact ⟨_, .d (r.mono m1.go.ex)⟩
        obtain ⟨f0, rv'⟩ := rv'
        refine ⟨Hs1, _, _, f0, f1, _, m1.st.sub, rv', r1, hz, fun w Hs' H' f' xt rw' n => ?_⟩
        have m2 := m1.xt xt
        obtain ⟨fp2, m3, _⟩ := (Mo.s (io := io) m2).let rw' (rw'.own_leaf rfl) (not_true hio)
        exact p _ _ _ _ m3
      · exact p.elim
    · exact p.elim
/-- a slot with a list of one's own -/
theorem own_slot {G : Ct} {Hs H : Hp} {σ : L2.St} {ρ : Env} {fp : Nat → Fp} (S : Stt G Hs H σ ρ fp) (h : ownAt ρ i = true) : ∃ a vs, σ[i]? = some (some (.ref a)) ∧ H a = some (.lst vs) := by
  unfold ownAt at h
  split at h
  · rename_i o ho
    obtain ⟨v, hv, r⟩ := S.slot i o ho
    obtain ⟨a, vs, rfl, e, _⟩ := ownI h r
    exact ⟨a, vs, hv, e⟩
  · cases h
theorem mutS_some {G : Ct} {io : List Nat} {σ : L2.St} {Hs H : Hp} {fp : Nat → Fp} {ρ : Env} {Z : Ends} {f : O → Option O} (h : PSr G io σ Hs H fp (mutS ρ i f) Z) : ∃ o o', rd ρ i = some o ∧ f o = some o' ∧ PSr G io σ Hs H fp (.nx (Dv.st ρ i (some o'))) Z := by
  unfold mutS at h
  split at h
  · rename_i o ho
    split at h
    · rename_i o' ho'
      exact ⟨o, o', ho, ho', h⟩
    · exact h.elim
  · exact h.elim
theorem app_law {Z : Ends} {σ : L2.St} {H : Hp} (h : tSt (ct X fa) cf (.app i ee) Z σ H) : tDrop (tBM X.K "list" rAppend (tVar i) (tCons (tV (ct X fa) cf ee) tNil)) Z σ H := by
  obtain ⟨io, Hs, ρ, fp, S, p⟩ := h
  rw [evS] at p
  split at p
  · rename_i how
    obtain ⟨a, vs0, hv, hH0⟩ := own_slot S how
    obtain ⟨x, ρ1, e1, p⟩ := psr_sr p
    obtain ⟨o, o', ho, ha, p⟩ := mutS_some p
    refine ⟨_, hv, .inl ⟨rfl, vs0, .of hH0⟩, false, Hs, ρ, fp, S, x, ρ1, e1, fun y Hs1 H1 fp1 f1 m1 r1 ow1 => ?_⟩
    show rAppend (.ref a) [y] H1 fun _ H2 => Z.nx σ H2
    unfold appTo at ha
    split at ha
    · split at ha
      · rename_i xs hz
        cases ha
        obtain ⟨k1, k2⟩ := m1.frozen r1 ow1
        obtain ⟨v, hv', r⟩ := k2.st.slot i _ ho
        rw [hv] at hv'
        cases hv'
        obtain ⟨a', vs, ea, hH, hn, t, hf⟩ := r.lsI
        cases ea
        have z := fits_le hz
        refine ⟨a, vs, y, rfl, rfl, hH, by rw [t.length]; omega, p _ _ _ _ (k2.written (g := fun _ => False) (f' := fun b => b = a) ho hv ((hf a).mpr rfl) hH (.ls upd_same hn (t.append (.cons k1 .nil))) (fun b hb => .inl ((hf b).mpr hb)) own_none)⟩
      · cases ha
    · split at ha
      · rename_i os hz
        cases ha
        obtain ⟨v, hv', r⟩ := m1.st.slot i _ ho
        rw [hv] at hv'
        cases hv'
        obtain ⟨a', vs, g, ea, hH, hn, t, na, hf⟩ := r.nlI
        cases ea
        have z := fits_le hz
        have fi : ∀ b, fp1 i b → ¬ f1 b := fun b hb hb' => (ow1 b hb').1 i hb
        have naf : ¬ f1 a := fi a ((hf a).mpr (.inl rfl))
        have t' : ROs (ct X fa) Hs1 (L2.upd H1 a (.lst (vs ++ [y]))) vs os g := t.mono (Same.refl _) fun b hb => ⟨upd_ne fun z => na (by rw [← z]; exact hb), (t.at_ b hb).2⟩
        have r1' : RO (ct X fa) Hs1 (L2.upd H1 a (.lst (vs ++ [y]))) y x f1 := r1.mono (Same.refl _) fun b hb => ⟨upd_ne fun z => naf (by rw [← z]; exact hb), (r1.at_ b hb).2⟩
        have t2 := ROs.snoc t' r1' fun b hb => fi b ((hf b).mpr (.inr hb))
        refine ⟨a, vs, y, rfl, rfl, hH, by rw [t.length]; omega, p _ _ _ _ (m1.written (g := f1) ho hv ((hf a).mpr (.inl rfl)) hH (.nl upd_same hn t2 fun z => z.elim na naf) (fun b hb => ?_) ow1)⟩
        rcases hb with rfl | hb | hb
        · exact .inl ((hf b).mpr (.inl rfl))
        · exact .inl ((hf b).mpr (.inr hb))
        · exact .inr hb
      · cases ha
    · cases ha
  · exact p.elim
theorem one_star {es : List Expr} {pos : Pos} (he : starEach [e] X.env = (false, eval e X.env) :: starEach [] X.env) : ((backTo pos (starEach [e] X.env)).all (fun x => !x.1) && (backToKw pos (keywordEach [] X.env)).all (fun x => x.1.isSome)
      && decide ([e].length + ([] : List Keyword).length + (if ([] : List Keyword).isEmpty then 0 else 1) < 30)) = true := by
  rw [he]
  rfl
theorem ss_app {p1 p2 : Pos} (hN : X.N[i]? = some x) (hv : Vis X.env.scope x) (h1 : (x == ("__debug__" : Str)) = false) (h2 : (x == ("__classdict__" : Str)) = false) (he : PE X e (tBv (ct X fa) cf ee)) (hs : starEach [e] X.env = (false, eval e X.env) :: starEach [] X.env) (hl : (p1.endLine == p2.line) = true) :
    PS X (.Expr (.Call (.Attribute (.Name x pos') "append" p1) [e] [] p2) pos) (tSt (ct X fa) cf (.app i ee)) :=
  ps_imp (ps_expr (pe_bm PySem.F.plainAttrs_list PySem.F.slot_list_append PySem.F.type_list_append mt_append (pe_var hN hv h1 h2) (pa_cons (sv_V he) pa_nil hs) rfl (one_star (es := []) hs) hl hs rfl) rfl) fun _ _ _ h => app_law h
theorem ext_law {Z : Ends} {σ : L2.St} {H : Hp} (h : tSt (ct X fa) cf (.ext i ee) Z σ H) : tDrop (tBM X.K "list" rExtend (tVar i) (tCons (tV (ct X fa) cf ee) tNil)) Z σ H := by
  obtain ⟨io, Hs, ρ, fp, S, p⟩ := h
  rw [evS] at p
  split at p
  · rename_i how
    obtain ⟨a, vs0, hv, hH0⟩ := own_slot S how
    obtain ⟨x, ρ1, e1, p⟩ := psr_sr p
    obtain ⟨o, o', ho, ha, p⟩ := mutS_some p
    refine ⟨_, hv, .inl ⟨rfl, vs0, .of hH0⟩, false, Hs, ρ, fp, S, x, ρ1, e1, fun y Hs1 H1 fp1 f1 m1 r1 ow1 => ?_⟩
    show rExtend (.ref a) [y] H1 fun _ H2 => Z.nx σ H2
    unfold extTo at ha
    split at ha
    · split at ha
      · rename_i xs ys hz
        cases ha
        obtain ⟨v, hv', r⟩ := m1.st.slot i _ ho
        rw [hv] at hv'
        cases hv'
        obtain ⟨a', vs, ea, hH, hn, t, hf⟩ := r.lsI
        cases ea
        obtain ⟨b', us, rfl, hB, hnB, tB, hfB⟩ := r1.lsI
        have z := fits_le hz
        exact ⟨a, b', vs, us, rfl, rfl, hH, hB, by rw [t.length, tB.length]; exact z, p _ _ _ _ (m1.written (g := fun _ => False) (f' := fun b => b = a) ho hv ((hf a).mpr rfl) hH (.ls upd_same hn (t.append tB)) (fun b hb => .inl ((hf b).mpr hb)) own_none)⟩
      · cases ha
    · cases ha
  · exact p.elim
theorem ss_ext {p1 p2 : Pos} (hN : X.N[i]? = some x) (hv : Vis X.env.scope x) (h1 : (x == ("__debug__" : Str)) = false) (h2 : (x == ("__classdict__" : Str)) = false) (he : PE X e (tBv (ct X fa) cf ee)) (hs : starEach [e] X.env = (false, eval e X.env) :: starEach [] X.env) (hl : (p1.endLine == p2.line) = true) :
    PS X (.Expr (.Call (.Attribute (.Name x pos') "extend" p1) [e] [] p2) pos) (tSt (ct X fa) cf (.ext i ee)) :=
  ps_imp (ps_expr (pe_bm PySem.F.plainAttrs_list PySem.F.slot_list_extend PySem.F.type_list_extend mt_extend (pe_var hN hv h1 h2) (pa_cons (sv_V he) pa_nil hs) rfl (one_star (es := []) hs) hl hs rfl) rfl) fun _ _ _ h => ext_law h
/-- x[ix] = e, the list written -/
theorem setAt_some {o k y o' : O} (h : setAt o k y = some o') : ∃ n, k = .d (.int n) ∧ ((∃ xs j, o = .ls xs ∧ L2.ixN xs.length n = some j ∧ o' = .ls (xs.set j (frz y))) ∨ ∃ os j, o = .nl os ∧ L2.ixN os.length n = some j ∧ o' = .nl (os.set j y)) := by
  unfold setAt at h
  split at h
  · obtain ⟨j, e, rfl⟩ := Option.map_eq_some_iff.mp h
    exact ⟨_, rfl, .inl ⟨_, j, rfl, e, rfl⟩⟩
  · obtain ⟨j, e, rfl⟩ := Option.map_eq_some_iff.mp h
    exact ⟨_, rfl, .inr ⟨_, j, rfl, e, rfl⟩⟩
  · cases h
theorem set_at {Z : Ends} {σ : L2.St} {io : List Nat} {Hs H Hs1 H1 : Hp} {fp fp1 : Nat → Fp} {ρ1 : Env} {av : Addr} {kv y : V} {o o' k z : O} {fk f1 : Fp} (hv : σ[i]? = some (some (.ref av))) (m1 : Mo (ct X fa) σ false Hs H fp ρ1 Hs1 H1 fp1) (rk : RO (ct X fa) Hs1 H1 kv k fk) (r1 : RO (ct X fa) Hs1 H1 y z f1) (ow1 : Own H fp fp1 f1)
    (ho : rd ρ1 i = some o) (ha : setAt o k z = some o') (p : PSr (ct X fa) io σ Hs H fp (.nx (Dv.st ρ1 i (some o'))) Z) : rSetL (.ref av) kv y H1 fun H2 => Z.nx σ H2 := by
  obtain ⟨n, rfl, ⟨xs, j, rfl, hj, rfl⟩ | ⟨os, j, rfl, hj, rfl⟩⟩ := setAt_some ha
  · obtain ⟨k1, k2⟩ := m1.frozen r1 ow1
    obtain ⟨v, hv', r⟩ := k2.st.slot i _ ho
    rw [hv] at hv'
    cases hv'
    obtain ⟨a', vs, ea, hH, hn, t, hf⟩ := r.lsI
    cases ea
    exact ⟨av, vs, n, j, rfl, rk.int, hH, by rw [t.length]; exact hj, p _ _ _ _ (k2.written (g := fun _ => False) (f' := fun b => b = av) ho hv ((hf av).mpr rfl) hH (.ls upd_same hn (t.set j k1)) (fun b hb => .inl ((hf b).mpr hb)) own_none)⟩
  · obtain ⟨v, hv', r⟩ := m1.st.slot i _ ho
    rw [hv] at hv'
    cases hv'
    obtain ⟨a', vs, g, ea, hH, hn, t, na, hf⟩ := r.nlI
    cases ea
    have fi : ∀ b, fp1 i b → ¬ f1 b := fun b hb hb' => (ow1 b hb').1 i hb
    have naf : ¬ f1 av := fi av ((hf av).mpr (.inl rfl))
    have t' : ROs (ct X fa) Hs1 (L2.upd H1 av (.lst (vs.set j y))) vs os g := t.mono (Same.refl _) fun b hb => ⟨upd_ne fun z => na (by rw [← z]; exact hb), (t.at_ b hb).2⟩
    have r1' : RO (ct X fa) Hs1 (L2.upd H1 av (.lst (vs.set j y))) y z f1 := r1.mono (Same.refl _) fun b hb => ⟨upd_ne fun z => naf (by rw [← z]; exact hb), (r1.at_ b hb).2⟩
    obtain ⟨f', t2, hf'⟩ := ROs.setI j t' r1' fun b hb => fi b ((hf b).mpr (.inr hb))
    have na' : ¬ f' av := fun z => (hf' av z).elim na naf
    refine ⟨av, vs, n, j, rfl, rk.int, hH, by rw [t.length]; exact hj, p _ _ _ _ (m1.written (g := f1) ho hv ((hf av).mpr (.inl rfl)) hH (.nl upd_same hn t2 na') (fun b hb => ?_) ow1)⟩
    rcases hb with rfl | hb
    · exact .inl ((hf b).mpr (.inl rfl))
    · exact (hf' b hb).imp (fun z => (hf b).mpr (.inr z)) id
theorem setix_law {Z : Ends} {σ : L2.St} {H : Hp} (h : tSt (ct X fa) cf (.setix i ei ee) Z σ H) : tAsg (tV (ct X fa) cf ee) (gSub (tVar i) (tBv (ct X fa) cf ei) rSetL) Z σ H := by
  obtain ⟨io, Hs, ρ, fp, S, p⟩ := h
  rw [evS] at p
  split at p
  · rename_i how
    obtain ⟨a, vs0, hv, hH0⟩ := own_slot S how
    obtain ⟨x, ρ1, e1, p⟩ := psr_sr p
    obtain ⟨⟨bk, k⟩, ρ2, e2, p⟩ := psr_sr p
    obtain ⟨o, o', ho, ha, p⟩ := mutS_some p
    refine ⟨false, Hs, ρ, fp, S, x, ρ1, e1, fun y Hs1 H1 fp1 f1 m1 r1 ow1 => ⟨_, hv, true, Hs1, ρ1, fp1, m1.st, bk, k, ρ2, e2, fun kv Hs2 H2 fp2 fk m2 rk wk => ?_⟩⟩
    exact set_at hv (m1.then m2 fun e => nomatch e) rk (r1.held (fun c hc => (ow1 c hc).1) m2.go) (Own.held r1 ow1 m2.go) ho ha p
  · exact p.elim
theorem swaps_sub {o ix : Expr} {p : Pos} {l : Nat} : swapsWithSole [.Subscript o ix p] e l X.env = pure false := by cases e <;> rfl
theorem stores_sub {o ix : Expr} {p : Pos} : swappedStores [.Subscript o ix p] e X.env = pure none := by cases e <;> rfl
def noslice : Expr → Bool
  | .Slice .. => false
  | _ => true
theorem ss_setix {p1 : Pos} (hN : X.N[i]? = some x) (hv : Vis X.env.scope x) (h1 : (x == ("__debug__" : Str)) = false) (h2 : (x == ("__classdict__" : Str)) = false) (he : PE X e (tBv (ct X fa) cf ee)) (hi : PE X ix (tBv (ct X fa) cf ei)) (hx : noslice ix = true) :
    PS X (.Assign [.Subscript (.Name x pos') ix p1] e pos) (tSt (ct X fa) cf (.setix i ei ee)) :=
  ps_imp (ps_asg (sv_V he) (pg_sub (pe_var hN hv h1 h2) hi set_list (by cases ix <;> first | (cases hx; done) | (intro _; rfl))) swaps_sub stores_sub rfl) fun _ _ _ h => setix_law h
theorem augix_law {op : Op} {Z : Ends} {σ : L2.St} {H : Hp} (h : tSt (ct X fa) cf (.augix i ei op ee) Z σ H) : tAugS (tVar i) (tBv (ct X fa) cf ei) (tBv (ct X fa) cf ee) (rIxL X.K) (r2 (ct X fa) (aug2 op)) rSetL Z σ H := by
  obtain ⟨io, Hs, ρ, fp, S, p⟩ := h
  rw [evS] at p
  split at p
  · rename_i how
    obtain ⟨a, vs0, hv, hH0⟩ := own_slot S how
    obtain ⟨⟨bk, k⟩, ρ1, e1, p⟩ := psr_sr p
    refine ⟨_, hv, true, Hs, ρ, fp, S, bk, k, ρ1, e1, fun kv Hs1 H1 fp1 fk m1 rk wk => ?_⟩
    split at p
    · rename_i o ho
      split at p
      · rename_i old hit
        obtain ⟨⟨bY, oy⟩, ρ2, e2, p⟩ := psr_sr p
        split at p
        · rename_i new hn
          obtain ⟨o2, o', ho2, ha, p⟩ := mutS_some p
          obtain ⟨vs, n, ov, ek, hH, hat, rold⟩ : ∃ vs n ov, kv = .int n ∧ H1 a = some (.lst vs) ∧ L2.atI vs n = some ov ∧ RD (ct X fa) Hs1 ov old := by
            obtain ⟨v, hv', r⟩ := m1.st.slot i o ho
            rw [hv] at hv'
            cases hv'
            unfold getAt at hit
            split at hit
            · rename_i hk
              obtain ⟨a', vs, ea, hH, hn, t, _⟩ := r.lsI
              cases ea
              obtain ⟨ov, h1, h2⟩ := t.atI hit
              exact ⟨vs, _, ov, asI_view rk (by rw [show k = _ from hk]; rfl), hH, h1, h2⟩
            · rename_i hk
              obtain ⟨u, hu, hl⟩ := Option.bind_eq_some_iff.mp hit
              obtain ⟨a', vs, g, ea, hH, hn, t, _, _⟩ := r.nlI
              cases ea
              obtain ⟨ov, g', h1, h2, _⟩ := t.atI hu
              cases h2 with
              | d r => cases hl; exact ⟨vs, _, ov, asI_view rk (by rw [show k = _ from hk]; rfl), hH, h1, r⟩
              | ls => cases hl
              | nl => cases hl
            · cases hit
          refine ⟨a, vs, n, ov, rfl, ek, .of hH, hat, true, Hs1, ρ1, fp1, m1.st, bY, oy, ρ2, e2, fun u Hs2 H2 fp2 f2 m2 r2 w2 => ⟨Hs2, _, _, _, f2, _, m2.st.sub, .d (rold.mono m2.go.ex), r2, hn, fun w Hs' H' f' xt rw' _ => ?_⟩⟩
          have m : Mo (ct X fa) σ false Hs H fp ρ2 Hs' H' fp2 := ⟨((m1.then m2 id).xt xt).st, (((m1.then m2 id).xt xt).go).weak fun e => nomatch e⟩
          obtain ⟨rk', _⟩ := Mo.carry (ro := true) (b := bk) ⟨m2.st, m2.go.weak fun _ => rfl⟩ rk wk
          exact set_at hv m (rk'.xt xt) rw' (rw'.own_leaf rfl) ho2 ha p
        · exact p.elim
      · exact p.elim
    · exact p.elim
  · exact p.elim
theorem ss_augix {op : Op} {p1 : Pos} (hN : X.N[i]? = some x) (hv : Vis X.env.scope x) (h1 : (x == ("__debug__" : Str)) = false) (h2 : (x == ("__classdict__" : Str)) = false) (he : PE X e (tBv (ct X fa) cf ee)) (hi : PE X ix (tBv (ct X fa) cf ei)) (hx : noslice ix = true) :
    PS X (.AugAssign (.Subscript (.Name x pos') ix p1) (opP op) e pos) (tSt (ct X fa) cf (.augix i ei op ee)) :=
  ps_imp (ps_augS (pe_var hN hv h1 h2) hi get_list he (op_aug (fa := fa) op) set_list (by cases ix <;> first | (cases hx; done) | (intros; rfl))) fun _ _ _ h => augix_law h

/-! ### loops -/
theorem for_law {g : Tg} {src : E} {body : S} {Z : Ends} {σ : L2.St} {H : Hp} (h : tSt (ct X fa) cf (.for_ g src body) Z σ H) : tFor (tI (ct X fa) cf src) (tTg (ct X fa) g) (tSt (ct X fa) cf body) Z σ H := by
  obtain ⟨io, Hs, ρ, fp, S, p⟩ := h
  rw [evS] at p
  obtain ⟨s, ρ1, e1, p⟩ := psr_sr p
  split at p
  · exact p.elim
  · rename_i hio
    refine ⟨false, Hs, ρ, fp, S, s, ρ1, e1, fun J Hs1 H1 fp1 f m1 wk hf hl => ?_⟩
    generalize hstep : (fun (x : D) (ρ : Env) => match put g x ρ with
        | some ρ2 => evS cf body (s.lent ++ io) ρ2
        | none => SR.bad) = step at p
    obtain ⟨FI, hFI⟩ : ∃ FI : Nat → L2.St → Hp → Prop, FI = fun i σ' H' => ∃ Hs' ρ' fp', Stt (ct X fa) Hs' H' σ' ρ' fp' ∧ Go false Hs1 H1 (offs fp1 s.lent) Hs' H' fp' ∧ (∀ j ∈ s.lent ++ io, σ'[j]? = σ[j]?) ∧ σ'.length = σ.length ∧
        PSr (ct X fa) io σ Hs H fp ((forGo step (s.items.drop i) ρ').env fun ρ' => back ρ1 ρ' s.lent) Z := ⟨_, rfl⟩
    -- at an end
    have fin : ∀ {σ3 : L2.St} {Hs3 H3 : Hp} {ρ3 : Env} {fp3 : Nat → Fp}, Stt (ct X fa) Hs3 H3 σ3 ρ3 fp3 → Go false Hs1 H1 (offs fp1 s.lent) Hs3 H3 fp3 → (∀ j ∈ s.lent ++ io, σ3[j]? = σ[j]?) → σ3.length = σ.length →
        MoS (ct X fa) io σ Hs H fp σ3 (back ρ1 ρ3 s.lent) Hs3 H3 (backO s.lent ρ1.length fp1 fp3) := fun {σ3 Hs3 H3 ρ3 fp3} S3 g3 k3 l3 => by
      have mB := unwipe (σ2 := σ3) (ρE := ρ3) m1.st g3 S3 (fun _ _ => rfl) l3 (fun i hi => k3 i (List.mem_append_left _ hi)) fun _ _ => rfl
      exact ⟨mB.st, m1.go.trans m1.st mB.go id, fun i hi => k3 i (List.mem_append_right _ hi), l3⟩
    refine ⟨fun i m σ' H' => m = s.items.length - i ∧ i ≤ s.items.length ∧ FI i σ' H', ⟨s.items.length, by simp, Nat.zero_le _, ?_⟩, ?_⟩
    · rw [hFI]
      exact ⟨Hs1, _, _, stt_wipe m1.st But.refl, Go.refl, fun _ _ => rfl, rfl, p⟩
    · rintro i m σ' H' ⟨rfl, hi, q⟩
      rw [hFI] at q
      obtain ⟨Hs', ρ', fp', S', g', k', l', rest⟩ := q
      have sta : Sta Hs1 H1 f Hs' H' := ⟨g'.ex, S'.sub, fun b hb => by
        cases q : H1 b with
        | none => exact absurd q (hf b hb).1
        | some u => exact g'.frame b u q fun j hj => hj.1 (hl b j hb hj.2)⟩
      by_cases hlt : i < s.items.length
      · refine .inr ⟨wk.goes i Hs' H' hlt sta, FI (i + 1), fun σ2 H2 p2 => ⟨s.items.length - (i + 1), by omega, rfl, hlt, p2⟩, fun v H2 y => ?_⟩
        obtain ⟨Hs2, x, ex, xt, rx⟩ := wk.yields i Hs' H' v H2 hlt sta y
        have hdrop : s.items.drop i = x :: s.items.drop (i + 1) := by
          rw [List.drop_eq_getElem_cons hlt]
          rw [List.getElem?_eq_getElem hlt] at ex
          rw [Option.some.inj ex]
        rw [hdrop] at rest
        unfold forGo at rest
        rw [← hstep] at rest
        simp only at rest
        cases hp : put g x ρ' with
        | none => rw [hp] at rest; exact rest.elim
        | some ρ2 =>
          rw [hp] at rest
          simp only at rest
          rw [hstep] at rest
          refine ⟨Hs2, ρ', fp', x, ρ2, S'.xt xt, rx, hp, fun σ2 b2 S2 => ⟨s.lent ++ io, Hs2, ρ2, _, S2, ?_⟩⟩
          have g2 : Go false Hs1 H1 (offs fp1 s.lent) Hs2 H2 (offs fp' (slots g)) := (g'.trans S' (xt.go (ro := true)) fun _ => rfl).off fun e => nomatch e
          have notg : ∀ j ∈ s.lent ++ io, j ∉ slots g := fun j hj z => hio (by rw [List.any_eq_true]; exact ⟨j, z, List.contains_iff_mem.mpr hj⟩)
          have k2 : ∀ j ∈ s.lent ++ io, σ2[j]? = σ[j]? := fun j hj => (b2.same j (notg j hj)).trans (k' j hj)
          have l2 : σ2.length = σ.length := b2.len.trans l'
          have nextT : ∀ {ρ3 : Env}, PSr (ct X fa) io σ Hs H fp ((forGo step (s.items.drop (i + 1)) ρ3).env fun ρ' => back ρ1 ρ' s.lent) Z → ∀ σ3 Hs3 H3 fp3, MoS (ct X fa) (s.lent ++ io) σ2 Hs2 H2 (offs fp' (slots g)) σ3 ρ3 Hs3 H3 fp3 → FI (i + 1) σ3 H3 := fun {ρ3} pr σ3 Hs3 H3 fp3 m3 => by
            rw [hFI]
            exact ⟨Hs3, ρ3, fp3, m3.st, g2.trans S2 m3.go id, fun j hj => (m3.io j hj).trans (k2 j hj), m3.len.trans l2, pr⟩
          cases hb : evS cf body (s.lent ++ io) ρ2 with
          | nx ρ3 =>
            rw [hb] at rest
            exact nextT rest
          | ct ρ3 =>
            rw [hb] at rest
            exact nextT rest
          | bk ρ3 =>
            rw [hb] at rest
            exact fun σ3 Hs3 H3 fp3 m3 => rest _ _ _ _ (fin m3.st (g2.trans S2 m3.go id) (fun j hj => (m3.io j hj).trans (k2 j hj)) (m3.len.trans l2))
          | rt o ρ3 =>
            rw [hb] at rest
            refine fun v σ3 Hs3 H3 fp3 f3 m3 r3 ow3 => rest v _ _ _ _ f3 (fin m3.st (g2.trans S2 m3.go id) (fun j hj => (m3.io j hj).trans (k2 j hj)) (m3.len.trans l2)) r3 (own_from m1.go ?_)
            have ow := own_from g2 ow3
            intro b hb
            refine ⟨fun j hj => ?_, (ow b hb).2.imp (fun ⟨j, z⟩ => ⟨j, z.2⟩) id⟩
            rcases hj with ⟨hj1, hj2⟩ | ⟨_, _, hj2⟩
            · rcases (ow b hb).2 with ⟨l, hl1, hl2⟩ | w
              · by_cases e : j = l
                · subst e; exact hl1 hj1
                · exact m1.st.dis j l b e hj2 hl2
              · obtain ⟨⟨_, e⟩, _⟩ := m1.st.own hj2
                rw [e] at w; cases w
            · exact (ow b hb).1 j hj2
          | ex => rw [hb] at rest; exact rest
          | bad => rw [hb] at rest; exact rest
      · have hin : i = s.items.length := by omega
        subst hin
        refine .inl ⟨wk.stops Hs' H' sta, ?_⟩
        rw [List.drop_length] at rest
        exact rest _ _ _ _ (fin S' g' k' l')
theorem ss_for {iter tg : Expr} {body : List Stmt} {g : Tg} {src : E} {sb : S} (hx : X.xe = fun _ _ => False) (hc : X.calm = true) (hi : PI X tg iter (tI (ct X fa) cf src)) (hg : PG X tg (tTg (ct X fa) g)) (hb : PSs X body (tSt (ct X fa) cf sb)) (hs : ∀ x, foldedSetIterable iter X.env x = pure x) :
    PS X (.For tg iter body [] pos) (tSt (ct X fa) cf (.for_ g src sb)) :=
  ps_imp (ps_for (by rw [hx]; exact PassesOwn.never) hc hi hg hb hs) fun _ _ _ h => for_law h
theorem whl_law {c : E} {body : S} {Z : Ends} {σ : L2.St} {H : Hp} (h : tSt (ct X fa) cf (.whl c body) Z σ H) : tWhile (tTs (ct X fa) cf c) (tSt (ct X fa) cf body) Z σ H := by
  obtain ⟨io, Hs, ρ, fp, S, p⟩ := h
  rw [evS] at p
  refine ⟨fun m σ' H' => ∃ Hs' ρ' fp', MoS (ct X fa) io σ Hs H fp σ' ρ' Hs' H' fp' ∧ PSr (ct X fa) io σ Hs H fp (whGo (evT cf c false) (evS cf body io) m ρ') Z, ⟨mostTurns, Hs, ρ, fp, MoS.refl S, p⟩, ?_⟩
  rintro m σ' H' ⟨Hs', ρ', fp', m1, q⟩
  cases m with
  | zero => exact q.elim
  | succ m =>
    unfold whGo at q
    obtain ⟨t, ρ2, e2, q⟩ := psr_sr q
    refine ⟨false, Hs', ρ', fp', m1.st, t, ρ2, e2, fun Hs2 H2 fp2 m2 => ?_⟩
    have m12 := m1.then (Mo.s m2)
    cases t with
    | false =>
      rw [if_neg Bool.false_ne_true] at q
      dsimp only
      rw [if_neg Bool.false_ne_true]
      exact q _ _ _ _ m12
    | true =>
      rw [if_pos rfl] at q
      dsimp only
      rw [if_pos rfl]
      refine ⟨fun σ3 H3 => ∃ Hs' ρ' fp', MoS (ct X fa) io σ Hs H fp σ3 ρ' Hs' H3 fp' ∧ PSr (ct X fa) io σ Hs H fp (whGo (evT cf c false) (evS cf body io) m ρ') Z, fun σ3 H3 z => ⟨m, Nat.lt_succ_self _, z⟩, io, Hs2, ρ2, fp2, m2.st, ?_⟩
      cases hb : evS cf body io ρ2 with
      | nx ρ3 =>
        rw [hb] at q
        exact fun σ3 Hs3 H3 fp3 m3 => ⟨Hs3, ρ3, fp3, m12.then m3, q⟩
      | ct ρ3 =>
        rw [hb] at q
        exact fun σ3 Hs3 H3 fp3 m3 => ⟨Hs3, ρ3, fp3, m12.then m3, q⟩
      | bk ρ3 =>
        rw [hb] at q
        exact fun σ3 Hs3 H3 fp3 m3 => q _ _ _ _ (m12.then m3)
      | rt o ρ3 =>
        rw [hb] at q
        exact fun v σ3 Hs3 H3 fp3 f3 m3 r3 ow3 => q v _ _ _ _ f3 (m12.then m3) r3 (own_from m12.go ow3)
      | ex => rw [hb] at q; exact q
      | bad => rw [hb] at q; exact q
theorem ss_whl {c : Expr} {body : List Stmt} {ec : E} {sb : S} (hx : X.xe = fun _ _ => False) (hc : PT X c (tTs (ct X fa) cf ec)) (hb : PSs X body (tSt (ct X fa) cf sb)) : PS X (.While c body [] pos) (tSt (ct X fa) cf (.whl ec sb)) :=
  ps_imp (ps_while (by rw [hx]; exact PassesOwn.never) hc hb) fun _ _ _ h => whl_law h
end
end Dv
set_option Elab.async false
set_option linter.all false
set_option maxRecDepth 100000
set_option maxHeartbeats 2000000
/-! Part J: the look at a def, and that it suffices. -/
namespace Dv
open PySem PySem.Spec PyProof.Rows L2

/-- id, name, how many parameters -/
abbrev Tab := List (Nat × Str × Nat)
def bNames : List Str := ["len", "tuple", "list", "abs", "int", "str", "repr", "all", "any", "max", "min", "sorted", "sum", "isinstance", "enumerate", "zip", "range", "bool"]
/-- a scope that runs; the cells that may be set there -/
structure Sco where
  s : Scope
  fn : Str → Bool
abbrev Sco.names (c : Sco) : List (Str × NameKind) := c.s.names
def relC (scope : Scope) (sc : Sco) : Sco := ⟨relS scope sc.s, fun x => scope.names.lookup x == some .cell⟩
/-- what is fixed in a def's body, or in a block there -/
structure Fc (tb : Tab) (fa : Nat → Addr) (cf : Nat → List O → CR) (k : Nat) (X : Cx) (N : List Str) (sc : Sco) : Prop where
  calm : X.calm = true
  names : X.N = N
  scope : X.env.scope = sc.s
  fun_ : sc.s.kind = .function
  cel : ∀ x, sc.fn x = true → X.fn x = true
  nd : N.Nodup
  guards : X.A.guards = some []
  room : Room k X.A
  xe : X.xe = fun _ _ => False
  blt : ∀ x ∈ bNames, X.mg x = none
  defs : ∀ f x np, tb.lookup f = some (x, np) → X.mg x = some (.ref (fa f)) ∧ PySem.W.keepIn X.K (.ref (fa f)) = true ∧ ∃ fd ps, ps.length = np ∧ Binds X.K fd ps [] ∧ FG X.prog X.w X.K X.mg X.base k (fa f) fd ps (spF (ct X fa) (cf f) np)

/-! ### looks -/
def globS (sc : Sco) (x : Str) : Bool := decide (sc.names.lookup x = some .globalImplicit)
def visS (sc : Sco) (x : Str) : Bool := match sc.names.lookup x with
  | some .local => true
  | some .cell => true
  | some .free => true
  | _ => false
def locS (sc : Sco) (x : Str) : Bool := decide (sc.names.lookup x = some .local)
def celS (sc : Sco) (x : Str) : Bool := decide (sc.names.lookup x = some .cell) && sc.fn x
def okN (x : Str) : Bool := !(x == ("__debug__" : Str)) && !(x == ("__classdict__" : Str))
def nostar : Expr → Bool
  | .Starred .. => false
  | _ => true
def noset : Expr → Bool
  | .Set .. => false
  | _ => true
def notup : Expr → Bool
  | .Tuple .. => false
  | _ => true
def nocomp : Expr → Bool
  | .ListComp .. => false
  | .SetComp .. => false
  | .DictComp .. => false
  | _ => true
def plainT : Expr → Bool
  | .IfExp .. => false
  | .NamedExpr .. => false
  | .Compare .. => false
  | .BoolOp .. => false
  | .UnaryOp .Not _ _ => false
  | _ => true
def isNo : E → Bool
  | .no => true
  | _ => false
def isIo : E → Bool
  | .io _ => true
  | _ => false
def isVr : E → Bool
  | .v _ => true
  | _ => false
def var (N : List Str) (sc : Sco) (i : Nat) (x : Str) : Bool := decide (N[i]? = some x) && visS sc x && okN x
def lclS (N : List Str) (sc : Sco) (i : Nat) (x : Str) : Bool := decide (N[i]? = some x) && locS sc x
def lcl (N : List Str) (sc : Sco) (i : Nat) (x : Str) : Bool := decide (N[i]? = some x) && (locS sc x || celS sc x)
def ownL (N : List Str) (own : List Nat) : List (Str × Nat) := own.map fun i => (N.getD i "", i)
mutual
def chkG (N : List Str) (sc : Sco) : Tg → Expr → Bool
  | .n i, .Name x _ => lcl N sc i x
  | .tc a r, .Tuple es _ _ => chkGs N sc (.tc a r) es
  | _, _ => false
def chkGs (N : List Str) (sc : Sco) : Tg → List Expr → Bool
  | .t0, [] => true
  | .tc a r, p :: ps => nostar p && chkG N sc a p && chkGs N sc r ps
  | _, _ => false
end
section
variable (tb : Tab) (N : List Str)
mutual
def chkB : Nat → Sco → E → Expr → Bool
  | 0, _, _, _ => false
  | n + 1, sc, e, p => match e with
    | .v i => (match p with
      | .Name x _ => var N sc i x
      | _ => false)
    | .c x => (match p with
      | .Constant c _ _ => (match x, c with
        | .none, .none => true
        | .bool b, .bool b' => b == b'
        | .int i, .int j => decide (i = j)
        | .str y, .str z => decide (y = z)
        | _, _ => false)
      | _ => false)
    | .tup el => (match p with
      | .Tuple es _ _ => chkL n sc el es && decide (lenE el ≤ 1000)
      | _ => false)
    | .lst el => (match p with
      | .List es _ => chkL n sc el es && decide (lenE el ≤ 1000)
      | _ => false)
    | .bin op a b => (match p with
      | .BinOp q o r _ => decide (opP op = o) && chkB n sc a q && chkB n sc b r
      | _ => false)
    | .cmp op a b => (match p with
      | .Compare q [o] [r] _ => decide (cmP op = o) && chkB n sc a q && chkB n sc b r && noset r
      | _ => false)
    | .chn op op' a b c => (match p with
      | .Compare q [o, o'] [r, t] _ => decide (cmP op = o) && decide (cmP op' = o') && chkB n sc a q && chkB n sc b r && chkB n sc c t && noset r && noset t
      | _ => false)
    | .not a => (match p with
      | .UnaryOp .Not q _ => chkB n sc a q
      | _ => false)
    | .and a b => (match p with
      | .BoolOp .And [q, r] _ => chkB n sc a q && chkB n sc b r
      | .BoolOp .And (q :: r :: t :: rest) pos => chkB n sc a q && chkB n sc b (.BoolOp .And (r :: t :: rest) pos)
      | _ => false)
    | .or a b => (match p with
      | .BoolOp .Or [q, r] _ => chkB n sc a q && chkB n sc b r
      | .BoolOp .Or (q :: r :: t :: rest) pos => chkB n sc a q && chkB n sc b (.BoolOp .Or (r :: t :: rest) pos)
      | _ => false)
    | .neg a => (match p with
      | .UnaryOp .USub q _ => chkB n sc a q
      | _ => false)
    | .ite c a b => (match p with
      | .IfExp t q r _ => chkT n sc c t && chkB n sc a q && chkB n sc b r
      | _ => false)
    | .ix a b => (match p with
      | .Subscript q r _ => chkB n sc a q && chkB n sc b r && noslice r
      | _ => false)
    | .sl a lo hi => (match p with
      | .Subscript q (.Slice l h none _) _ => chkB n sc a q && chkO n sc lo l && chkO n sc hi h
      | _ => false)
    | .rev a => (match p with
      | .Subscript q (.Slice none none (some (.UnaryOp .USub (.Constant (.int i) _ _) _)) _) _ => chkB n sc a q && decide (i = 1)
      | _ => false)
    | .call f el => (match p with
      | .Call (.Name x _) es [] _ => (match tb.lookup f with
        | some (y, np) => decide (x = y) && globS sc x && okN x && chkA n sc el es && decide (lenE el = np)
        | none => false)
      | _ => false)
    | .blt b el => (match p with
      | .Call (.Name x _) (q :: es) [] _ => decide (x = blN b) && globS sc x && chkL n sc el (q :: es)
      | _ => false)
    | .isi a ty => (match p with
      | .Call (.Name x _) [q, .Name y _] [] _ => decide (x = "isinstance") && globS sc "isinstance" && decide (y = Str.ofString (tyP ty)) && globS sc y && chkB n sc a q && nostar q
      | _ => false)
    | .lc own g src cond elt => (match p with
      | .ListComp q [⟨tg, iter, ifs, 0⟩] scope _ => blkC N sc.s scope (ownL N own) && chkI n sc tg src iter && noset iter && (slots g).all (own.contains ·) && chkG N (relC scope sc) g tg &&
          chkC n (relC scope sc) cond ifs && chkB n (relC scope sc) elt q
      | _ => false)
    | .lc2 own g src cond vs g' src' cond' elt => (match p with
      | .ListComp q [⟨tg, iter, ifs, 0⟩, ⟨tg1, iter1, ifs1, 0⟩] scope _ => blkC N sc.s scope (ownL N own) && chkI n sc tg src iter && noset iter && (slots g).all (own.contains ·) && chkG N (relC scope sc) g tg &&
          chkC n (relC scope sc) cond ifs && chkB n (relC scope sc) elt q && chkI n (relC scope sc) tg1 src' iter1 && noset iter1 && (slots g').all (vs.contains ·) && vs.all (own.contains ·) && chkG N (relC scope sc) g' tg1 && chkC n (relC scope sc) cond' ifs1
      | _ => false)
    | _ => false
def chkL : Nat → Sco → E → List Expr → Bool
  | 0, _, _, _ => false
  | n + 1, sc, e, ps => match e with
    | .nil => ps.isEmpty
    | .cons a r => (match ps with
      | p :: ps => nostar p && chkB n sc a p && chkL n sc r ps
      | [] => false)
    | _ => false
def chkA : Nat → Sco → E → List Expr → Bool
  | 0, _, _, _ => false
  | n + 1, sc, e, ps => match e with
    | .nil => ps.isEmpty
    | .cons a r => (match ps with
      | p :: ps => nostar p && (match a with
        | .io i => (match p with
          | .Name x _ => var N sc i x
          | _ => false)
        | a => !isIo a && chkB n sc a p) && chkA n sc r ps
      | [] => false)
    | _ => false
def chkT : Nat → Sco → E → Expr → Bool
  | 0, _, _, _ => false
  | n + 1, sc, e, p => match p with
    | .UnaryOp .Not q _ => (match e with
      | .not a => chkT n sc a q
      | _ => false)
    | .BoolOp .And [q, r] _ => (match e with
      | .and a b => chkT n sc a q && chkT n sc b r
      | _ => false)
    | .BoolOp .And (q :: r :: t :: rest) pos => (match e with
      | .and a b => chkT n sc a q && chkT n sc b (.BoolOp .And (r :: t :: rest) pos)
      | _ => false)
    | .BoolOp .Or [q, r] _ => (match e with
      | .or a b => chkT n sc a q && chkT n sc b r
      | _ => false)
    | .BoolOp .Or (q :: r :: t :: rest) pos => (match e with
      | .or a b => chkT n sc a q && chkT n sc b (.BoolOp .Or (r :: t :: rest) pos)
      | _ => false)
    | .Compare q [o] [r] _ => (match e with
      | .cmp op a b => decide (cmP op = o) && chkB n sc a q && chkB n sc b r && noset r
      | _ => false)
    | .Compare q [o, o'] [r, t] _ => (match e with
      | .chn op op' a b c => decide (cmP op = o) && decide (cmP op' = o') && chkB n sc a q && chkB n sc b r && chkB n sc c t && noset r && noset t
      | _ => false)
    | p => plainT p && (match e with
      | .not _ => false
      | .and _ _ => false
      | .or _ _ => false
      | .cmp _ _ _ => false
      | .chn _ _ _ _ _ => false
      | .no => false
      | e => chkB n sc e p)
def chkC : Nat → Sco → E → List Expr → Bool
  | 0, _, _, _ => false
  | n + 1, sc, e, ps => match ps with
    | [] => isNo e
    | [p] => chkT n sc e p
    | _ => false
def chkO : Nat → Sco → E → Option Expr → Bool
  | 0, _, _, _ => false
  | n + 1, sc, e, p => match p with
    | none => isNo e
    | some p => !isNo e && chkB n sc e p
def chkI : Nat → Sco → Expr → E → Expr → Bool
  | 0, _, _, _, _ => false
  | n + 1, sc, tg, e, p => match e with
    | .rng1 a => (match p with
      | .Call (.Name x _) [q] [] _ => decide (x = "range") && globS sc "range" && nostar q && chkB n sc a q
      | _ => false)
    | .rng2 a b => (match p with
      | .Call (.Name x _) [q, r] [] _ => decide (x = "range") && globS sc "range" && nostar q && nostar r && chkB n sc a q && chkB n sc b r
      | _ => false)
    | .enum a => (match p, tg with
      | .Call (.Name x _) [q] [] _, .Tuple .. => decide (x = "enumerate") && globS sc "enumerate" && nostar q && chkB n sc a q
      | _, _ => false)
    | .zip a b => (match p, tg with
      | .Call (.Name x _) [q, r] [] _, .Tuple .. => decide (x = "zip") && globS sc "zip" && nostar q && nostar r && chkB n sc a q && chkB n sc b r
      | _, _ => false)
    | e => chkB n sc e p
end
end

/-! ### it suffices -/
theorem star_ok {p : Expr} (h : nostar p = true) (es : List Expr) (env : PySem.Env) : starEach (p :: es) env = (false, eval p env) :: starEach es env := by
  cases p <;> first | rfl | cases h
theorem folded_ok {p : Expr} (h : noset p = true) (env : PySem.Env) (x : Value) : foldedSetIterable p env x = pure x := by
  cases p <;> first | rfl | cases h
theorem mark_ok {p : Expr} (h : noset p = true) (op : CmpOp) : behindInMarks op p = false := by
  cases p <;> first | rfl | cases h
theorem ix_ok {p : Expr} (h : noslice p = true) : PlainIx p := by
  intro o i
  cases p <;> first | rfl | cases h
theorem isTrue_ok {p : Expr} (h : plainT p = true) (env : PySem.Env) (whole : Sem Value) : isTrue p env whole = (do let v ← whole; standAt p.pos; holding [v] (truthy v)) := by
  cases p with
  | UnaryOp op q pos => cases op <;> first | rfl | cases h
  | Compare => cases h
  | BoolOp => cases h
  | IfExp => cases h
  | NamedExpr => cases h
  | _ => rfl
theorem comp_ok {p : Expr} (h : nocomp p = true) (t : Option Expr) (l : Nat) (env : PySem.Env) : swapsWith p t l env = pure false := by
  cases p <;> first | rfl | cases h
section
variable {tb : Tab} {fa : Nat → Addr} {cf : Nat → List O → CR} {k : Nat} {X : Cx} {N : List Str} {sc : Sco}
theorem Fc.glob (F : Fc tb fa cf k X N sc) {x : Str} (h : globS sc x = true) : Gl X x := by
  show X.env.scope.names.lookup x = _
  rw [F.scope]
  exact of_decide_eq_true h
theorem Fc.vis (F : Fc tb fa cf k X N sc) {x : Str} (h : visS sc x = true) : Vis X.env.scope x := by
  rw [F.scope]
  unfold visS at h
  split at h
  · rename_i e; exact .inl e
  · rename_i e; exact .inr (.inl e)
  · rename_i e; exact .inr (.inr e)
  · cases h
theorem okN_ok {x : Str} (h : okN x = true) : (x == ("__debug__" : Str)) = false ∧ (x == ("__classdict__" : Str)) = false := by
  unfold okN at h
  simp only [Bool.and_eq_true, Bool.not_eq_true'] at h
  exact h
theorem Fc.var (F : Fc tb fa cf k X N sc) {i : Nat} {x : Str} (h : var N sc i x = true) : X.N[i]? = some x ∧ Vis X.env.scope x ∧ (x == ("__debug__" : Str)) = false ∧ (x == ("__classdict__" : Str)) = false := by
  unfold Dv.var at h
  simp only [Bool.and_eq_true, decide_eq_true_eq] at h
  obtain ⟨⟨h1, h2⟩, h3⟩ := h
  rw [F.names]
  exact ⟨h1, F.vis h2, okN_ok h3⟩
theorem Fc.loc (F : Fc tb fa cf k X N sc) {x : Str} (h : locS sc x = true) : X.env.scope.names.lookup x = some .local := by
  rw [F.scope]
  exact of_decide_eq_true h
theorem Fc.lclS (F : Fc tb fa cf k X N sc) {i : Nat} {x : Str} (h : lclS N sc i x = true) : X.N[i]? = some x ∧ X.env.scope.names.lookup x = some .local := by
  unfold Dv.lclS at h
  simp only [Bool.and_eq_true, decide_eq_true_eq] at h
  rw [F.names]
  exact ⟨h.1, F.loc h.2⟩
theorem Fc.lcl (F : Fc tb fa cf k X N sc) {i : Nat} {x : Str} (h : lcl N sc i x = true) : X.N[i]? = some x ∧ Loc X.env.scope x ∧ (X.fn x = true ∨ X.env.scope.names.lookup x = some .local) := by
  unfold Dv.lcl at h
  simp only [Bool.and_eq_true, Bool.or_eq_true, decide_eq_true_eq] at h
  rw [F.names]
  refine ⟨h.1, ?_⟩
  rcases h.2 with q | q
  · exact ⟨.inl (F.loc q), .inr (F.loc q)⟩
  · unfold celS at q
    obtain ⟨q1, q2⟩ := Bool.and_eq_true_iff.mp q
    exact ⟨.inr (by rw [F.scope]; exact of_decide_eq_true q1), .inl (F.cel x q2)⟩
theorem Fc.units (F : Fc tb fa cf k X N sc) : X.A.units + 65 < cLine := by
  have := F.room.un
  omega
theorem Fc.blk (F : Fc tb fa cf k X N sc) {scope : Scope} (hk : scope.kind = .function) (s : Shared) (H : Hp) (C : Addr) (cl : List (Str × Addr)) (fp : List Addr) : Fc tb fa cf k (X.blk s H scope (compEnvC scope cl C X.env) fp) N (relC scope sc) := by
  refine ⟨F.calm, F.names, ?_, hk, fun _ h => h, F.nd, F.guards, F.room, rfl, F.blt, F.defs⟩
  show relS scope X.env.scope = _
  rw [F.scope]
  rfl
theorem Fc.nd' (F : Fc tb fa cf k X N sc) : X.N.Nodup := by rw [F.names]; exact F.nd
mutual
theorem chkG_ok (F : Fc tb fa cf k X N sc) : ∀ (g : Tg) (p : Expr), chkG N sc g p = true → PG X p (tTg (ct X fa) g)
  | .n i, p, h => by
    unfold chkG at h
    split at h
    · rename_i e
      cases e
      obtain ⟨h1, h2, h3⟩ := F.lcl h
      exact sg_n F.nd' h1 h2 h3
    · rename_i e; cases e
    · cases h
  | .tc a r, p, h => by
    unfold chkG at h
    split at h
    · rename_i e; cases e
    · rename_i e
      cases e
      obtain ⟨h1, h2, h3⟩ := chkGs_ok F (.tc a r) _ h
      exact sg_tup F.calm h1 h2 h3
    · cases h
  | .t0, p, h => by
    unfold chkG at h
    cases h
theorem chkGs_ok (F : Fc tb fa cf k X N sc) : ∀ (g : Tg) (ps : List Expr), chkGs N sc g ps = true → PGs X ps (tTgs (ct X fa) g) ∧ (assignEach ps X.env).length = tcLen g ∧ (assignEach ps X.env).findIdx? (·.1) = none
  | .n i, ps, h => by
    unfold chkGs at h
    cases h
  | .t0, ps, h => by
    unfold chkGs at h
    split at h
    · exact ⟨sgs_nil, rfl, rfl⟩
    · rename_i e; cases e
    · cases h
  | .tc a r, ps, h => by
    unfold chkGs at h
    split at h
    · rename_i e; cases e
    · rename_i e
      cases e
      simp only [Bool.and_eq_true] at h
      obtain ⟨⟨h1, h2⟩, h3⟩ := h
      obtain ⟨k1, k2, k3⟩ := chkGs_ok F r _ h3
      have q : ∀ (p : Expr) (ps : List Expr), nostar p = true → assignEach (p :: ps) X.env = (false, assign p X.env) :: assignEach ps X.env := fun p ps hp => by
        cases p <;> first | rfl | cases hp
      refine ⟨sgs_cons (chkG_ok F a _ h2) k1 (by rw [q _ _ h1]; rfl), by rw [q _ _ h1, List.length_cons, k2]; rfl, ?_⟩
      rw [q _ _ h1, List.findIdx?_cons]
      simp [k3]
    · cases h
end
end
end Dv
set_option Elab.async false
set_option linter.all false
set_option maxRecDepth 100000
set_option maxHeartbeats 4000000
/-! Part J2: looked at, an expression does what the evaluator says. -/
namespace Dv
open PySem PySem.Spec PyProof.Rows L2

def isBo : Expr → Bool
  | .BoolOp .. => true
  | _ => false
structure Snd (tb : Tab) (N : List Str) (fa : Nat → Addr) (cf : Nat → List O → CR) (k n : Nat) : Prop where
  b : ∀ X sc, Fc tb fa cf k X N sc → ∀ e p, chkB tb N n sc e p = true → PE X p (tBv (ct X fa) cf e)
  l : ∀ X sc, Fc tb fa cf k X N sc → ∀ e ps, chkL tb N n sc e ps = true → PA X ps (tL (ct X fa) cf e) ∧ PA X ps (tW (ct X fa) cf e) ∧ (starEach ps X.env).any (·.1) = false
  a : ∀ X sc, Fc tb fa cf k X N sc → ∀ e ps, chkA tb N n sc e ps = true → PA X ps (tAr (ct X fa) cf e) ∧ (starEach ps X.env).any (·.1) = false
  t : ∀ X sc, Fc tb fa cf k X N sc → ∀ e p, chkT tb N n sc e p = true → PT X p (tTs (ct X fa) cf e) ∧ (isBo p = true → PW X p (tTs (ct X fa) cf e))
  c : ∀ X sc, Fc tb fa cf k X N sc → ∀ e ps, chkC tb N n sc e ps = true → PTs X ps (tTs (ct X fa) cf e)
  o : ∀ X sc, Fc tb fa cf k X N sc → ∀ e p, chkO tb N n sc e p = true → PO X p (tOp1 (ct X fa) cf e)
  i : ∀ X sc, Fc tb fa cf k X N sc → ∀ tg e p, chkI tb N n sc tg e p = true → PI X tg p (tI (ct X fa) cf e)
section
variable {tb : Tab} {N : List Str} {fa : Nat → Addr} {cf : Nat → List O → CR} {k n : Nat}
theorem ba2 {a b : Bool} (h : (a && b) = true) : a = true ∧ b = true := Bool.and_eq_true_iff.mp h
theorem last2 {p q : Expr} (o o' : CmpOp) (h : noset q = true) : lastMarks [o, o'] [p, q] = false := mark_ok h o'
theorem snd_l (ih : Snd tb N fa cf k n) {X : Cx} {sc : Sco} (F : Fc tb fa cf k X N sc) {e : E} {ps : List Expr} (h : chkL tb N (n + 1) sc e ps = true) : PA X ps (tL (ct X fa) cf e) ∧ PA X ps (tW (ct X fa) cf e) ∧ (starEach ps X.env).any (·.1) = false := by
  rw [chkL.eq_def] at h
  dsimp only at h
  split at h
  · cases ps with
    | nil => exact ⟨sl_nil, sw_nil, rfl⟩
    | cons => cases h
  · split at h
    · obtain ⟨h, h3⟩ := ba2 h
      obtain ⟨h1, h2⟩ := ba2 h
      obtain ⟨k1, k2, k3⟩ := ih.l X sc F _ _ h3
      have hp := ih.b X sc F _ _ h2
      exact ⟨sl_cons hp k1 (star_ok h1 _ _), sw_cons hp k2 (star_ok h1 _ _), by rw [star_ok h1]; simpa using k3⟩
    · cases h
  · cases h
theorem snd_a (ih : Snd tb N fa cf k n) {X : Cx} {sc : Sco} (F : Fc tb fa cf k X N sc) {e : E} {ps : List Expr} (h : chkA tb N (n + 1) sc e ps = true) : PA X ps (tAr (ct X fa) cf e) ∧ (starEach ps X.env).any (·.1) = false := by
  rw [chkA.eq_def] at h
  dsimp only at h
  split at h
  · cases ps with
    | nil => exact ⟨sa_nil, rfl⟩
    | cons => cases h
  · split at h
    · obtain ⟨h, h3⟩ := ba2 h
      obtain ⟨h1, h2⟩ := ba2 h
      obtain ⟨k1, k3⟩ := ih.a X sc F _ _ h3
      refine ⟨?_, by rw [star_ok h1]; simpa using k3⟩
      split at h2
      · split at h2
        · obtain ⟨v1, v2, v3, v4⟩ := F.var h2
          exact sa_io (pe_var v1 v2 v3 v4) k1 (star_ok h1 _ _)
        · cases h2
      · obtain ⟨h2, h4⟩ := ba2 h2
        exact sa_val (fun i e => by subst e; cases h2) (ih.b X sc F _ _ h4) k1 (star_ok h1 _ _)
    · cases h
  · cases h
theorem snd_o (ih : Snd tb N fa cf k n) {X : Cx} {sc : Sco} (F : Fc tb fa cf k X N sc) {e : E} {p : Option Expr} (h : chkO tb N (n + 1) sc e p = true) : PO X p (tOp1 (ct X fa) cf e) := by
  rw [chkO.eq_def] at h
  dsimp only at h
  split at h
  · cases e <;> first | exact so_no | cases h
  · obtain ⟨h1, h2⟩ := ba2 h
    exact so_some (fun z => by subst z; cases h1) (ih.b X sc F _ _ h2)
theorem snd_c (ih : Snd tb N fa cf k n) {X : Cx} {sc : Sco} (F : Fc tb fa cf k X N sc) {e : E} {ps : List Expr} (h : chkC tb N (n + 1) sc e ps = true) : PTs X ps (tTs (ct X fa) cf e) := by
  rw [chkC.eq_def] at h
  dsimp only at h
  split at h
  · cases e <;> first | exact sts_nil | cases h
  · exact pts_one (ih.t X sc F _ _ h).1
  · cases h
def isSrc : E → Bool
  | .rng1 _ => true
  | .rng2 _ _ => true
  | .enum _ => true
  | .zip _ _ => true
  | _ => false
theorem evI_plain {e : E} (h : isSrc e = false) (ro : Bool) (ρ : Env) : evI cf e ro ρ = (evB cf e ro ρ).bind fun x ρ' => srcOf (itemsOf x) (lentOf e x.1) ρ' :=
  evI.eq_5 cf e ro ρ (fun _ z => by subst z; cases h) (fun _ _ z => by subst z; cases h) (fun _ z => by subst z; cases h) (fun _ _ z => by subst z; cases h)
def isTst : E → Bool
  | .not _ => true
  | .and _ _ => true
  | .or _ _ => true
  | .cmp _ _ _ => true
  | .chn _ _ _ _ _ => true
  | .no => true
  | _ => false
theorem evT_plain {e : E} (h : isTst e = false) (ro : Bool) (ρ : Env) : evT cf e ro ρ = (evB cf e ro ρ).bind fun x ρ' => lift (truth x.2) ρ' :=
  evT.eq_7 cf e ro ρ (fun _ z => by subst z; cases h) (fun _ _ z => by subst z; cases h) (fun _ _ z => by subst z; cases h) (fun _ _ _ z => by subst z; cases h) (fun _ _ _ _ _ z => by subst z; cases h) (fun z => by subst z; cases h)
theorem snd_i (ih : Snd tb N fa cf k n) {X : Cx} {sc : Sco} (F : Fc tb fa cf k X N sc) {tg : Expr} {e : E} {p : Expr} (h : chkI tb N (n + 1) sc tg e p = true) : PI X tg p (tI (ct X fa) cf e) := by
  rw [chkI.eq_def] at h
  dsimp only at h
  split at h
  · split at h
    · obtain ⟨h, h4⟩ := ba2 h
      obtain ⟨h, h3⟩ := ba2 h
      obtain ⟨h1, h2⟩ := ba2 h
      have e := of_decide_eq_true h1
      subst e
      exact si_rng1 (F.glob h2) (F.blt _ (by simp [bNames])) (ih.b X sc F _ _ h4) (fun es => star_ok h3 es _)
    · cases h
  · split at h
    · obtain ⟨h, h6⟩ := ba2 h
      obtain ⟨h, h5⟩ := ba2 h
      obtain ⟨h, h4⟩ := ba2 h
      obtain ⟨h, h3⟩ := ba2 h
      obtain ⟨h1, h2⟩ := ba2 h
      have e := of_decide_eq_true h1
      subst e
      exact si_rng2 (F.glob h2) (F.blt _ (by simp [bNames])) (ih.b X sc F _ _ h5) (ih.b X sc F _ _ h6) (fun es => star_ok h3 es _) (fun es => star_ok h4 es _)
    · cases h
  · split at h
    · obtain ⟨h, h4⟩ := ba2 h
      obtain ⟨h, h3⟩ := ba2 h
      obtain ⟨h1, h2⟩ := ba2 h
      have e := of_decide_eq_true h1
      subst e
      exact si_enum (F.glob h2) (F.blt _ (by simp [bNames])) (ih.b X sc F _ _ h4) (fun es => star_ok h3 es _)
    · cases h
  · split at h
    · obtain ⟨h, h6⟩ := ba2 h
      obtain ⟨h, h5⟩ := ba2 h
      obtain ⟨h, h4⟩ := ba2 h
      obtain ⟨h, h3⟩ := ba2 h
      obtain ⟨h1, h2⟩ := ba2 h
      have e := of_decide_eq_true h1
      subst e
      exact si_zip (F.glob h2) (F.blt _ (by simp [bNames])) (ih.b X sc F _ _ h5) (ih.b X sc F _ _ h6) (fun es => star_ok h3 es _) (fun es => star_ok h4 es _)
    · cases h
  · rename_i n1 n2 n3 n4
    have hs : isSrc e = false := by
      cases e <;> first
        | rfl
        | exact absurd rfl (n1 _)
        | exact absurd rfl (n2 _ _)
        | exact absurd rfl (n3 _)
        | exact absurd rfl (n4 _ _)
    exact si_seq (ih.b X sc F _ _ h) (evI_plain hs)
theorem snd_t (ih : Snd tb N fa cf k n) {X : Cx} {sc : Sco} (F : Fc tb fa cf k X N sc) {e : E} {p : Expr} (h : chkT tb N (n + 1) sc e p = true) : PT X p (tTs (ct X fa) cf e) ∧ (isBo p = true → PW X p (tTs (ct X fa) cf e)) := by
  rw [chkT.eq_def] at h
  dsimp only at h
  split at h
  · split at h
    · exact ⟨st_not (ih.t X sc F _ _ h).1, fun z => by cases z⟩
    · cases h
  · split at h
    · obtain ⟨h1, h2⟩ := ba2 h
      have w := fun pos => sw_and (pos := pos) (ih.t X sc F _ _ h1).1 (pw_and1 (ih.t X sc F _ _ h2).1)
      exact ⟨(w _).pt, fun _ => w _⟩
    · cases h
  · split at h
    · obtain ⟨h1, h2⟩ := ba2 h
      exact ⟨(sw_and (ih.t X sc F _ _ h1).1 ((ih.t X sc F _ _ h2).2 rfl)).pt, fun _ => sw_and (ih.t X sc F _ _ h1).1 ((ih.t X sc F _ _ h2).2 rfl)⟩
    · cases h
  · split at h
    · obtain ⟨h1, h2⟩ := ba2 h
      have w := fun pos => sw_or (pos := pos) (ih.t X sc F _ _ h1).1 (pw_or1 (ih.t X sc F _ _ h2).1)
      exact ⟨(w _).pt, fun _ => w _⟩
    · cases h
  · split at h
    · obtain ⟨h1, h2⟩ := ba2 h
      exact ⟨(sw_or (ih.t X sc F _ _ h1).1 ((ih.t X sc F _ _ h2).2 rfl)).pt, fun _ => sw_or (ih.t X sc F _ _ h1).1 ((ih.t X sc F _ _ h2).2 rfl)⟩
    · cases h
  · split at h
    · obtain ⟨h, h4⟩ := ba2 h
      obtain ⟨h, h3⟩ := ba2 h
      obtain ⟨h1, h2⟩ := ba2 h
      have e := of_decide_eq_true h1
      subst e
      exact ⟨st_cmp F.units (ih.b X sc F _ _ h2) (ih.b X sc F _ _ h3) (mark_ok h4 _), fun z => by cases z⟩
    · cases h
  · split at h
    · obtain ⟨h, h7⟩ := ba2 h
      obtain ⟨h, h6⟩ := ba2 h
      obtain ⟨h, h5⟩ := ba2 h
      obtain ⟨h, h4⟩ := ba2 h
      obtain ⟨h, h3⟩ := ba2 h
      obtain ⟨h1, h2⟩ := ba2 h
      have e := of_decide_eq_true h1
      have e' := of_decide_eq_true h2
      subst e e'
      exact ⟨st_chn F.units (ih.b X sc F _ _ h3) (ih.b X sc F _ _ h4) (ih.b X sc F _ _ h5) (last2 _ _ h7), fun z => by cases z⟩
    · cases h
  · obtain ⟨h1, h2⟩ := ba2 h
    have nb : isBo p = true → PW X p (tTs (ct X fa) cf e) := fun z => by
      cases p <;> first | (cases h1; done) | (cases z; done)
    refine ⟨?_, nb⟩
    have key : isTst e = false ∧ chkB tb N n sc e p = true := by
      cases e <;> first
        | (cases h2; done)
        | exact ⟨rfl, h2⟩
    exact st_val (ih.b X sc F _ _ key.2) (isTrue_ok h1 _) (evT_plain key.1)
theorem sv_call {X : Cx} {sc : Sco} (F : Fc tb fa cf k X N sc) {f np : Nat} {x : Str} {el : E} {es : List Expr} {p pos : Pos} (hl : tb.lookup f = some (x, np)) (hg : globS sc x = true) (hx : okN x = true) (ha : PA X es (tAr (ct X fa) cf el)) (hs : chkA tb N n sc el es = true) (hst : (starEach es X.env).any (·.1) = false)
    (hn : lenE el = np) : PE X (.Call (.Name x p) es [] pos) (tBv (ct X fa) cf (.call f el)) := by
  obtain ⟨hm, hk, fd, ps, hps, hb, FF⟩ := F.defs f x np hl
  have len : ∀ ro ρ as ρ', evA cf el ro ρ = .ok as ρ' → as.length = np := fun ro ρ as ρ' h => (evA_len el h).trans hn
  cases es with
  | nil =>
    have h0 : el = .nil := by
      cases n with
      | zero => rw [chkA] at hs; cases hs
      | succ n =>
        rw [chkA.eq_def] at hs
        dsimp only at hs
        split at hs
        · rfl
        · cases hs
        · cases hs
    subst h0
    refine pe_imp (pe_fg0 FF F.room F.guards (F.glob hg) hm hk hb (okN_ok hx).1) ?_
    intro σ H Q h
    have := call_law len h
    obtain ⟨ro, Hs, ρ, fp, S, as, ρ', e, K⟩ := this
    rw [evA] at e
    cases e
    exact K [] _ _ _ (Mo.refl S) .nil
  | cons a es =>
    have h0 : nostar a = true ∧ (starEach es X.env).any (·.1) = false := by
      cases n with
      | zero => rw [chkA] at hs; cases hs
      | succ n =>
        rw [chkA.eq_def] at hs
        dsimp only at hs
        split at hs
        · cases hs
        · obtain ⟨hs, _⟩ := ba2 hs
          obtain ⟨h1, _⟩ := ba2 hs
          rw [star_ok h1] at hst
          exact ⟨h1, by simpa using hst⟩
        · cases hs
    refine pe_imp (pe_fg FF F.room F.guards (F.glob hg) hm hk hb ha (okN_ok hx).1 (star_ok h0.1 _ _) h0.2) ?_
    intro σ H Q h
    exact call_law len h
theorem star_any {q : Expr} {es : List Expr} {env : PySem.Env} (h : (starEach (q :: es) env).any (·.1) = false) : starEach (q :: es) env = (false, eval q env) :: starEach es env ∧ (starEach es env).any (·.1) = false := by
  have hq : nostar q = true := by
    cases q <;> first
      | rfl
      | (simp [starEach] at h)
  rw [star_ok hq] at h
  exact ⟨star_ok hq _ _, by simpa using h⟩
theorem ownL_snd {own : List Nat} : (ownL N own).map (·.2) = own := by
  unfold ownL
  rw [List.map_map]
  exact List.map_id own
theorem own_all {l own : List Nat} (h : l.all (own.contains ·) = true) : ∀ i ∈ l, i ∈ own := fun i hi => List.contains_iff_mem.mp (List.all_eq_true.mp h i hi)
theorem snd_lc (ih : Snd tb N fa cf k n) {X : Cx} {sc : Sco} (F : Fc tb fa cf k X N sc) {own : List Nat} {g : Tg} {src cond elt : E} {q tg iter : Expr} {ifs : List Expr} {scope : Scope} {pos : Pos}
    (h : (blkC N sc.s scope (ownL N own) && chkI tb N n sc tg src iter && noset iter && (slots g).all (own.contains ·) && chkG N (relC scope sc) g tg && chkC tb N n (relC scope sc) cond ifs && chkB tb N n (relC scope sc) elt q) = true) :
    PE X (.ListComp q [⟨tg, iter, ifs, 0⟩] scope pos) (tBv (ct X fa) cf (.lc own g src cond elt)) := by
  obtain ⟨h, h7⟩ := ba2 h
  obtain ⟨h, h6⟩ := ba2 h
  obtain ⟨h, h5⟩ := ba2 h
  obtain ⟨h, h4⟩ := ba2 h
  obtain ⟨h, h3⟩ := ba2 h
  obtain ⟨h1, h2⟩ := ba2 h
  have ok := blkOk_by h1
  refine pe_imp (pe_lc (te := tV (ct X fa) cf elt) (tt := tTs (ct X fa) cf cond) (g := tTg (ct X fa) g) F.calm F.nd' (ih.i X sc F _ _ _ h2) (by rw [F.names, F.scope]; exact ok) (fun s H C cl fp => chkG_ok (F.blk ok.kind s H C cl fp) _ _ h5)
    (fun s H C cl fp => ih.c _ _ (F.blk ok.kind s H C cl fp) _ _ h6) (fun s H C cl fp => sv_V (ih.b _ _ (F.blk ok.kind s H C cl fp) _ _ h7)) (folded_ok h3 _)) ?_
  intro σ H Q h
  rw [ownL_snd]
  exact lc_law (own_all h4) h
theorem snd_lc2 (ih : Snd tb N fa cf k n) {X : Cx} {sc : Sco} (F : Fc tb fa cf k X N sc) {own vs : List Nat} {g g' : Tg} {src cond src' cond' elt : E} {q tg iter tg1 iter1 : Expr} {ifs ifs1 : List Expr} {scope : Scope} {pos : Pos}
    (h : (blkC N sc.s scope (ownL N own) && chkI tb N n sc tg src iter && noset iter && (slots g).all (own.contains ·) && chkG N (relC scope sc) g tg && chkC tb N n (relC scope sc) cond ifs && chkB tb N n (relC scope sc) elt q &&
      chkI tb N n (relC scope sc) tg1 src' iter1 && noset iter1 && (slots g').all (vs.contains ·) && vs.all (own.contains ·) && chkG N (relC scope sc) g' tg1 && chkC tb N n (relC scope sc) cond' ifs1) = true) :
    PE X (.ListComp q [⟨tg, iter, ifs, 0⟩, ⟨tg1, iter1, ifs1, 0⟩] scope pos) (tBv (ct X fa) cf (.lc2 own g src cond vs g' src' cond' elt)) := by
  obtain ⟨h, h13⟩ := ba2 h
  obtain ⟨h, h12⟩ := ba2 h
  obtain ⟨h, h11⟩ := ba2 h
  obtain ⟨h, h10⟩ := ba2 h
  obtain ⟨h, h9⟩ := ba2 h
  obtain ⟨h, h8⟩ := ba2 h
  obtain ⟨h, h7⟩ := ba2 h
  obtain ⟨h, h6⟩ := ba2 h
  obtain ⟨h, h5⟩ := ba2 h
  obtain ⟨h, h4⟩ := ba2 h
  obtain ⟨h, h3⟩ := ba2 h
  obtain ⟨h1, h2⟩ := ba2 h
  have ok := blkOk_by h1
  refine pe_imp (pe_lc2 (te := tV (ct X fa) cf elt) (tt := tTs (ct X fa) cf cond) (g := tTg (ct X fa) g) (tt1 := tTs (ct X fa) cf cond') (g1 := tTg (ct X fa) g') (wi1 := tI (ct X fa) cf src') (vs1 := vs) F.calm F.nd' (ih.i X sc F _ _ _ h2) (by rw [F.names, F.scope]; exact ok) (by rw [ownL_snd]; exact own_all h11) (fun s H C cl fp => chkG_ok (F.blk ok.kind s H C cl fp) _ _ h5)
    (fun s H C cl fp => ih.c _ _ (F.blk ok.kind s H C cl fp) _ _ h6) (fun s H C cl fp => ih.i _ _ (F.blk ok.kind s H C cl fp) _ _ _ h8) (fun s H C cl fp => chkG_ok (F.blk ok.kind s H C cl fp) _ _ h12) (fun s H C cl fp => ih.c _ _ (F.blk ok.kind s H C cl fp) _ _ h13)
    (fun s H C cl fp => sv_V (ih.b _ _ (F.blk ok.kind s H C cl fp) _ _ h7)) (folded_ok h3 _) (fun env => folded_ok h9 env)) ?_
  intro σ H Q h
  rw [ownL_snd]
  exact lc2_law (own_all h4) (own_all h10) (own_all h11) h
theorem snd_b (ih : Snd tb N fa cf k n) {X : Cx} {sc : Sco} (F : Fc tb fa cf k X N sc) {e : E} {p : Expr} (h : chkB tb N (n + 1) sc e p = true) : PE X p (tBv (ct X fa) cf e) := by
  rw [chkB.eq_def] at h
  dsimp only at h
  split at h
  · -- v
    split at h
    · obtain ⟨v1, v2, v3, v4⟩ := F.var h
      exact sv_v v1 v2 v3 v4
    · cases h
  · -- c
    split at h
    · split at h
      · exact sv_c pe_non fun _ => .non
      · have e := eq_of_beq h
        subst e
        exact sv_c L2.pe_bl fun _ => .bl _
      · have e := of_decide_eq_true h
        subst e
        exact sv_c pe_int fun _ => .int _
      · have e := of_decide_eq_true h
        subst e
        exact sv_c pe_str fun _ => .str _
      · cases h
    · cases h
  · -- tup
    split at h
    · obtain ⟨h1, h2⟩ := ba2 h
      have z := of_decide_eq_true h2
      exact sv_tup (ih.l X sc F _ _ h1).1 fun ro ρ os ρ' q => by rw [evL_len _ q, sizeLine_eq]; omega
    · cases h
  · -- lst
    split at h
    · obtain ⟨h1, h2⟩ := ba2 h
      have z := of_decide_eq_true h2
      exact sv_lst (ih.l X sc F _ _ h1).1 fun ro ρ os ρ' q => by rw [evL_len _ q, sizeLine_eq]; omega
    · cases h
  · -- bin
    split at h
    · obtain ⟨h, h3⟩ := ba2 h
      obtain ⟨h1, h2⟩ := ba2 h
      have e := of_decide_eq_true h1
      subst e
      exact sv_bin (ih.b X sc F _ _ h2) (ih.b X sc F _ _ h3)
    · cases h
  · -- cmp
    split at h
    · obtain ⟨h, h4⟩ := ba2 h
      obtain ⟨h, h3⟩ := ba2 h
      obtain ⟨h1, h2⟩ := ba2 h
      have e := of_decide_eq_true h1
      subst e
      exact sv_cmp F.units (ih.b X sc F _ _ h2) (ih.b X sc F _ _ h3) (mark_ok h4 _)
    · cases h
  · -- chn
    split at h
    · obtain ⟨h, h7⟩ := ba2 h
      obtain ⟨h, h6⟩ := ba2 h
      obtain ⟨h, h5⟩ := ba2 h
      obtain ⟨h, h4⟩ := ba2 h
      obtain ⟨h, h3⟩ := ba2 h
      obtain ⟨h1, h2⟩ := ba2 h
      have e := of_decide_eq_true h1
      have e' := of_decide_eq_true h2
      subst e e'
      exact sv_chn F.units (ih.b X sc F _ _ h3) (ih.b X sc F _ _ h4) (ih.b X sc F _ _ h5) (last2 _ _ h7)
    · cases h
  · -- not
    split at h
    · exact sv_not (ih.b X sc F _ _ h)
    · cases h
  · -- and
    split at h
    · obtain ⟨h1, h2⟩ := ba2 h
      exact sv_and (ih.b X sc F _ _ h1) (pe_one (ih.b X sc F _ _ h2))
    · obtain ⟨h1, h2⟩ := ba2 h
      exact sv_and (ih.b X sc F _ _ h1) (ih.b X sc F _ _ h2)
    · cases h
  · -- or
    split at h
    · obtain ⟨h1, h2⟩ := ba2 h
      exact sv_or (ih.b X sc F _ _ h1) (pe_one (ih.b X sc F _ _ h2))
    · obtain ⟨h1, h2⟩ := ba2 h
      exact sv_or (ih.b X sc F _ _ h1) (ih.b X sc F _ _ h2)
    · cases h
  · -- neg
    split at h
    · exact sv_neg (ih.b X sc F _ _ h)
    · cases h
  · -- ite
    split at h
    · obtain ⟨h, h3⟩ := ba2 h
      obtain ⟨h1, h2⟩ := ba2 h
      exact sv_ite (ih.t X sc F _ _ h1).1 (ih.b X sc F _ _ h2) (ih.b X sc F _ _ h3)
    · cases h
  · -- ix
    split at h
    · obtain ⟨h, h3⟩ := ba2 h
      obtain ⟨h1, h2⟩ := ba2 h
      exact sv_ix (ih.b X sc F _ _ h1) (ih.b X sc F _ _ h2) (ix_ok h3)
    · cases h
  · -- sl
    split at h
    · obtain ⟨h, h3⟩ := ba2 h
      obtain ⟨h1, h2⟩ := ba2 h
      exact sv_sl (ih.b X sc F _ _ h1) (ih.o X sc F _ _ h2) (ih.o X sc F _ _ h3)
    · cases h
  · -- rev
    split at h
    · obtain ⟨h1, h2⟩ := ba2 h
      have e := of_decide_eq_true h2
      subst e
      exact sv_rev (ih.b X sc F _ _ h1)
    · cases h
  · -- call
    split at h
    · split at h
      · rename_i hl
        obtain ⟨h, h5⟩ := ba2 h
        obtain ⟨h, h4⟩ := ba2 h
        obtain ⟨h, h3⟩ := ba2 h
        obtain ⟨h1, h2⟩ := ba2 h
        have e := of_decide_eq_true h1
        subst e
        obtain ⟨k1, k2⟩ := ih.a X sc F _ _ h4
        exact sv_call F hl h2 h3 k1 h4 k2 (of_decide_eq_true h5)
      · cases h
    · cases h
  · -- blt
    split at h
    · obtain ⟨h, h3⟩ := ba2 h
      obtain ⟨h1, h2⟩ := ba2 h
      have e := of_decide_eq_true h1
      subst e
      obtain ⟨_, k2, k3⟩ := ih.l X sc F _ _ h3
      obtain ⟨k4, k5⟩ := star_any k3
      exact sv_bl _ F.calm F.guards F.units (F.glob h2) (F.blt _ (by rename Bl => b; cases b <;> simp [bNames, blN])) k2 k4 k5
    · cases h
  · -- isi
    split at h
    · obtain ⟨h, h6⟩ := ba2 h
      obtain ⟨h, h5⟩ := ba2 h
      obtain ⟨h, h4⟩ := ba2 h
      obtain ⟨h, h3⟩ := ba2 h
      obtain ⟨h1, h2⟩ := ba2 h
      have e := of_decide_eq_true h1
      have e' := of_decide_eq_true h3
      subst e e'
      exact sv_isi _ (F.glob h2) (F.blt _ (by simp [bNames])) (F.glob h4) (F.blt _ (by rename Ty => b; cases b <;> simp [bNames, tyP])) (ih.b X sc F _ _ h5) (fun es => star_ok h6 es _)
    · cases h
  · -- lc
    split at h
    · exact snd_lc ih F h
    · cases h
  · -- lc2
    split at h
    · exact snd_lc2 ih F h
    · cases h
  · cases h
theorem sound (tb : Tab) (N : List Str) (fa : Nat → Addr) (cf : Nat → List O → CR) (k : Nat) : ∀ n, Snd tb N fa cf k n
  | 0 => ⟨fun X sc F e p h => by simp [chkB] at h, fun X sc F e p h => by simp [chkL] at h, fun X sc F e p h => by simp [chkA] at h, fun X sc F e p h => by simp [chkT] at h, fun X sc F e p h => by simp [chkC] at h, fun X sc F e p h => by simp [chkO] at h, fun X sc F tg e p h => by simp [chkI] at h⟩
  | n + 1 => have ih := sound tb N fa cf k n
    ⟨fun X sc F e p h => snd_b ih F h, fun X sc F e p h => snd_l ih F h, fun X sc F e p h => snd_a ih F h, fun X sc F e p h => snd_t ih F h, fun X sc F e p h => snd_c ih F h, fun X sc F e p h => snd_o ih F h, fun X sc F tg e p h => snd_i ih F h⟩
end
end Dv
set_option Elab.async false
set_option linter.all false
set_option maxRecDepth 100000
set_option maxHeartbeats 4000000
/-! Part K: looked at, a block does what the evaluator says. -/
namespace Dv
open PySem PySem.Spec PyProof.Rows L2
theorem stores2 {x y : Str} {px py pt pt2 : Pos} {kt k2 : Nat} {a b : Expr} {env : PySem.Env} (hk : env.scope.kind = .function) (hx : env.scope.names.lookup x = some .local) (hy : env.scope.names.lookup y = some .local) (hl : px.line = py.line) (hxy' : (y == x) = false)
    (ha : nostar a = true) (hb : nostar b = true) (h1 : [a, b].all (foldedForSure 8) = false) (h2 : [a, b].all (constantsAlone 8) = false) :
    swappedStores [.Tuple [.Name x px, .Name y py] kt pt] (.Tuple [a, b] k2 pt2) env = pure (some [x, y]) := by
  have hbk : env.blockKind = .function := by unfold Env.blockKind; rw [hk]; rfl
  have kx : env.kindOf x = some .local := hx
  have ky : env.kindOf y = some .local := hy
  have hst : ([a, b].any fun | .Starred .. => true | _ => false) = false := by
    have s1 : ∀ p, nostar p = true → (match p with | .Starred .. => true | _ => false) = false := fun p hp => by cases p <;> first | rfl | (cases hp; done)
    rw [List.any_cons, List.any_cons, List.any_nil, s1 a ha, s1 b hb]; rfl
  unfold swappedStores
  simp only [hbk, h1, h2, List.length_cons, List.length_nil, List.filterMap_cons, List.filterMap_nil, kx, ky, Expr.pos, List.head?_cons, Option.map_some, Option.getD_some, hl]
  have e1 : ∀ n : Nat, (some NameKind.local == some NameKind.local && n == n) = true := fun n => by rw [beq_self_eq_true n]; rfl
  have ed : [x, y].eraseDups = [x, y] := by
    rw [List.eraseDups_cons, List.filter_cons, hxy']
    simp only [Bool.not_false, if_true, List.filter_nil]
    rw [List.eraseDups_cons]
    simp
  simp only [e1, if_true, ed]
  refine (if_neg (by decide)).trans ?_
  refine (if_neg (fun q => absurd (hst.symm.trans q) (by decide))).trans ?_
  refine (if_neg (by simp)).trans ?_
  refine (if_neg (by decide)).trans ?_
  refine (if_neg (by decide)).trans ?_
  rfl
theorem stores3 {x y z : Str} {px py pz pt pt2 : Pos} {kt k2 : Nat} {a b c : Expr} {env : PySem.Env} (hk : env.scope.kind = .function) (hx : env.scope.names.lookup x = some .local) (hy : env.scope.names.lookup y = some .local) (hz : env.scope.names.lookup z = some .local) (hl : px.line = py.line) (hl2 : px.line = pz.line)
    (hxy' : (y == x) = false) (hxz' : (z == x) = false) (hyz' : (z == y) = false)
    (ha : nostar a = true) (hb : nostar b = true) (hc : nostar c = true) (h1 : [a, b, c].all (foldedForSure 8) = false) (h2 : [a, b, c].all (constantsAlone 8) = false) :
    swappedStores [.Tuple [.Name x px, .Name y py, .Name z pz] kt pt] (.Tuple [a, b, c] k2 pt2) env = pure (some [x, y, z]) := by
  have hbk : env.blockKind = .function := by unfold Env.blockKind; rw [hk]; rfl
  have kx : env.kindOf x = some .local := hx
  have ky : env.kindOf y = some .local := hy
  have kz : env.kindOf z = some .local := hz
  have hst : ([a, b, c].any fun | .Starred .. => true | _ => false) = false := by
    have s1 : ∀ p, nostar p = true → (match p with | .Starred .. => true | _ => false) = false := fun p hp => by cases p <;> first | rfl | (cases hp; done)
    rw [List.any_cons, List.any_cons, List.any_cons, List.any_nil, s1 a ha, s1 b hb, s1 c hc]; rfl
  unfold swappedStores
  simp only [hbk, h1, h2, List.length_cons, List.length_nil, List.filterMap_cons, List.filterMap_nil, kx, ky, kz, Expr.pos, List.head?_cons, Option.map_some, Option.getD_some, ← hl, ← hl2]
  have e1 : ∀ n : Nat, (some NameKind.local == some NameKind.local && n == n) = true := fun n => by rw [beq_self_eq_true n]; rfl
  have ed : [x, y, z].eraseDups = [x, y, z] := by
    rw [List.eraseDups_cons, List.filter_cons, hxy', List.filter_cons, hxz']
    simp only [Bool.not_false, if_true, List.filter_nil]
    rw [List.eraseDups_cons, List.filter_cons, hyz']
    simp only [Bool.not_false, if_true, List.filter_nil]
    rw [List.eraseDups_cons]
    simp
  simp only [e1, if_true, ed]
  refine (if_neg (by decide)).trans ?_
  refine (if_neg (fun q => absurd (hst.symm.trans q) (by decide))).trans ?_
  refine (if_neg (by simp)).trans ?_
  refine (if_neg (by decide)).trans ?_
  refine (if_neg (by decide)).trans ?_
  rfl
def fl : Nat := 60
def lcOk (x : Str) (py : Pos) : Expr → Bool
  | .ListComp _ [_] scope pos => (py.line == pos.line) && !(scope.names.any fun (n, k) => n == x && (k == .local || k == .cell))
  | _ => false
def endl (a b : Pos) : Bool := a.endLine == b.line
def swp2 (x y : Str) (px py : Pos) (a b : Expr) : Bool := decide (px.line = py.line) && !(y == x) && nostar a && nostar b && !([a, b].all (foldedForSure 8)) && !([a, b].all (constantsAlone 8))
def swp3 (x y z : Str) (px py pz : Pos) (a b c : Expr) : Bool := decide (px.line = py.line) && decide (px.line = pz.line) && !(y == x) && !(z == x) && !(z == y) && nostar a && nostar b && nostar c && !([a, b, c].all (foldedForSure 8)) && !([a, b, c].all (constantsAlone 8))
section
variable (tb : Tab) (N : List Str) (sc : Sco)
mutual
def chkS : S → Stmt → Bool
  | .set i e, .Assign [.Name x py] p _ => lcl N sc i x && chkB tb N fl sc e p && (nocomp p || (locS sc x && lcOk x py p))
  | .setF i e, .Assign [.Name x _] p _ => lcl N sc i x && chkB tb N fl sc e p && nocomp p
  | .par [i, j] el, .Assign [.Tuple [.Name x px, .Name y py] _ _] (.Tuple [a, b] _ _) _ => lclS N sc i x && lclS N sc j y && decide (i ≠ j) && chkL tb N fl sc el [a, b] && swp2 x y px py a b
  | .par [i, j, k] el, .Assign [.Tuple [.Name x px, .Name y py, .Name z pz] _ _] (.Tuple [a, b, c] _ _) _ => lclS N sc i x && lclS N sc j y && lclS N sc k z && decide (i ≠ j ∧ i ≠ k ∧ j ≠ k) && chkL tb N fl sc el [a, b, c] && swp3 x y z px py pz a b c
  | .unp g e, .Assign [.Tuple ts k tp] p _ => chkG N sc g (.Tuple ts k tp) && chkB tb N fl sc e p && notup p && nocomp p
  | .aug i op e, .AugAssign (.Name x _) o p _ => lcl N sc i x && decide (opP op = o) && chkB tb N fl sc e p
  | .setix i ix e, .Assign [.Subscript (.Name x _) q _] p _ => var N sc i x && chkB tb N fl sc ix q && noslice q && chkB tb N fl sc e p
  | .augix i ix op e, .AugAssign (.Subscript (.Name x _) q _) o p _ => var N sc i x && decide (opP op = o) && chkB tb N fl sc ix q && noslice q && chkB tb N fl sc e p
  | .app i e, .Expr (.Call (.Attribute (.Name x _) m p1) [p] [] p2) _ => var N sc i x && decide (m = "append") && chkB tb N fl sc e p && nostar p && endl p1 p2
  | .ext i e, .Expr (.Call (.Attribute (.Name x _) m p1) [p] [] p2) _ => var N sc i x && decide (m = "extend") && chkB tb N fl sc e p && nostar p && endl p1 p2
  | .ex e, .Expr p _ => chkB tb N fl sc e p && nocomp p
  | .ret (.v i), .Return (some (.Name x _)) _ => var N sc i x
  | .ret e, .Return (some p) _ => !isVr e && chkB tb N fl sc e p
  | .ret0, .Return none _ => true
  | .iff c a b, .If t sts sts2 _ => chkT tb N fl sc c t && chkSs a sts && chkSs b sts2
  | .for_ g src body, .For tg iter sts [] _ => chkI tb N fl sc tg src iter && noset iter && chkG N sc g tg && chkSs body sts
  | .whl c body, .While t sts [] _ => chkT tb N fl sc c t && chkSs body sts
  | .pas, .Pass _ => true
  | .pas, .Expr (.Constant (.str _) _ _) _ => true
  | .brk, .Break _ => true
  | .cnt, .Continue _ => true
  | _, _ => false
def chkSs : S → List Stmt → Bool
  | .nil, [] => true
  | .seq s r, st :: rest => chkS s st && chkSs r rest
  | _, _ => false
end
end
section
variable {tb : Tab} {N : List Str} {fa : Nat → Addr} {cf : Nat → List O → CR} {k : Nat} {X : Cx} {sc : Sco}
theorem nb {b : Bool} (h : (!b) = true) : b = false := by cases b <;> first | rfl | cases h
theorem chk_lc {n : Nat} {e : E} {q : Expr} {gs : Comprehension} {scope : Scope} {pos : Pos} (h : chkB tb N (n + 1) sc e (.ListComp q [gs] scope pos) = true) : ∃ own g src cond elt tg iter ifs, e = .lc own g src cond elt ∧ gs = ⟨tg, iter, ifs, 0⟩ ∧
    (blkC N sc.s scope (ownL N own) && chkI tb N n sc tg src iter && noset iter && (slots g).all (own.contains ·) && chkG N (relC scope sc) g tg && chkC tb N n (relC scope sc) cond ifs && chkB tb N n (relC scope sc) elt q) = true := by
  rw [chkB.eq_def] at h
  dsimp only at h
  split at h <;> first
    | (cases h; done)
    | (split at h <;> first
        | (cases h; done)
        | (rename_i heq; cases heq; done)
        | (rename_i heq; cases heq; exact ⟨_, _, _, _, _, _, _, _, rfl, rfl, h⟩))
theorem tv_lc {own : List Nat} {g : Tg} {src cond elt : E} {σ : L2.St} {H : Hp} {Q : VK} (h : tV (ct X fa) cf (.lc own g src cond elt) σ H Q) : tBv (ct X fa) cf (.lc own g src cond elt) σ H Q := by
  obtain ⟨ro, Hs, ρ, fp, S, o, ρ', ee, K⟩ := h
  rcases asV_ok ee with e | ⟨i, o0, ρ0, e, _⟩
  · exact ⟨ro, Hs, ρ, fp, S, false, o, ρ', e, fun v Hs' H' fp' f m r w => K v Hs' H' fp' f m r w.vw⟩
  · cases e
theorem set_lc (F : Fc tb fa cf k X N sc) {i : Nat} {x : Str} {py pos' : Pos} {e : E} {p : Expr} (hi : X.N[i]? = some x) (hx : X.env.scope.names.lookup x = some .local) (h : chkB tb N fl sc e p = true) (hl : lcOk x py p = true) : PS X (.Assign [.Name x py] p pos') (tSt (ct X fa) cf (.set i e)) := by
  have h0 : chkB tb N (59 + 1) sc e p = true := h
  have ih := sound tb N fa cf k 59
  unfold lcOk at hl
  split at hl
  · obtain ⟨own, g, src, cond, elt, tg, iter, ifs, rfl, rfl, h⟩ := chk_lc h0
    obtain ⟨l1, l2⟩ := ba2 hl
    obtain ⟨h, h7⟩ := ba2 h
    obtain ⟨h, h6⟩ := ba2 h
    obtain ⟨h, h5⟩ := ba2 h
    obtain ⟨h, h4⟩ := ba2 h
    obtain ⟨h, h3⟩ := ba2 h
    obtain ⟨h1, h2⟩ := ba2 h
    have ok := blkOk_by h1
    refine ps_imp (ps_setLc (te := tV (ct X fa) cf elt) (tt := tTs (ct X fa) cf cond) (g := tTg (ct X fa) g) F.calm F.nd' hi hx (sw_true (by rw [F.scope]; exact F.fun_) hx l1 (nb l2)) (ih.i X sc F _ _ _ h2) (by rw [F.names, F.scope]; exact ok) (fun s H C cl fp => chkG_ok (F.blk ok.kind s H C cl fp) _ _ h5)
      (fun s H C cl fp => ih.c _ _ (F.blk ok.kind s H C cl fp) _ _ h6) (fun s H C cl fp => sv_V (ih.b _ _ (F.blk ok.kind s H C cl fp) _ _ h7)) (folded_ok h3 _)) ?_
    intro Z σ H hq
    have q := set_law hq
    rw [ownL_snd]
    exact lc_law (own_all h4) (tv_lc q)
  · cases hl
theorem swaps_tup {ts : List Expr} {kk : Nat} {tp : Pos} {p : Expr} {l : Nat} {env : PySem.Env} (h : nocomp p = true) : swapsWithSole [.Tuple ts kk tp] p l env = pure false := by
  unfold swapsWithSole
  exact comp_ok h _ _ _
theorem stores_tup {ts : List Expr} {kk : Nat} {tp : Pos} {p : Expr} {env : PySem.Env} (h : notup p = true) : swappedStores [.Tuple ts kk tp] p env = pure none := by
  cases p <;> first | rfl | (cases h; done)
theorem chkS_ok (F : Fc tb fa cf k X N sc) : ∀ s : S, (∀ st, chkS tb N sc s st = true → PS X st (tSt (ct X fa) cf s)) ∧ (∀ sts, chkSs tb N sc s sts = true → PSs X sts (tSt (ct X fa) cf s)) := by
  have ih := sound tb N fa cf k fl
  have fin : ∀ {s : S}, (∀ st, chkS tb N sc s st = true → PS X st (tSt (ct X fa) cf s)) → (∀ sts, chkSs tb N sc s sts = false) → (∀ st, chkS tb N sc s st = true → PS X st (tSt (ct X fa) cf s)) ∧ (∀ sts, chkSs tb N sc s sts = true → PSs X sts (tSt (ct X fa) cf s)) :=
    fun {s} h1 h2 => ⟨h1, fun sts h => by rw [h2] at h; cases h⟩
  intro s
  induction s with
  | nil =>
    refine ⟨fun st h => ?_, fun sts h => ?_⟩
    · unfold chkS at h; cases h
    · cases sts with
      | nil => exact ss_nil
      | cons => unfold chkSs at h; cases h
  | seq s r i1 i2 =>
    refine ⟨fun st h => ?_, fun sts h => ?_⟩
    · unfold chkS at h; cases h
    · cases sts with
      | nil => unfold chkSs at h; cases h
      | cons st rest =>
        unfold chkSs at h
        obtain ⟨h1, h2⟩ := ba2 h
        exact ss_seq (i1.1 _ h1) (i2.2 _ h2)
  | set i e =>
    refine fin (fun st h => ?_) (fun sts => by cases sts <;> rfl)
    unfold chkS at h
    split at h
    all_goals first
      | (cases h; done)
      | (rename_i q; cases q)
      | (rename_i q _; cases q)
      | skip
    · obtain ⟨h, h3⟩ := ba2 h
      obtain ⟨h1, h2⟩ := ba2 h
      obtain ⟨l1, l2, l3⟩ := F.lcl h1
      rcases Bool.or_eq_true_iff.mp h3 with h3 | h3
      · exact ss_set F.nd' l1 l2 l3 (ih.b X sc F _ _ h2) (comp_ok h3 _ _ _)
      · obtain ⟨h3, h4⟩ := ba2 h3
        exact set_lc F l1 (F.loc h3) h2 h4
  | setF i e =>
    refine fin (fun st h => ?_) (fun sts => by cases sts <;> rfl)
    unfold chkS at h
    split at h
    all_goals first
      | (cases h; done)
      | (rename_i q; cases q)
      | (rename_i q _; cases q)
      | skip
    · obtain ⟨h, h3⟩ := ba2 h
      obtain ⟨h1, h2⟩ := ba2 h
      obtain ⟨l1, l2, l3⟩ := F.lcl h1
      exact ss_setF F.nd' l1 l2 l3 (ih.b X sc F _ _ h2) (comp_ok h3 _ _ _)
  | par is el =>
    refine fin (fun st h => ?_) (fun sts => by cases sts <;> rfl)
    unfold chkS at h
    split at h
    all_goals first
      | (cases h; done)
      | (rename_i q; cases q)
      | (rename_i q _; cases q)
      | skip
    · obtain ⟨h, h5⟩ := ba2 h
      obtain ⟨h, h4⟩ := ba2 h
      obtain ⟨h, h3⟩ := ba2 h
      obtain ⟨h1, h2⟩ := ba2 h
      obtain ⟨l1, l2⟩ := F.lclS h1
      obtain ⟨m1, m2⟩ := F.lclS h2
      unfold swp2 at h5
      obtain ⟨h, q6⟩ := ba2 h5
      obtain ⟨h, q5⟩ := ba2 h
      obtain ⟨h, q4⟩ := ba2 h
      obtain ⟨h, q3⟩ := ba2 h
      obtain ⟨q1, q2⟩ := ba2 h
      exact ss_par2 F.calm F.nd' l1 m1 (of_decide_eq_true h3) l2 m2 (ih.l X sc F _ _ h4).1 (stores2 (by rw [F.scope]; exact F.fun_) l2 m2 (of_decide_eq_true q1) (nb q2) q3 q4 (nb q5) (nb q6))
    · obtain ⟨h, h6⟩ := ba2 h
      obtain ⟨h, h5⟩ := ba2 h
      obtain ⟨h, h4⟩ := ba2 h
      obtain ⟨h, h3⟩ := ba2 h
      obtain ⟨h1, h2⟩ := ba2 h
      obtain ⟨l1, l2⟩ := F.lclS h1
      obtain ⟨m1, m2⟩ := F.lclS h2
      obtain ⟨n1, n2⟩ := F.lclS h3
      obtain ⟨e1, e2, e3⟩ := of_decide_eq_true h4
      unfold swp3 at h6
      obtain ⟨h, r9⟩ := ba2 h6
      obtain ⟨h, r8⟩ := ba2 h
      obtain ⟨h, r7⟩ := ba2 h
      obtain ⟨h, r6⟩ := ba2 h
      obtain ⟨h, r5⟩ := ba2 h
      obtain ⟨h, r4⟩ := ba2 h
      obtain ⟨h, r3⟩ := ba2 h
      obtain ⟨h, r2⟩ := ba2 h
      obtain ⟨r0, r1⟩ := ba2 h
      exact ss_par3 F.calm F.nd' l1 m1 n1 e1 e2 e3 l2 m2 n2 (ih.l X sc F _ _ h5).1 (stores3 (by rw [F.scope]; exact F.fun_) l2 m2 n2 (of_decide_eq_true r0) (of_decide_eq_true r1) (nb r2) (nb r3) (nb r4) r5 r6 r7 (nb r8) (nb r9))
  | unp g e =>
    refine fin (fun st h => ?_) (fun sts => by cases sts <;> rfl)
    unfold chkS at h
    split at h
    all_goals first
      | (cases h; done)
      | (rename_i q; cases q)
      | (rename_i q _; cases q)
      | skip
    · obtain ⟨h, h4⟩ := ba2 h
      obtain ⟨h, h3⟩ := ba2 h
      obtain ⟨h1, h2⟩ := ba2 h
      exact ss_unp (ih.b X sc F _ _ h2) (chkG_ok F _ _ h1) (swaps_tup h4) (stores_tup h3) rfl
  | aug i op e =>
    refine fin (fun st h => ?_) (fun sts => by cases sts <;> rfl)
    unfold chkS at h
    split at h
    all_goals first
      | (cases h; done)
      | (rename_i q; cases q)
      | (rename_i q _; cases q)
      | skip
    · obtain ⟨h, h3⟩ := ba2 h
      obtain ⟨h1, h2⟩ := ba2 h
      obtain ⟨l1, l2, l3⟩ := F.lcl h1
      have e := of_decide_eq_true h2
      subst e
      exact ss_aug F.nd' l1 l2 l3 (ih.b X sc F _ _ h3)
  | setix i ix e =>
    refine fin (fun st h => ?_) (fun sts => by cases sts <;> rfl)
    unfold chkS at h
    split at h
    all_goals first
      | (cases h; done)
      | (rename_i q; cases q)
      | (rename_i q _; cases q)
      | skip
    · obtain ⟨h, h4⟩ := ba2 h
      obtain ⟨h, h3⟩ := ba2 h
      obtain ⟨h1, h2⟩ := ba2 h
      obtain ⟨v1, v2, v3, v4⟩ := F.var h1
      exact ss_setix v1 v2 v3 v4 (ih.b X sc F _ _ h4) (ih.b X sc F _ _ h2) h3
  | augix i ix op e =>
    refine fin (fun st h => ?_) (fun sts => by cases sts <;> rfl)
    unfold chkS at h
    split at h
    all_goals first
      | (cases h; done)
      | (rename_i q; cases q)
      | (rename_i q _; cases q)
      | skip
    · obtain ⟨h, h5⟩ := ba2 h
      obtain ⟨h, h4⟩ := ba2 h
      obtain ⟨h, h3⟩ := ba2 h
      obtain ⟨h1, h2⟩ := ba2 h
      obtain ⟨v1, v2, v3, v4⟩ := F.var h1
      have e := of_decide_eq_true h2
      subst e
      exact ss_augix v1 v2 v3 v4 (ih.b X sc F _ _ h5) (ih.b X sc F _ _ h3) h4
  | app i e =>
    refine fin (fun st h => ?_) (fun sts => by cases sts <;> rfl)
    unfold chkS at h
    split at h
    all_goals first
      | (cases h; done)
      | (rename_i q; cases q)
      | (rename_i q _; cases q)
      | skip
    · obtain ⟨h, h5⟩ := ba2 h
      obtain ⟨h, h4⟩ := ba2 h
      obtain ⟨h, h3⟩ := ba2 h
      obtain ⟨h1, h2⟩ := ba2 h
      obtain ⟨v1, v2, v3, v4⟩ := F.var h1
      have e := of_decide_eq_true h2
      subst e
      exact ss_app v1 v2 v3 v4 (ih.b X sc F _ _ h3) (star_ok h4 _ _) h5
  | ext i e =>
    refine fin (fun st h => ?_) (fun sts => by cases sts <;> rfl)
    unfold chkS at h
    split at h
    all_goals first
      | (cases h; done)
      | (rename_i q; cases q)
      | (rename_i q _; cases q)
      | skip
    · obtain ⟨h, h5⟩ := ba2 h
      obtain ⟨h, h4⟩ := ba2 h
      obtain ⟨h, h3⟩ := ba2 h
      obtain ⟨h1, h2⟩ := ba2 h
      obtain ⟨v1, v2, v3, v4⟩ := F.var h1
      have e := of_decide_eq_true h2
      subst e
      exact ss_ext v1 v2 v3 v4 (ih.b X sc F _ _ h3) (star_ok h4 _ _) h5
  | ex e =>
    refine fin (fun st h => ?_) (fun sts => by cases sts <;> rfl)
    unfold chkS at h
    split at h
    all_goals first
      | (cases h; done)
      | (rename_i q; cases q)
      | (rename_i q _; cases q)
      | skip
    · obtain ⟨h1, h2⟩ := ba2 h
      exact ss_ex (ih.b X sc F _ _ h1) (comp_ok h2 _ _ _)
  | ret e =>
    refine fin (fun st h => ?_) (fun sts => by cases sts <;> rfl)
    unfold chkS at h
    split at h
    all_goals first
      | (cases h; done)
      | (rename_i q; cases q)
      | (rename_i q _; cases q)
      | skip
    · obtain ⟨v1, v2, v3, v4⟩ := F.var h
      exact ss_retV (pe_var v1 v2 v3 v4)
    · obtain ⟨h1, h2⟩ := ba2 h
      exact ss_ret (fun i z => by subst z; cases h1) (ih.b X sc F _ _ h2)
  | ret0 =>
    refine fin (fun st h => ?_) (fun sts => by cases sts <;> rfl)
    unfold chkS at h
    split at h
    all_goals first
      | (cases h; done)
      | (rename_i q; cases q)
      | (rename_i q _; cases q)
      | skip
    · exact ss_ret0
  | iff c a b ia ib =>
    refine fin (fun st h => ?_) (fun sts => by cases sts <;> rfl)
    unfold chkS at h
    split at h
    all_goals first
      | (cases h; done)
      | (rename_i q; cases q)
      | (rename_i q _; cases q)
      | skip
    · obtain ⟨h, h3⟩ := ba2 h
      obtain ⟨h1, h2⟩ := ba2 h
      exact ss_iff (ih.t X sc F _ _ h1).1 (ia.2 _ h2) (ib.2 _ h3)
  | for_ g src body ib =>
    refine fin (fun st h => ?_) (fun sts => by cases sts <;> rfl)
    unfold chkS at h
    split at h
    all_goals first
      | (cases h; done)
      | (rename_i q; cases q)
      | (rename_i q _; cases q)
      | skip
    · obtain ⟨h, h4⟩ := ba2 h
      obtain ⟨h, h3⟩ := ba2 h
      obtain ⟨h1, h2⟩ := ba2 h
      exact ss_for F.xe F.calm (ih.i X sc F _ _ _ h1) (chkG_ok F _ _ h3) (ib.2 _ h4) (folded_ok h2 _)
  | whl c body ib =>
    refine fin (fun st h => ?_) (fun sts => by cases sts <;> rfl)
    unfold chkS at h
    split at h
    all_goals first
      | (cases h; done)
      | (rename_i q; cases q)
      | (rename_i q _; cases q)
      | skip
    · obtain ⟨h1, h2⟩ := ba2 h
      exact ss_whl F.xe (ih.t X sc F _ _ h1).1 (ib.2 _ h2)
  | pas =>
    refine fin (fun st h => ?_) (fun sts => by cases sts <;> rfl)
    unfold chkS at h
    split at h
    all_goals first
      | (cases h; done)
      | (rename_i q; cases q)
      | (rename_i q _; cases q)
      | skip
    · exact ss_pas
    · exact ss_doc
  | brk =>
    refine fin (fun st h => ?_) (fun sts => by cases sts <;> rfl)
    unfold chkS at h
    split at h
    all_goals first
      | (cases h; done)
      | (rename_i q; cases q)
      | (rename_i q _; cases q)
      | skip
    · exact ss_brk
  | cnt =>
    refine fin (fun st h => ?_) (fun sts => by cases sts <;> rfl)
    unfold chkS at h
    split at h
    all_goals first
      | (cases h; done)
      | (rename_i q; cases q)
      | (rename_i q _; cases q)
      | skip
    · exact ss_cnt
end
end Dv
set_option Elab.async false
set_option linter.all false
set_option maxRecDepth 100000
set_option maxHeartbeats 4000000
/-! Part L: defs, the law's end. -/
namespace Dv
open PySem PySem.Spec PyProof.Rows L2

theorem rd_blanks : ∀ {n i : Nat}, rd (blanks n) i = none
  | 0, _ => rfl
  | _ + 1, 0 => rfl
  | n + 1, i + 1 => rd_blanks (n := n) (i := i)
theorem rd_startE : ∀ {os : List O} {n i : Nat}, rd (startE os n) i = rd (os.map some) i
  | [], n, i => by rw [startE, rd_blanks]; rfl
  | _ :: _, n, 0 => rfl
  | _ :: r, n, i + 1 => rd_startE (os := r) (n := n - 1) (i := i)
theorem blanks_len : ∀ {n : Nat}, (blanks n).length = n
  | 0 => rfl
  | n + 1 => congrArg Nat.succ blanks_len
theorem startE_len : ∀ {os : List O} {n : Nat}, os.length ≤ n → (startE os n).length = n
  | [], n, _ => blanks_len
  | _ :: r, n + 1, h => congrArg Nat.succ (startE_len (os := r) (Nat.le_of_succ_le_succ h))
theorem stt_start {G : Ct} {Hs H : Hp} {vs : List V} {os : List O} {fp : Nat → Fp} {N : List Str} (S : Stt G Hs H (vs.map some) (os.map some) fp) (h : os.length ≤ N.length) (hv : vs.length ≤ N.length) : Stt G Hs H (L2.start N vs) (startE os N.length) fp where
  sub := S.sub
  len := by
    rw [startE_len h]
    unfold L2.start
    rw [List.length_append, List.length_map, List.length_replicate]
    omega
  slot := fun i o e => by
    rw [rd_startE] at e
    obtain ⟨v, q, r⟩ := S.slot i o e
    have hi := (List.getElem?_eq_some_iff.mp q).1
    exact ⟨v, by unfold L2.start; rw [List.getElem?_append_left hi]; exact q, r⟩
  emp := fun i b hb => by
    obtain ⟨o, e⟩ := S.emp i b hb
    exact ⟨o, by rw [rd_startE]; exact e⟩
  dis := S.dis
theorem rd_app : ∀ {ρ : Env} {x : Option O} {i : Nat}, rd (ρ ++ [x]) i = if i < ρ.length then rd ρ i else if i = ρ.length then x else none
  | [], x, 0 => rfl
  | [], x, i + 1 => by simp [rd]
  | o :: r, x, 0 => by simp [rd]
  | o :: r, x, i + 1 => by
    show rd (r ++ [x]) i = _
    rw [rd_app (ρ := r)]
    by_cases h : i < r.length
    · rw [if_pos h, if_pos (show i + 1 < (o :: r).length from Nat.succ_lt_succ h)]
      rfl
    · rw [if_neg h, if_neg (show ¬ i + 1 < (o :: r).length from fun z => h (Nat.lt_of_succ_lt_succ z))]
      by_cases e : i = r.length
      · rw [if_pos e, if_pos (show i + 1 = (o :: r).length from congrArg Nat.succ e)]
      · rw [if_neg e, if_neg (show ¬ i + 1 = (o :: r).length from fun z => e (Nat.succ.inj z))]
theorem keepE_len {ρ : Env} {io : List Nat} : ∀ {n : Nat}, (keepE ρ io n).length = n
  | 0 => rfl
  | n + 1 => by
    show (keepE ρ io n ++ [_]).length = _
    rw [List.length_append, keepE_len]
    rfl
theorem rd_keepE {ρ : Env} {io : List Nat} : ∀ {n i : Nat}, rd (keepE ρ io n) i = if i < n ∧ io.contains i = true then rd ρ i else none
  | 0, i => by rw [if_neg (fun z => absurd z.1 (Nat.not_lt_zero _))]; rfl
  | n + 1, i => by
    show rd (keepE ρ io n ++ [if io.contains n = true then rd ρ n else none]) i = _
    rw [rd_app, keepE_len, rd_keepE (n := n)]
    by_cases h : i < n
    · rw [if_pos h]
      by_cases c : io.contains i = true
      · rw [if_pos ⟨h, c⟩, if_pos ⟨Nat.lt_succ_of_lt h, c⟩]
      · rw [if_neg fun z => c z.2, if_neg fun z => c z.2]
    · rw [if_neg h]
      by_cases e : i = n
      · subst e
        rw [if_pos rfl]
        by_cases c : io.contains i = true
        · rw [if_pos c, if_pos ⟨Nat.lt_succ_self _, c⟩]
        · rw [if_neg c, if_neg fun z => c z.2]
      · rw [if_neg e, if_neg fun z => by omega]
/-- the lent parameters behind the call -/
theorem stt_keep {G : Ct} {Hs H Hs' H' : Hp} {vs : List V} {N : List Str} {io : List Nat} {fp fp' : Nat → Fp} {σ' : L2.St} {ρ' : Env} {np : Nat} (hv : vs.length = np) (m : MoS G io (L2.start N vs) Hs H fp σ' ρ' Hs' H' fp') :
    ∃ fp2, Stt G Hs' H' (vs.map some) (keepE ρ' io np) fp2 ∧ Go false Hs H fp Hs' H' fp2 ∧ ∀ f, Own H fp fp' f → Own H fp fp2 f := by
  refine ⟨fun i b => (i < np ∧ io.contains i = true) ∧ fp' i b, ⟨m.st.sub, by rw [keepE_len, List.length_map, hv]; exact Nat.le_refl _, fun i o e => ?_, fun i b ⟨hi, hb⟩ => ?_, fun i j b hij h1 h2 => m.st.dis i j b hij h1.2 h2.2⟩,
    ⟨m.go.ex, m.go.frame, fun i b hb => m.go.orig i b hb.2, m.go.grow, fun e => nomatch e⟩, fun f ow b hb => ⟨fun i hi => (ow b hb).1 i hi.2, (ow b hb).2⟩⟩
  · rw [rd_keepE] at e
    split at e
    · rename_i hi
      obtain ⟨v, q, r⟩ := m.st.slot i o e
      refine ⟨v, ?_, r.fp fun b => ⟨fun z => ⟨hi, z⟩, fun z => z.2⟩⟩
      have e1 := m.io i (List.contains_iff_mem.mp hi.2)
      rw [q] at e1
      unfold L2.start at e1
      rw [List.getElem?_append_left (by rw [List.length_map, hv]; exact hi.1)] at e1
      exact e1.symm
    · cases e
  · obtain ⟨o, e⟩ := m.st.emp i b hb
    exact ⟨o, by rw [rd_keepE, if_pos hi]; exact e⟩

/-! ### a def -/
/-- a def by its body: an own rule, with what guards -/
theorem fg_by {P : Program} {w : World} {K : PySem.W.Frag} {mg : Str → Option Value} {base : Heap} {k : Nat} {f : Addr} {x : Str} {params : Arguments} {body : List Stmt} {scope : Scope} {fd : FuncData} {N ps : List Str} {sp : List V → Hp → VK → Prop}
    (F : FunD K x x params body scope [] [] f fd) (S : FnScope N ps scope) (many : ∀ vs H Q, sp vs H Q → vs.length = ps.length)
    (hbody : ∀ (cdv : Value) (A : Around) (outer : List PySem.Env) (s : Shared) (H : Hp) (vs : List V) (Q : VK), Room k (A.deeper (envOfC x scope s.heap.objs.size f cdv)) → (A.deeper (envOfC x scope s.heap.objs.size f cdv)).guards = some [] → sp vs H Q →
      ∃ t, PSs (cxOf noX P w K mg base N x scope f cdv A outer s H fun _ _ _ => False).nox body t ∧ t { nx := fun _ H' => Q .non H', rt := Q } (L2.start N vs) H) : FG P w K mg base (k + 1) f fd ps sp := by
  obtain ⟨oc, od, dV, kV, doc, pm, an, cdv, ct, osl, rfl, lk, hcd, _, _⟩ := F.ex
  refine ⟨many, fun A outer sE H args us vs Q hr hgd e0 hb r hsp => ?_⟩
  have hl := many _ _ _ hsp
  have KX : K.In sE.heap := e0.mod.kin.keeps fun b o e => (e0.bs b o e).1
  have lim : sE.heap.NoLimit := e0.mod.nolimit.keeps fun b o e => (e0.bs b o e).1
  have kinds : ∀ y ∈ ps.zip us, scope.names.lookup y.1 = some .local ∨ (scope.names.lookup y.1 = some .cell ∧ ((cellsFrom (sE.heap.objs.size + 1) scope.names []).lookup y.1).isSome = true) := fun ⟨nm, v⟩ hy => (S.par nm (List.of_mem_zip hy).1).imp id fun q => ⟨q, PySem.W.cellsFrom_some _ _ _ (.inl q)⟩
  refine codeAny_call_function hr.depth (KX _ _ lk) rfl S.co S.gen rfl (PySem.W.codeRec_of KX hcd) (hb _ _ _ _ (wpAny_newFunctionEnv_cells S.kind kinds fun env he s1 xx => ?_))
  subst he
  refine ⟨lim.keeps xx.toInCall.keep, codeAny_func ?_⟩
  obtain ⟨t, ht, hq⟩ := hbody cdv A outer sE H vs Q (hr.deeper _) hgd hsp
  have I : Inv (cxOf noX P w K mg base N x scope f cdv A outer sE H fun _ _ _ => False) [] (L2.start N vs) H s1 := inv_start S hr.hd e0 hl r xx
  have fin : ∀ {σ' : L2.St} {H' : Hp} {v : V} {u : Value} {s' : Shared}, Inv (cxOf noX P w K mg base N x scope f cdv A outer sE H fun _ _ _ => False) [] σ' H' s' → RelV v u → Q v H' → CE outer P w H sE Q u s' := fun {σ' H' v u s'} J rv q => ⟨v, H', J.os, J.bare, J.base, J.hok, rv, q⟩
  refine wpAny_mono ((PSs.nox ht).run [] s1 (L2.start N vs) H _ I hq) (fun fl s' hs => ?_) fun e s' hs => hs
  cases fl with
  | ret u =>
    obtain ⟨v, σ', H', J, rv, q⟩ := hs
    exact fin J rv q
  | next =>
    obtain ⟨σ', H', J, q⟩ := hs
    exact fin (v := V.non) (u := Value.none) J rfl q
  | brk =>
    obtain ⟨_, _, _, q⟩ := hs
    exact q.elim
  | cont =>
    obtain ⟨_, _, _, q⟩ := hs
    exact q.elim

/-! ### the defs of a law -/
structure Df where
  id : Nat
  nm : Str
  st : Stmt
  N : List Str
  fd : FD
def Df.ps (d : Df) : List Str := d.N.take d.fd.np
def tabOf (ds : List Df) : Tab := ds.map fun d => (d.id, d.nm, d.fd.np)
def TOf (ds : List Df) : Nat → Option FD := fun f => (ds.map fun d => (d.id, d.fd)).lookup f
def faOf (ds : List Df) (K : PySem.W.Frag) : Nat → Addr := fun f => match (tabOf ds).lookup f with
  | some (x, _) => He.ga K x
  | none => 0
def okDf (tb : Tab) (d : Df) : Bool := C8.scC d.N d.ps (defScope d.st) && decide (d.fd.many = d.N.length) && decide (d.fd.np ≤ d.N.length) && chkSs tb d.N ⟨defScope d.st, fun _ => true⟩ d.fd.body (defBody d.st)
/-- every parameter is given by its place -/
def BindP (d : Df) : Prop := ∀ (kV doc pm : Value) (an : Option Addr) (cdv ct : Value) (us : List Value), us.length = d.ps.length → bindArgs (PySem.W.fnOf d.nm d.nm (defArgs d.st) (defBody d.st) (defScope d.st) .none kV doc pm an cdv ct) ⟨us, []⟩ = pure (d.ps.zip us)
/-- the law's text as it stands behind the top -/
structure Lw (ds : List Df) (K : PySem.W.Frag) (mg : Str → Option Value) : Prop where
  ok : ∀ d ∈ ds, okDf (tabOf ds) d = true
  bd : ∀ d ∈ ds, BindP d
  fn : ∀ d ∈ ds, ∃ fd, FunD K d.nm d.nm (defArgs d.st) (defBody d.st) (defScope d.st) [] [] (He.ga K d.nm) fd
  gl : ∀ d ∈ ds, mg d.nm = some (.ref (He.ga K d.nm))
  fr : ∀ x ∈ bNames, mg x = none
theorem look_tab : ∀ {ds : List Df} {f : Nat} {x : Str} {np : Nat}, (tabOf ds).lookup f = some (x, np) → ∃ d ∈ ds, d.id = f ∧ d.nm = x ∧ d.fd.np = np ∧ TOf ds f = some d.fd
  | [], _, _, _, h => by cases h
  | d :: r, f, x, np, h => by
    have h' : List.lookup f ((d.id, d.nm, d.fd.np) :: tabOf r) = some (x, np) := h
    rw [List.lookup_cons] at h'
    show ∃ d' ∈ d :: r, d'.id = f ∧ d'.nm = x ∧ d'.fd.np = np ∧ List.lookup f ((d.id, d.fd) :: r.map fun d => (d.id, d.fd)) = some d'.fd
    cases e : f == d.id with
    | true =>
      rw [e] at h'
      cases h'
      exact ⟨d, List.mem_cons_self, (eq_of_beq e).symm, rfl, rfl, by rw [List.lookup_cons, e]⟩
    | false =>
      rw [e] at h'
      obtain ⟨d', h1, h2, h3, h4, h5⟩ := look_tab (ds := r) h'
      exact ⟨d', List.mem_cons_of_mem _ h1, h2, h3, h4, by rw [List.lookup_cons, e]; exact h5⟩
theorem faOf_at {ds : List Df} {K : PySem.W.Frag} {f : Nat} {x : Str} {np : Nat} (h : (tabOf ds).lookup f = some (x, np)) : faOf ds K f = He.ga K x := by
  unfold faOf
  rw [h]
theorem psr_end {G : Ct} {io : List Nat} {Hs H : Hp} {fp : Nat → Fp} {vs : List V} {N : List Str} {np : Nat} {r : SR} {o : O} {π : Env} {Q : VK} (hv : vs.length = np) (he : ended np io r = .ok o π)
    (K : ∀ v Hs' H' fp' f, Go false Hs H fp Hs' H' fp' → Stt G Hs' H' (vs.map some) π fp' → RO G Hs' H' v o f → Own H fp fp' f → Q v H') : PSr G io (L2.start N vs) Hs H fp r { nx := fun _ H' => Q .non H', rt := Q } := by
  cases r with
  | nx ρ' =>
    cases he
    intro σ' Hs' H' fp' m
    obtain ⟨fp2, S, g, _⟩ := stt_keep hv m
    exact K _ _ _ _ _ g S (.d .non) own_none
  | rt o' ρ' =>
    cases he
    intro v σ' Hs' H' fp' f m r ow
    obtain ⟨fp2, S, g, k⟩ := stt_keep hv m
    exact K _ _ _ _ _ g S r (k f ow)
  | bk => cases he
  | ct => cases he
  | ex => cases he
  | bad => cases he
section
variable {ds : List Df} {K : PySem.W.Frag} {mg : Str → Option Value} {P : Program} {w : World} {base : Heap}
theorem all_fg (L : Lw ds K mg) : ∀ (n f : Nat) (x : Str) (np : Nat), (tabOf ds).lookup f = some (x, np) → ∃ d fd, d ∈ ds ∧ d.nm = x ∧ FunD K d.nm d.nm (defArgs d.st) (defBody d.st) (defScope d.st) [] [] (He.ga K d.nm) fd ∧ d.ps.length = np ∧ Binds K fd d.ps [] ∧ FG P w K mg base n (faOf ds K f) fd d.ps (spF ⟨K, faOf ds K⟩ (callF (TOf ds) n f) np) := by
  intro n
  induction n with
  | zero =>
    intro f x np h
    obtain ⟨d, hd, rfl, rfl, rfl, _⟩ := look_tab h
    obtain ⟨fd, F⟩ := L.fn d hd
    have hz := (Bool.and_eq_true_iff.mp (Bool.and_eq_true_iff.mp (L.ok d hd)).1).2
    have hps : d.ps.length = d.fd.np := by
      unfold Df.ps
      rw [List.length_take]
      exact Nat.min_eq_left (of_decide_eq_true hz)
    refine ⟨d, fd, hd, rfl, F, hps, F.bindsN (L.bd d hd), fun vs H Q q => ?_, fun A outer s H args us vs Q hr hg e0 hb r q => ?_⟩
    · obtain ⟨_, _, _, _, _, hv, _⟩ := q
      exact hv.trans hps.symm
    · obtain ⟨_, _, _, _, _, _, _, _, hc, _⟩ := q
      cases hc
  | succ n ih =>
    intro f x np h
    have hfa : faOf ds K f = He.ga K x := faOf_at h
    obtain ⟨d, hd, rfl, rfl, rfl, hT⟩ := look_tab h
    obtain ⟨fd, F⟩ := L.fn d hd
    obtain ⟨h3, h4⟩ := Bool.and_eq_true_iff.mp (L.ok d hd)
    obtain ⟨h2, hz⟩ := Bool.and_eq_true_iff.mp h3
    obtain ⟨h1, h5⟩ := Bool.and_eq_true_iff.mp h2
    have hz := of_decide_eq_true hz
    have h5 := of_decide_eq_true h5
    have S := C8.fnScope_by h1
    have hps : d.ps.length = d.fd.np := by
      unfold Df.ps
      rw [List.length_take]
      exact Nat.min_eq_left hz
    refine ⟨d, fd, hd, rfl, F, hps, F.bindsN (L.bd d hd), ?_⟩
    rw [hfa]
    refine fg_by F S (fun vs H Q q => ?_) fun cdv A outer s H vs Q hr hg q => ?_
    · obtain ⟨_, _, _, _, _, hv, _⟩ := q
      exact hv.trans hps.symm
    · have Fx : Fc (tabOf ds) (faOf ds K) (callF (TOf ds) n) n (cxOf noX P w K mg base d.N d.nm (defScope d.st) (He.ga K d.nm) cdv A outer s H fun _ _ _ => False).nox d.N ⟨defScope d.st, fun _ => true⟩ :=
        ⟨rfl, rfl, rfl, S.kind, fun _ _ => rfl, S.nd, hg, hr, rfl, L.fr, fun f' x' np' h' => by
          obtain ⟨d2, fd', _, _, _, k1, k2, k3⟩ := ih f' x' np' h'
          have e := faOf_at (K := K) h'
          obtain ⟨d', hd', _, rfl, _, _⟩ := look_tab h'
          obtain ⟨fd2, F2⟩ := L.fn d' hd'
          refine ⟨?_, ?_, fd', d2.ps, k1, k2, k3⟩
          · show mg d'.nm = _
            rw [e]
            exact L.gl d' hd'
          · rw [e]
            exact F2.kp⟩
      refine ⟨_, (chkS_ok Fx d.fd.body).2 _ h4, ?_⟩
      obtain ⟨Hs, os, fpc, o, π, hv, ho, St, hc, Kq⟩ := q
      have hc' : (match TOf ds d.id with
        | some fd => if os.length = fd.np then ended fd.np fd.io (evS (callF (TOf ds) n) fd.body fd.io (startE os fd.many)) else CR.bad
        | none => CR.bad) = .ok o π := hc
      rw [hT] at hc'
      simp only at hc'
      rw [if_pos ho] at hc'
      rw [h5] at hc'
      exact ⟨d.fd.io, Hs, _, fpc, stt_start St (by rw [ho]; exact hz) (by rw [hv]; exact hz), psr_end hv hc' Kq⟩
end

/-! ### the law's end -/
/-- the law's def is called with the script -/
theorem law_fg {P : Program} {w : World} {K : PySem.W.Frag} {mg mb : Str → Option Value} {k : Nat} {fA aS : Addr} {fd : FuncData} {x : Str} {sp : List V → Hp → VK → Prop} {sE : Shared} {us : List Value} {zs : List Int}
    (KX : K.In sE.heap) (hns : sE.heap.Ns mainGlobals mg) (hb : sE.heap.Ns builtinsNs mb) (hbb : ∀ y : Str, y ≠ "__name__" → mb y = bootBuiltins y) (hlim : sE.heap.NoLimit) (hg : sE.gens = #[])
    (hS0 : sE.heap.get? aS = some { cls := .type "list", data := .seq us.toArray }) (hi : IntsAre us zs) (hl : zs.length ≤ sizeLine) (hr : Room k callerA)
    (F : ∀ base : Heap, K.In base → base.Ns mainGlobals mg → FG P w K mg base k fA fd [x] sp) (hbind : ∀ (s : Shared) (u : Value), BindsTo s fd ⟨[u], []⟩ [(x, u)])
    (hsp : ∀ H : Hp, Only H → SqL K H aS (zs.map V.int) → sp [.ref aS] H (fun v _ => v = .bl true)) :
    codeAny (model P w) callerA (.call (.ref fA) ⟨[.ref aS], []⟩) (fun r s' => r = .ok (.ret (.bool true)) ∧ OldK sE.heap s'.heap ∧ s'.os = sE.os ∧ AllBare s'.gens) sE := by
  have rv := vals_ints hi
  have lenV := hi.length
  have core : ∀ Hq : Hp, Only Hq → SqL K Hq aS (zs.map V.int) → HOk P w Hq sE.heap → (∀ b, Hq b ≠ none → b = aS) → (Hq aS ≠ none → K.lookup aS = none) →
      codeAny (model P w) callerA (.call (.ref fA) ⟨[.ref aS], []⟩) (fun r s' => r = .ok (.ret (.bool true)) ∧ OldK sE.heap s'.heap ∧ s'.os = sE.os ∧ AllBare s'.gens) sE := by
    intro Hq hO hSq hok hA hK
    have onlyA : ∀ {b : Addr}, b ≠ aS → Hq b = none := fun {b} h => by
      cases q : Hq b with
      | none => rfl
      | some u => exact absurd (hA b (by rw [q]; exact nofun)) h
    have dicts : ∀ {b : Addr} {ob : Obj} {es : Array DictEntry} {ep : Nat}, sE.heap.get? b = some ob → ob.data = .dict es ep → Hq b = none := fun {b ob es ep} e d => onlyA fun z => by
      subst z
      rw [hS0] at e
      cases e
      have d' : Data.seq us.toArray _ = Data.dict es ep := d
      cases d'
    have spaces : ∀ {b : Addr} {m : Str → Option Value}, sE.heap.Ns b m → (hidT sE.heap Hq).Ns b m := fun {b m} ⟨ob, es, ep, e, d, r⟩ => ⟨ob, es, ep, hidT_get e (dicts e d), d, r⟩
    have hKb : K.In (hidT sE.heap Hq) := fun b ob e => hidT_get (KX b ob e) (by
      by_cases z : b = aS
      · subst z
        cases q : Hq b with
        | none => rfl
        | some u =>
          rw [hK (by rw [q]; exact nofun)] at e
          cases e
      · exact onlyA z)
    have hM : Mod K mg (hidT sE.heap Hq) := ⟨hKb, spaces hns, ⟨mb, spaces hb, hbb⟩, let ⟨mc, c1, c2⟩ := hlim; ⟨mc, spaces c1, c2⟩⟩
    have e0 : Env0 P w K mg (hidT sE.heap Hq) callerA [] sE Hq := ⟨rfl, hM, fun b ob e => of_hidT e, Nat.le_of_eq (hidT_size _ _), trivial, fun b z => absurd (show b ∈ ([] : List Addr) from z) (by simp), hok, .of_eq hg⟩
    refine codeAny_mono ((F _ hKb (spaces hns)).does callerA [] sE Hq ⟨[.ref aS], []⟩ [.ref aS] [.ref aS] _ hr rfl e0 (hbind sE (.ref aS)) (.cons rfl .nil) (hsp Hq hO hSq)) fun r s' h => ?_
    cases r with
    | error e => exact False.elim h
    | ok fl =>
      cases fl with
      | next => exact False.elim h
      | brk => exact False.elim h
      | cont => exact False.elim h
      | ret u =>
        obtain ⟨v, Hn, os, bare, un, hok', rr, q⟩ := h
        have q' : v = .bl true := q
        subst q'
        obtain rfl : u = Value.bool true := rr
        refine ⟨rfl, OldK.of_keep fun b ob e => ?_, os, bare⟩
        cases q : Hq b with
        | none => exact un.keep b ob e q (fun z => absurd (show b ∈ ([] : List Addr) from z) (by simp)) (by simp)
        | some u =>
          rcases hO b with z | ⟨o2, xs, z⟩
          · rw [q] at z; cases z
          · obtain ⟨c1, _⟩ := hok b _ z
            obtain ⟨c2, _⟩ := hok' b _ (un.frzs b o2 _ z)
            rw [e] at c1
            cases c1
            exact c2
  cases hk : K.lookup aS with
  | some ob =>
    have e := KX aS ob hk
    rw [hS0] at e
    cases e
    exact core (fun _ => none) (fun _ => .inl rfl) (.inr ⟨_, us.toArray, _, hk, rfl, rfl, rfl, by rw [List.size_toArray, lenV]; exact hl, by simpa using rv⟩) (fun b u z => by have z' : (none : Option HO) = some u := z; cases z') (fun b z => absurd rfl z) fun z => absurd rfl z
  | none =>
    refine core (fun b => if b = aS then some (.frz { cls := .type "list", data := .seq us.toArray } (.lst (zs.map V.int))) else none) (fun b => ?_) (.inl (.inr ⟨{ cls := .type "list", data := .seq us.toArray }, if_pos rfl⟩)) (fun b u z => ?_) (fun b z => ?_) fun _ => hk
    · by_cases hb : b = aS
      · exact .inr ⟨_, _, if_pos hb⟩
      · exact .inl (if_neg hb)
    · by_cases hb : b = aS
      · have z' := (if_pos hb).symm.trans z
        cases z'
        subst hb
        exact ⟨hS0, by rw [List.length_map]; exact hl, us, _, rv, hS0⟩
      · have z' := (if_neg hb).symm.trans z
        cases z'
    · by_cases hb : b = aS
      · exact hb
      · exact absurd (if_neg hb) z
/-! ### the head's facts -/
def Df.dd (d : Df) : He.DefD := ⟨(d.nm, none), d.nm, d.nm, defArgs d.st, defBody d.st, defScope d.st, [], []⟩
def fnsOf (ds : List Df) : List He.DefD := ds.map Df.dd
def fasOf (ds : List Df) : List He.Fa := ds.map (fun d => He.Fa.glo d.nm) ++ bNames.map He.Fa.free
theorem lw_of {ds : List Df} {K : PySem.W.Frag} {h : Heap} {mg : Str → Option Value} (hok : ds.all (okDf (tabOf ds)) = true) (hbd : ∀ d ∈ ds, BindP d) (X : K.In h) (Gm : h.Ns mainGlobals mg) (c : He.SaysD (fasOf ds) (fnsOf ds) K) : Lw ds K mg where
  ok := fun d hd => List.all_eq_true.mp hok d hd
  bd := hbd
  fn := fun d hd => c.defs (d := d.dd) (List.mem_map.mpr ⟨d, hd, rfl⟩)
  gl := fun d hd => He.glo_ok X Gm (c.facts (f := .glo d.nm) (List.mem_append_left _ (List.mem_map.mpr ⟨d, hd, rfl⟩)))
  fr := fun x hx => He.free_ok X Gm (c.facts (f := .free x) (List.mem_append_right _ (List.mem_map.mpr ⟨x, hx, rfl⟩)))
/-- from the evaluator's word to the walk -/
theorem walk_dv {l : PySem.W.OpenLaw} {n k f : Nat} {q : Program} {loose : List Str} {XP : (Str → Option Value) → Heap → Prop} {YP : World → Heap → Prop} {d : DefRec} {x nm : Str} {ds : List Df}
    (hn : l.most = some n) (hn2 : n ≤ sizeLine) (hdf : d.params.defaults = []) (hr : Room k callerA) (hnm : d.name = nm) (hps : ∀ d ∈ ds, d.nm = nm → d.ps = [x]) (hid : (tabOf ds).lookup f = some (nm, 1))
    (Y : ∀ (w : World) (mg : Str → Option Value) (h : Heap), YP w h → h.Ns mainGlobals mg → ∃ K : PySem.W.Frag, K.In h ∧ Lw ds K mg)
    (law : ∀ zs : List Int, zs.length ≤ n → (∀ z ∈ zs, Builtin.Int.intBits z ≤ 1048576) → ∃ π, callF (TOf ds) k f [.d (.list (zs.map .int))] = .ok (.d (.bool true)) π) :
    PySem.W.WalkO q loose XP YP l.row.toRowW d [] (fun f vs => PySem.call f vs) := by
  refine Att.attach_callB hn hdf fun w s0 sE mg mb fA o pm cd doc aS us zs Gd Yp ho hd hcd hmg hobj hints hlen hbits hg => ?_
  obtain ⟨K, KX, L⟩ := Y w mg sE.heap Yp Gd.T.g
  have hf : faOf ds K f = He.ga K nm := faOf_at hid
  obtain ⟨dl, hdl, _, hdn, _, _⟩ := look_tab hid
  have hfa : fA = He.ga K nm := by
    have e := L.gl dl hdl
    rw [hdn, ← hnm, hmg] at e
    rw [← hnm]
    exact Value.ref.inj (Option.some.inj e)
  subst hfa
  obtain ⟨fdl, Fl⟩ := L.fn dl hdl
  have FF : ∀ base : Heap, FG l.prog w K mg base k (He.ga K nm) fdl [x] (spF ⟨K, faOf ds K⟩ (callF (TOf ds) k f) 1) := fun base => by
    obtain ⟨d2, fd2, hd2, hn2, F2, _, _, FG2⟩ := all_fg (P := l.prog) (w := w) (base := base) L k f nm 1 hid
    rw [hps d2 hd2 hn2, hf] at FG2
    have e : fd2 = fdl := by
      obtain ⟨_, _, _, _, _, _, _, _, _, _, _, lk1, _⟩ := F2.ex
      obtain ⟨_, _, _, _, _, _, _, _, _, _, _, lk2, _⟩ := Fl.ex
      rw [hn2] at lk1
      rw [hdn, lk1] at lk2
      injection lk2 with lk2
      injection lk2 with _ _ e _
      injection e
    rw [← e]
    exact FG2
  have bnd : ∀ (s : Shared) (u : Value), BindsTo s fdl ⟨[u], []⟩ [(x, u)] := fun s u => by
    have := Fl.bindsA (L.bd dl hdl) s [u] (by rw [hps dl hdl hdn]; rfl)
    rw [hps dl hdl hdn] at this
    exact this
  refine law_fg KX Gd.T.g Gd.T.b Gd.T.builtins Gd.T.nolimit hg hobj hints (Nat.le_trans hlen hn2) hr (fun base _ _ => FF base) bnd fun H hO hS => ?_
  obtain ⟨π, hl⟩ := law zs hlen hbits
  refine ⟨H, [.d (.list (zs.map .int))], fun _ _ => False, _, π, rfl, rfl, ⟨Same.refl _, Nat.le_refl _, fun i u e => ?_, fun _ _ z => z.elim, fun _ _ _ _ z => z.elim⟩, hl, fun v Hs' H' fp' ff _ _ r _ => ?_⟩
  · cases i with
    | zero =>
      cases e
      exact ⟨_, rfl, .d (.lst hS (RDs.ints zs))⟩
    | succ i => cases e
  · cases r with
    | d r => cases r; rfl
end Dv
set_option Elab.async false
set_option linter.all false
set_option maxRecDepth 100000
set_option maxHeartbeats 1000000
/-! Part M: how the evaluator runs, for the plain laws. -/
namespace Dv
open PySem PySem.Spec PyProof.Rows L2
section
variable {α β : Type} {ρ ρ' : Env}
theorem R.bind_k {a : α} {f : α → Env → R β} : R.bind (.ok a ρ) f = f a ρ := rfl
theorem R.sr_k {a : α} {f : α → Env → SR} : R.sr (.ok a ρ) f = f a ρ := rfl
theorem R.calm_k {a : α} : R.calm (.ok a ρ) = .ok a ρ := rfl
theorem SR.then_n {f : Env → SR} : SR.then (.nx ρ) f = f ρ := rfl
theorem SR.then_r {o : O} {f : Env → SR} : SR.then (.rt o ρ) f = .rt o ρ := rfl
theorem callF_go {T : Nat → Option FD} {n f : Nat} {fd : FD} {os : List O} (h : T f = some fd) (hl : os.length = fd.np) : callF T (n + 1) f os = ended fd.np fd.io (evS (callF T n) fd.body fd.io (startE os fd.many)) := by
  rw [callF, h]
  dsimp only
  rw [if_pos hl]
/-- a plain comprehension, nothing kept or changed by it -/
theorem lcGo_plain {γ : Type} {step : D → List O → Env → R (List O)} {own : List Nat} {ρw : Env} {d : γ → D} {c : γ → Bool} {e : γ → O} :
    ∀ (xs : List γ) (acc : List O) (ρ : Env), wipe ρ own = ρw → (∀ a ∈ xs, ∀ acc ρ, wipe ρ own = ρw → (c a = true → acc.length < sizeLine) → ∃ ρ', step (d a) acc ρ = .ok (if c a = true then acc ++ [e a] else acc) ρ' ∧ wipe ρ' own = ρw) → acc.length + (xs.filter c).length ≤ sizeLine →
      ∃ ρ', lcGo step (xs.map d) acc ρ = .ok (acc ++ (xs.filter c).map e) ρ' ∧ wipe ρ' own = ρw
  | [], acc, ρ, h, _, _ => ⟨ρ, by simp [lcGo], h⟩
  | a :: r, acc, ρ, h, st, hl => by
    cases hc : c a with
    | true =>
      rw [List.filter_cons, if_pos hc, List.length_cons] at hl
      obtain ⟨ρ1, e1, h1⟩ := st a List.mem_cons_self acc ρ h (fun _ => by omega)
      rw [if_pos hc] at e1
      obtain ⟨ρ2, e2, h2⟩ := lcGo_plain r (acc ++ [e a]) ρ1 h1 (fun b hb => st b (List.mem_cons_of_mem _ hb)) (by rw [List.length_append, List.length_singleton]; omega)
      refine ⟨ρ2, ?_, h2⟩
      rw [List.map_cons, lcGo, e1, R.bind_k, e2]
      simp [List.filter_cons, hc]
    | false =>
      have hn : ¬ c a = true := by rw [hc]; exact Bool.false_ne_true
      rw [List.filter_cons, if_neg hn] at hl
      obtain ⟨ρ1, e1, h1⟩ := st a List.mem_cons_self acc ρ h (fun z => absurd z hn)
      rw [if_neg hn] at e1
      obtain ⟨ρ2, e2, h2⟩ := lcGo_plain r acc ρ1 h1 (fun b hb => st b (List.mem_cons_of_mem _ hb)) hl
      refine ⟨ρ2, ?_, h2⟩
      rw [List.map_cons, lcGo, e1, R.bind_k, e2]
      simp [List.filter_cons, hc]
theorem rd_ext : ∀ {ρ ρ' : Env}, ρ.length = ρ'.length → (∀ i, i < ρ.length → rd ρ i = rd ρ' i) → ρ = ρ'
  | [], [], _, _ => rfl
  | a :: r, b :: r', hl, h => by
    have h0 : a = b := h 0 (Nat.succ_pos _)
    subst h0
    rw [rd_ext (Nat.succ.inj hl) fun i hi => h (i + 1) (Nat.succ_lt_succ hi)]
  | [], _ :: _, hl, _ => by cases hl
  | _ :: _, [], hl, _ => by cases hl
theorem wipe_app {l l' : List Nat} : ∀ {ρ : Env}, wipe ρ (l ++ l') = wipe (wipe ρ l') l := by
  intro ρ
  induction l with
  | nil => rfl
  | cons i l ih => show Dv.st (wipe ρ (l ++ l')) i none = Dv.st (wipe (wipe ρ l') l) i none; rw [ih]
theorem back_same {l : List Nat} (h : wipe ρ' l = wipe ρ l) : back ρ ρ' l = ρ := by
  refine rd_ext back_len fun i hi => ?_
  rw [back_len] at hi
  rw [rd_back hi]
  by_cases e : i ∈ l
  · rw [if_pos e]
  · rw [if_neg e]
    have := congrArg (fun r => rd r i) h
    simp only [rd_wipe_out e] at this
    exact this
end
section
variable {cf : Nat → List O → CR}
/-- a comprehension that leaves all as it is -/
theorem lc_plain {γ : Type} {own : List Nat} {g : Tg} {src cond elt : E} {ro : Bool} {ρ ρ1 : Env} {d : γ → D} {c : γ → Bool} {e : γ → O} {lent : List Nat} {xs : List γ} {os : List D} (hs : evI cf src ro ρ = .ok ⟨os, lent⟩ ρ1) (hm : os = xs.map d) (hl : (xs.filter c).length ≤ sizeLine)
    (turn : ∀ a ∈ xs, ∃ ρ2, put g (d a) (wipe ρ1 (own ++ lent)) = some ρ2 ∧ ∃ ρ3, evT cf cond ro ρ2 = .ok (c a) ρ3 ∧ wipe ρ3 own = wipe ρ1 (own ++ lent) ∧ (c a = true → ∃ ρ4, asV elt ro (evB cf elt ro ρ3) = .ok (e a) ρ4 ∧ wipe ρ4 own = wipe ρ1 (own ++ lent))) :
    evB cf (.lc own g src cond elt) ro ρ = .ok (false, mkL ((xs.filter c).map e)) ρ1 := by
  subst hm
  rw [evB, hs, R.bind_k]
  obtain ⟨ρ', e1, h1⟩ := lcGo_plain (own := own) (ρw := wipe ρ1 (own ++ lent)) (d := d) (c := c) (e := e) (step := fun x acc ρ => match put g x (wipe ρ own) with
        | some ρ2 => ((evT cf cond ro ρ2).bind fun t ρ3 => if t = true then (asV elt ro (evB cf elt ro ρ3)).bind fun o ρ4 => if fits (acc.length + 1) = true then .ok (acc ++ [o]) ρ4 else .bad else .ok acc ρ3).calm
        | none => .bad) xs [] (wipe ρ1 lent) wipe_app.symm (fun a ha acc ρ hw hlt => by
      obtain ⟨ρ2, p1, ρ3, p2, p3, p4⟩ := turn a ha
      rw [hw, p1]
      dsimp only
      rw [p2, R.bind_k]
      cases hc : c a with
      | false => exact ⟨ρ3, rfl, p3⟩
      | true =>
        obtain ⟨ρ4, q1, q2⟩ := p4 hc
        refine ⟨ρ4, ?_, q2⟩
        rw [if_pos rfl, q1, R.bind_k, if_pos (by have := hlt hc; unfold fits; simp; omega)]
        rfl) (by rw [List.length_nil, Nat.zero_add]; exact hl)
  refine (congrArg (fun r => R.bind r fun acc ρ' => R.ok (false, mkL acc) (back ρ1 ρ' (own ++ lent))) e1).trans ?_
  rw [R.bind_k, List.nil_append, back_same]
  have hlen : ρ'.length = ρ1.length := by
    have := congrArg List.length h1
    rwa [wipe_len, wipe_len] at this
  refine rd_ext (by rw [wipe_len, wipe_len, hlen]) fun i _ => ?_
  by_cases hi : i ∈ own ++ lent
  · rw [rd_wipe_in hi, rd_wipe_in hi]
  · have this : rd (wipe ρ' own) i = rd (wipe ρ1 (own ++ lent)) i := congrArg (fun r => rd r i) h1
    rw [rd_wipe_out fun z => hi (List.mem_append_left _ z)] at this
    rw [rd_wipe_out hi, this]
theorem lcGo_flat {γ : Type} {step : D → List O → Env → R (List O)} {own : List Nat} {ρw : Env} {d : γ → D} {e : γ → List O} :
    ∀ (xs : List γ) (acc : List O) (ρ : Env), wipe ρ own = ρw → (∀ a ∈ xs, ∀ acc ρ, wipe ρ own = ρw → acc.length + (e a).length ≤ sizeLine → ∃ ρ', step (d a) acc ρ = .ok (acc ++ e a) ρ' ∧ wipe ρ' own = ρw) → acc.length + (xs.flatMap e).length ≤ sizeLine →
      ∃ ρ', lcGo step (xs.map d) acc ρ = .ok (acc ++ xs.flatMap e) ρ' ∧ wipe ρ' own = ρw
  | [], acc, ρ, h, _, _ => ⟨ρ, by simp [lcGo], h⟩
  | a :: r, acc, ρ, h, st, hl => by
    rw [List.flatMap_cons, List.length_append] at hl
    obtain ⟨ρ1, e1, h1⟩ := st a List.mem_cons_self acc ρ h (by omega)
    obtain ⟨ρ2, e2, h2⟩ := lcGo_flat r (acc ++ e a) ρ1 h1 (fun b hb => st b (List.mem_cons_of_mem _ hb)) (by rw [List.length_append]; omega)
    refine ⟨ρ2, ?_, h2⟩
    rw [List.map_cons, lcGo, e1, R.bind_k, e2, List.flatMap_cons, List.append_assoc]
theorem wipe_sub {l l' : List Nat} {ρ : Env} (h : ∀ i ∈ l', i ∈ l) : wipe (wipe ρ l') l = wipe ρ l := by
  refine rd_ext (by rw [wipe_len, wipe_len, wipe_len]) fun i _ => ?_
  by_cases hi : i ∈ l
  · rw [rd_wipe_in hi, rd_wipe_in hi]
  · rw [rd_wipe_out hi, rd_wipe_out hi, rd_wipe_out fun z => hi (h i z)]
theorem lc2_plain {γ δ : Type} {own vs : List Nat} {g g' : Tg} {src src' cond' elt : E} {ro : Bool} {ρ ρ1 : Env} {d : γ → D} {d' : δ → D} {ys : γ → List δ} {c : γ → δ → Bool} {e : γ → δ → O} {xs : List γ} {os : List D} (hs : evI cf src ro ρ = .ok ⟨os, []⟩ ρ1) (hm : os = xs.map d) (hv : ∀ i ∈ vs, i ∈ own)
    (hl : (xs.flatMap fun a => ((ys a).filter (c a)).map (e a)).length ≤ sizeLine)
    (turn : ∀ a ∈ xs, ∃ ρ2, put g (d a) (wipe ρ1 own) = some ρ2 ∧ ∃ ρ4, evI cf src' ro ρ2 = .ok ⟨(ys a).map d', []⟩ ρ4 ∧ wipe ρ4 own = wipe ρ1 own ∧
      ∀ b ∈ ys a, ∃ ρ5, put g' (d' b) (wipe ρ4 vs) = some ρ5 ∧ ∃ ρ6, evT cf cond' ro ρ5 = .ok (c a b) ρ6 ∧ wipe ρ6 vs = wipe ρ4 vs ∧ (c a b = true → ∃ ρ7, asV elt ro (evB cf elt ro ρ6) = .ok (e a b) ρ7 ∧ wipe ρ7 vs = wipe ρ4 vs)) :
    evB cf (.lc2 own g src .no vs g' src' cond' elt) ro ρ = .ok (false, mkL (xs.flatMap fun a => ((ys a).filter (c a)).map (e a))) ρ1 := by
  subst hm
  rw [evB, hs, R.bind_k]
  obtain ⟨ρ', e1, h1⟩ := lcGo_flat (own := own) (ρw := wipe ρ1 own) (d := d) (e := fun a => ((ys a).filter (c a)).map (e a)) (step := fun x acc ρ => match put g x (wipe ρ own) with
        | some ρ2 => ((evT cf .no ro ρ2).bind fun t ρ3 => if t = true then (evI cf src' ro ρ3).bind fun s' ρ4 =>
            if s'.lent.isEmpty = true then lcGo (fun x acc ρ => match put g' x (wipe ρ vs) with
              | some ρ5 => (evT cf cond' ro ρ5).bind fun t ρ6 => if t = true then (asV elt ro (evB cf elt ro ρ6)).bind fun o ρ7 => if fits (acc.length + 1) = true then .ok (acc ++ [o]) ρ7 else .bad else .ok acc ρ6
              | none => .bad) s'.items acc ρ4 else .bad
            else .ok acc ρ3).calm
        | none => .bad) xs [] (wipe ρ1 []) rfl (fun a ha acc ρ hw hlt => by
      obtain ⟨ρ2, p1, ρ4, p2, p3, p4⟩ := turn a ha
      rw [hw, p1]
      dsimp only
      rw [evT, R.bind_k, if_pos rfl, p2, R.bind_k]
      obtain ⟨ρ', k1, k2⟩ := lcGo_plain (own := vs) (ρw := wipe ρ4 vs) (d := d') (c := c a) (e := e a) (step := fun x acc ρ => match put g' x (wipe ρ vs) with
              | some ρ5 => (evT cf cond' ro ρ5).bind fun t ρ6 => if t = true then (asV elt ro (evB cf elt ro ρ6)).bind fun o ρ7 => if fits (acc.length + 1) = true then .ok (acc ++ [o]) ρ7 else .bad else .ok acc ρ6
              | none => .bad) (ys a) acc ρ4 rfl (fun b hb acc ρ hw hlt => by
        obtain ⟨ρ5, q1, ρ6, q2, q3, q4⟩ := p4 b hb
        rw [hw, q1]
        dsimp only
        rw [q2, R.bind_k]
        cases hc : c a b with
        | false => exact ⟨ρ6, rfl, q3⟩
        | true =>
          obtain ⟨ρ7, r1, r2⟩ := q4 hc
          refine ⟨ρ7, ?_, r2⟩
          rw [if_pos rfl, r1, R.bind_k, if_pos (by have := hlt hc; unfold fits; simp; omega)]
          rfl) (by rw [List.length_map] at hlt; exact hlt)
      refine ⟨ρ', congrArg R.calm ((if_pos (rfl : ([] : List Nat).isEmpty = true)).trans k1), ?_⟩
      rw [← wipe_sub hv, k2, wipe_sub hv, p3]) (by rw [List.length_nil, Nat.zero_add]; exact hl)
  refine (congrArg (fun r => R.bind r fun acc ρ' => R.ok (false, mkL acc) (back ρ1 ρ' (own ++ []))) e1).trans ?_
  rw [R.bind_k, List.nil_append, List.append_nil, back_same h1]
/-- turns of a for: what holds of the turns done -/
theorem forGo_pre {γ : Type} {step : D → Env → SR} {d : γ → D} {I : List γ → Env → Prop} {all : List γ} : ∀ (xs pre : List γ) (ρ : Env), all = pre ++ xs → I pre ρ → (∀ pre a post, all = pre ++ a :: post → ∀ ρ, I pre ρ → ∃ ρ', step (d a) ρ = .nx ρ' ∧ I (pre ++ [a]) ρ') →
    ∃ ρ', forGo step (xs.map d) ρ = .nx ρ' ∧ I all ρ'
  | [], pre, ρ, e, h, _ => ⟨ρ, rfl, by rw [e, List.append_nil]; exact h⟩
  | a :: r, pre, ρ, e, h, st => by
    obtain ⟨ρ1, e1, h1⟩ := st pre a r e ρ h
    obtain ⟨ρ2, e2, h2⟩ := forGo_pre r (pre ++ [a]) ρ1 (by rw [e, List.append_assoc]; rfl) h1 st
    refine ⟨ρ2, ?_, h2⟩
    rw [List.map_cons, forGo, e1]
    exact e2
theorem back_nil (h : ρ'.length = ρ.length) : back ρ ρ' [] = ρ' := by
  refine rd_ext (by rw [back_len, h]) fun i hi => ?_
  rw [back_len] at hi
  rw [rd_back hi, if_neg (by simp)]
/-- a for over a source that is not lent -/
theorem for_pre {γ : Type} {g : Tg} {src : E} {body : S} {io : List Nat} {ρ ρ1 : Env} {d : γ → D} {I : List γ → Env → Prop} {xs : List γ} {os : List D} (hs : evI cf src false ρ = .ok ⟨os, []⟩ ρ1) (hm : os = xs.map d) (hio : (slots g).any io.contains = false) (h0 : I [] ρ1) (hI : ∀ s ρ, I s ρ → ρ.length = ρ1.length)
    (turn : ∀ pre a post, xs = pre ++ a :: post → ∀ ρ, I pre ρ → ∃ ρ2, put g (d a) ρ = some ρ2 ∧ ∃ ρ3, evS cf body io ρ2 = .nx ρ3 ∧ I (pre ++ [a]) ρ3) :
    ∃ ρ', evS cf (.for_ g src body) io ρ = .nx ρ' ∧ I xs ρ' := by
  subst hm
  obtain ⟨ρ', e, h⟩ := forGo_pre (step := fun x ρ => match put g x ρ with
        | some ρ2 => evS cf body io ρ2
        | none => .bad) (all := xs) xs [] ρ1 rfl h0 (fun pre a post q ρ hI => by
      obtain ⟨ρ2, p1, ρ3, p2, p3⟩ := turn pre a post q ρ hI
      exact ⟨ρ3, by rw [p1]; exact p2, p3⟩)
  refine ⟨ρ', ?_, h⟩
  rw [evS, hs, R.sr_k]
  have hb : ¬ (slots g).any ([] ++ io).contains = true := by rw [List.nil_append, hio]; exact Bool.false_ne_true
  refine (if_neg hb).trans ?_
  refine (congrArg (SR.env fun ρ' => back ρ1 ρ' []) (show forGo _ _ (Dv.wipe ρ1 []) = SR.nx ρ' from e)).trans ?_
  show SR.nx (back ρ1 ρ' []) = _
  rw [back_nil (hI _ _ h)]
theorem rng1_k {a : E} {ro b : Bool} {n : Int} {ρ ρ1 : Env} (h1 : evB cf a ro ρ = .ok (b, .d (.int n)) ρ1) (h : okRange 0 n = true) : evI cf (.rng1 a) ro ρ = .ok ⟨Dv.range 0 n, []⟩ ρ1 := by
  rw [evI, h1, R.bind_k]
  show srcOf (if okRange 0 n = true then some (Dv.range 0 n) else none) (some []) ρ1 = _
  rw [if_pos h]
  rfl
theorem rng2_k {a a' : E} {ro b b' : Bool} {lo n : Int} {ρ ρ1 ρ2 : Env} (h1 : evB cf a ro ρ = .ok (b, .d (.int lo)) ρ1) (h2 : evB cf a' ro ρ1 = .ok (b', .d (.int n)) ρ2) (h : okRange lo n = true) : evI cf (.rng2 a a') ro ρ = .ok ⟨Dv.range lo n, []⟩ ρ2 := by
  rw [evI, h1, R.bind_k, h2, R.bind_k]
  show srcOf (if okRange lo n = true then some (Dv.range lo n) else none) (some []) ρ2 = _
  rw [if_pos h]
  rfl
theorem ext_k {i : Nat} {e : E} {io : List Nat} {ρ ρ' : Env} {xs ys : List D} (h : rd ρ i = some (.ls xs)) (he : evB cf e false ρ = .ok (false, .ls ys) ρ') (h' : rd ρ' i = some (.ls xs)) (hl : xs.length + ys.length ≤ sizeLine) : evS cf (.ext i e) io ρ = .nx (Dv.st ρ' i (some (.ls (xs ++ ys)))) := by
  have hf : fits (xs.length + ys.length) = true := decide_eq_true hl
  simp [evS, ownAt, h, O.own, he, asV, R.sr, mutS, h', extTo, hf]
theorem seq_k {a r : S} {io : List Nat} {ρ ρ' : Env} (h : evS cf a io ρ = .nx ρ') : evS cf (.seq a r) io ρ = evS cf r io ρ' := by
  rw [evS, h, SR.then_n]
theorem set_k {i : Nat} {e : E} {io : List Nat} {ρ ρ' : Env} {o : O} (hi : io.contains i = false) (h : evB cf e false ρ = .ok (false, o) ρ') : evS cf (.set i e) io ρ = .nx (Dv.st ρ' i (some o)) := by
  rw [evS, hi, if_neg Bool.false_ne_true, h]
  rfl
theorem v_k {i : Nat} {ro : Bool} {ρ : Env} {o : O} (h : rd ρ i = some o) : evB cf (.v i) ro ρ = .ok (o.own, o) ρ := by
  rw [evB, h]
theorem c_k {x : D} {ro : Bool} {ρ : Env} : evB cf (.c x) ro ρ = .ok (false, .d x) ρ := by
  rw [evB]
theorem bin_k {op : Op} {a b : E} {ro b1 b2 : Bool} {x y o : O} {ρ ρ1 ρ2 : Env} (h1 : evB cf a ro ρ = .ok (b1, x) ρ1) (h2 : evB cf b (ro || b1) ρ1 = .ok (b2, y) ρ2) (h : bin op x y = some o) : evB cf (.bin op a b) ro ρ = .ok (false, o) ρ2 := by
  rw [evB, h1, R.bind_k, h2, R.bind_k, h]
  rfl
theorem ix_k {a b : E} {ro b1 b2 : Bool} {x y : O} {z : Bool × O} {ρ ρ1 ρ2 : Env} (h1 : evB cf a ro ρ = .ok (b1, x) ρ1) (h2 : evB cf b (ro || b1) ρ1 = .ok (b2, y) ρ2) (h : item x y = some z) : evB cf (.ix a b) ro ρ = .ok (z.1 && b1, z.2) ρ2 := by
  rw [evB, h1, R.bind_k, h2, R.bind_k, h]
  rfl
theorem mul_k {i j : Int} (h : mulOk i j = true) : bin .mul (.d (.int i)) (.d (.int j)) = some (.d (.int (i * j))) := by
  show guardO (mulOk i j) _ = _
  rw [h]
  rfl
end
end Dv
set_option Elab.async false
set_option linter.all false
set_option maxRecDepth 100000
set_option maxHeartbeats 1000000
/-! Part N: small data, that can be shown and compared; more steps. -/
namespace Dv
open PySem PySem.Spec PyProof.Rows L2
theorem own_d {x : D} : (O.d x).own = false := rfl
theorem own_ls {x : List D} : (O.ls x).own = true := rfl
theorem own_nl {x : List O} : (O.nl x).own = true := rfl
def sHd : S → S
  | .seq s _ => s
  | s => s
def sTl : S → S
  | .seq _ r => r
  | s => s
/-- data of at most depth n and weight w, with short ints -/
structure Sm (n w : Nat) (d : D) : Prop where
  lay : d.canLay0 = true
  dep : d.depth ≤ n
  wei : d.weight ≤ w
  sho : d.showable = true
  sht : d.intsShort 13 = true
theorem Sm.none {n w : Nat} : Sm n w .none := ⟨rfl, Nat.zero_le _, Nat.zero_le _, rfl, rfl⟩
theorem Sm.bool {n w : Nat} {b : Bool} : Sm n w (.bool b) := ⟨rfl, Nat.zero_le _, Nat.zero_le _, rfl, rfl⟩
theorem Sm.int {n w : Nat} {i : Int} (h : i.natAbs < 1024) (hw : 10 ≤ w) : Sm n w (.int i) := by
  refine ⟨rfl, Nat.zero_le _, ?_, ?_, ?_⟩
  · show (if i == 0 then 0 else i.natAbs.log2 + 1) ≤ w
    split
    · omega
    · have := (Nat.log2_lt (n := i.natAbs) (k := 10) (by
        intro z
        have : i = 0 := by omega
        subst this
        contradiction)).2 h
      omega
  · show decide (i.natAbs.log2 < 1920) = true
    exact decide_eq_true (log2_small (Nat.lt_of_lt_of_le h (Nat.le_trans (by decide : 1024 ≤ 2 ^ 10) (Nat.pow_le_pow_right (by decide) (by decide)))))
  · show decide ((PyData.shown (.int i)).length ≤ 13) = true
    exact decide_eq_true (PyData.shown_int_le (Nat.lt_trans h (by decide)))
theorem Sm.str {n w : Nat} {x : Str} (h : (PyData.str x).canLay0 = true) (hw : x.cps.size ≤ w) : Sm n w (.str x) := ⟨h, Nat.zero_le _, hw, rfl, rfl⟩
theorem Sm.all {n w : Nat} : ∀ {xs : List D}, (∀ x ∈ xs, Sm n w x) → PyData.canLayAll0 xs = true ∧ PyData.depthAll xs ≤ n ∧ PyData.weightAll xs ≤ (w + 1) * xs.length ∧ PyData.showableAll xs = true ∧ PyData.intsShortAll 13 xs = true
  | [], _ => ⟨rfl, Nat.zero_le _, Nat.zero_le _, rfl, rfl⟩
  | x :: r, h => by
    obtain ⟨a, b, c, d, e⟩ := Sm.all fun y hy => h y (List.mem_cons_of_mem _ hy)
    obtain ⟨a1, b1, c1, d1, e1⟩ := h x List.mem_cons_self
    refine ⟨?_, ?_, ?_, ?_, ?_⟩
    · rw [PyData.canLayAll0, a1, a]; rfl
    · rw [PyData.depthAll]; exact Nat.max_le.mpr ⟨b1, b⟩
    · rw [PyData.weightAll, List.length_cons, Nat.mul_succ]; omega
    · rw [PyData.showableAll, d1, d]; rfl
    · rw [PyData.intsShortAll, e1, e]; rfl
theorem Sm.tuple {n w m v : Nat} {xs : List D} (h : ∀ x ∈ xs, Sm n w x) (hm : xs.length ≤ m) (hv : (w + 1) * m ≤ v) : Sm (n + 1) v (.tuple xs) := by
  obtain ⟨a, b, c, d, e⟩ := Sm.all h
  exact ⟨by rw [PyData.canLay0]; exact a, by rw [PyData.depth]; omega, by rw [PyData.weight]; exact Nat.le_trans c (Nat.le_trans (Nat.mul_le_mul_left _ hm) hv), by rw [PyData.showable]; exact d, by rw [PyData.intsShort]; exact e⟩
theorem Sm.list {n w m v : Nat} {xs : List D} (h : ∀ x ∈ xs, Sm n w x) (hm : xs.length ≤ m) (hv : (w + 1) * m ≤ v) : Sm (n + 1) v (.list xs) := by
  obtain ⟨a, b, c, d, e⟩ := Sm.all h
  exact ⟨by rw [PyData.canLay0]; exact a, by rw [PyData.depth]; omega, by rw [PyData.weight]; exact Nat.le_trans c (Nat.le_trans (Nat.mul_le_mul_left _ hm) hv), by rw [PyData.showable]; exact d, by rw [PyData.intsShort]; exact e⟩
theorem Sm.up {n w n' w' : Nat} {d : D} (h : Sm n w d) (h1 : n ≤ n') (h2 : w ≤ w') : Sm n' w' d := ⟨h.lay, Nat.le_trans h.dep h1, Nat.le_trans h.wei h2, h.sho, h.sht⟩
theorem Sm.shaped {n w : Nat} {d : D} (h : Sm n w d) (hn : n ≤ 64) : SeqAt.shaped d = true := by
  unfold SeqAt.shaped
  rw [h.lay, decide_eq_true (Nat.le_trans h.dep hn)]
  rfl
theorem Sm.shown {n w : Nat} {d : D} (h : Sm n w d) (hn : n ≤ 64) (hw : w ≤ 2 ^ 20) : fits d.shown.length = true := by
  refine decide_eq_true (PyData.shown_fits_of_layable0 (B := 13) (by decide) (Nat.le_refl _) ?_ h.sht)
  unfold PyData.layable0
  rw [h.lay, decide_eq_true (Nat.le_trans h.dep hn), decide_eq_true (Nat.le_trans h.wei hw)]
  rfl
theorem Sm.repr {n w : Nat} {d : D} (h : Sm n w d) (hn : n ≤ 64) (hw : w ≤ 2 ^ 20) (hq : seqD d = true) : blt .repr [.d d] = some (.d (.str d.shown)) := by
  have h1 := h.shown hn hw
  have e : (seqD d && d.canLay0 && decide (d.depth ≤ 64) && d.showable && fits d.shown.length) = true := by rw [hq, h.lay, decide_eq_true (Nat.le_trans h.dep hn), h.sho, h1]; rfl
  exact if_pos e
theorem Sm.eq {n w n' w' : Nat} {d d' : D} (h : Sm n w d) (h' : Sm n' w' d') (hn : n ≤ 64) (hn' : n' ≤ 64) : eqD d d' = some (PyData.eqv d d') := by
  unfold eqD
  rw [h.shaped hn, h'.shaped hn']
  simp
theorem Sm.refl {n w : Nat} {d : D} (h : Sm n w d) : PyData.eqv d d = true := SeqAt.eqv_refl d h.lay
theorem Sm.self {n w : Nat} {d : D} (h : Sm n w d) (hn : n ≤ 64) : eqD d d = some true := by rw [h.eq h hn hn, h.refl]
section
variable {cf : Nat → List O → CR}
theorem iff_t {c : E} {a b : S} {io : List Nat} {ρ ρ' : Env} (h : evT cf c false ρ = .ok true ρ') : evS cf (.iff c a b) io ρ = evS cf a io ρ' := by
  rw [evS, h, R.sr_k, if_pos rfl]
theorem iff_f {c : E} {a b : S} {io : List Nat} {ρ ρ' : Env} (h : evT cf c false ρ = .ok false ρ') : evS cf (.iff c a b) io ρ = evS cf b io ρ' := by
  rw [evS, h, R.sr_k, if_neg Bool.false_ne_true]
theorem nil_k {io : List Nat} {ρ : Env} : evS cf .nil io ρ = .nx ρ := by rw [evS]
theorem app_k {i : Nat} {e : E} {io : List Nat} {ρ ρ' : Env} {o o' x : O} (h : rd ρ i = some o) (ho : o.own = true) (he : asV e false (evB cf e false ρ) = .ok x ρ') (h' : rd ρ' i = some o) (ha : appTo o x = some o') : evS cf (.app i e) io ρ = .nx (Dv.st ρ' i (some o')) := by
  have hw : ownAt ρ i = true := by unfold ownAt; rw [h]; exact ho
  rw [evS, hw, if_pos rfl, he, R.sr_k]
  unfold mutS
  rw [h']
  simp only [ha]
theorem ret_k {e : E} {io : List Nat} {ρ ρ' : Env} {o : O} (hv : ∀ i, e = .v i → False) (h : asV e false (evB cf e false ρ) = .ok o ρ') : evS cf (.ret e) io ρ = .rt o ρ' := by
  rw [evS, h]
  · rfl
  · exact hv
theorem v_d {i : Nat} {ro : Bool} {ρ : Env} {x : D} (h : rd ρ i = some (.d x)) : evB cf (.v i) ro ρ = .ok (false, .d x) ρ := by
  rw [evB, h]
  rfl
theorem cmpT_k {op : Cm} {a b : E} {ro b1 b2 t : Bool} {x y : O} {ρ ρ1 ρ2 : Env} (h1 : evB cf a ro ρ = .ok (b1, x) ρ1) (h2 : evB cf b (ro || b1) ρ1 = .ok (b2, y) ρ2) (h : cmp op (frz x) (frz y) = some t) : evT cf (.cmp op a b) ro ρ = .ok t ρ2 := by
  rw [evT, h1, R.bind_k, h2, R.bind_k]
  dsimp only
  rw [h]
  rfl
theorem cmp_k {op : Cm} {a b : E} {ro b1 b2 t : Bool} {x y : O} {ρ ρ1 ρ2 : Env} (h1 : evB cf a ro ρ = .ok (b1, x) ρ1) (h2 : evB cf b (ro || b1) ρ1 = .ok (b2, y) ρ2) (h : cmp op (frz x) (frz y) = some t) : evB cf (.cmp op a b) ro ρ = .ok (false, .d (.bool t)) ρ2 := by
  rw [evB, h1, R.bind_k, h2, R.bind_k]
  dsimp only
  rw [h]
  rfl
theorem andT_t {a b : E} {ro : Bool} {ρ ρ1 : Env} (h : evT cf a ro ρ = .ok true ρ1) : evT cf (.and a b) ro ρ = evT cf b ro ρ1 := by
  rw [evT, h, R.bind_k, if_pos rfl]
theorem andT_f {a b : E} {ro : Bool} {ρ ρ1 : Env} (h : evT cf a ro ρ = .ok false ρ1) : evT cf (.and a b) ro ρ = .ok false ρ1 := by
  rw [evT, h, R.bind_k, if_neg Bool.false_ne_true]
theorem orT_t {a b : E} {ro : Bool} {ρ ρ1 : Env} (h : evT cf a ro ρ = .ok true ρ1) : evT cf (.or a b) ro ρ = .ok true ρ1 := by
  rw [evT, h, R.bind_k, if_pos rfl]
theorem orT_f {a b : E} {ro : Bool} {ρ ρ1 : Env} (h : evT cf a ro ρ = .ok false ρ1) : evT cf (.or a b) ro ρ = evT cf b ro ρ1 := by
  rw [evT, h, R.bind_k, if_neg Bool.false_ne_true]
theorem notT_k {a : E} {ro t : Bool} {ρ ρ1 : Env} (h : evT cf a ro ρ = .ok t ρ1) : evT cf (.not a) ro ρ = .ok (!t) ρ1 := by
  rw [evT, h, R.bind_k]
theorem ite_t {c a b : E} {ro : Bool} {ρ ρ1 ρ2 : Env} {o : O} (h : evT cf c ro ρ = .ok true ρ1) (h2 : asV a ro (evB cf a ro ρ1) = .ok o ρ2) : evB cf (.ite c a b) ro ρ = .ok (false, o) ρ2 := by
  rw [evB, h, R.bind_k, if_pos rfl, h2]
  rfl
theorem ite_f {c a b : E} {ro : Bool} {ρ ρ1 ρ2 : Env} {o : O} (h : evT cf c ro ρ = .ok false ρ1) (h2 : asV b ro (evB cf b ro ρ1) = .ok o ρ2) : evB cf (.ite c a b) ro ρ = .ok (false, o) ρ2 := by
  rw [evB, h, R.bind_k, if_neg Bool.false_ne_true, h2]
  rfl
theorem eqI {i j : Int} : eqD (.int i) (.int j) = some (i == j) := by
  simp [eqD, Dv.scal, PyData.eqv]
theorem val_k {e : E} {ro : Bool} {ρ : Env} {o : O} {r : R (Bool × O)} (h : r = .ok (false, o) ρ) : asV e ro r = .ok o ρ := by rw [h]; rfl
theorem evL_c {e es : E} {ro : Bool} {ρ ρ1 ρ2 : Env} {o : O} {os : List O} (h : asV e ro (evB cf e ro ρ) = .ok o ρ1) (h2 : evL cf es ro ρ1 = .ok os ρ2) : evL cf (.cons e es) ro ρ = .ok (o :: os) ρ2 := by
  rw [evL, h, R.bind_k, h2, R.bind_k]
theorem evL_n {ro : Bool} {ρ : Env} : evL cf .nil ro ρ = .ok [] ρ := by rw [evL]
theorem par_k {is : List Nat} {es : E} {io : List Nat} {os : List O} {ρ ρ' ρ2 : Env} (hi : (is.any io.contains || !noDup is) = false) (h : evL cf es false ρ = .ok os ρ') (h2 : lets ρ' is os = some ρ2) : evS cf (.par is es) io ρ = .nx ρ2 := by
  rw [evS, hi, if_neg Bool.false_ne_true, h, R.sr_k, h2]
theorem tup_k {es : E} {ro : Bool} {ρ ρ' : Env} {os : List O} (h : evL cf es ro ρ = .ok os ρ') : evB cf (.tup es) ro ρ = .ok (false, .d (.tuple (frzs os))) ρ' := by
  rw [evB, h, R.bind_k]
theorem lst_k {es : E} {ro : Bool} {ρ ρ' : Env} {os : List O} (h : evL cf es ro ρ = .ok os ρ') : evB cf (.lst es) ro ρ = .ok (false, mkL os) ρ' := by
  rw [evB, h, R.bind_k]
theorem blt_k {b : Bl} {es : E} {ro : Bool} {ρ ρ' : Env} {os : List O} {o : O} (h : evW cf es ro ρ = .ok os ρ') (h2 : blt b os = some o) : evB cf (.blt b es) ro ρ = .ok (false, o) ρ' := by
  rw [evB, h, R.bind_k, h2]
  rfl
theorem evW_1 {e : E} {ro b : Bool} {ρ ρ' : Env} {o : O} (h : evB cf e ro ρ = .ok (b, o) ρ') : evW cf (.cons e .nil) ro ρ = .ok [o] ρ' := by
  rw [evW, h, R.bind_k, evW, R.bind_k]
theorem evA_n {ro : Bool} {ρ : Env} : evA cf .nil ro ρ = .ok [] ρ := by rw [evA]
theorem evA_v {e es : E} {ro : Bool} {ρ ρ1 ρ2 : Env} {o : O} {as : List Arg} (hne : ∀ i, e = .io i → False) (h : asV e ro (evB cf e ro ρ) = .ok o ρ1) (h2 : evA cf es ro ρ1 = .ok as ρ2) : evA cf (.cons e es) ro ρ = .ok (.val o.fr :: as) ρ2 := by
  rw [evA, h, R.bind_k, h2, R.bind_k]
  exact hne
theorem ios_vals : ∀ os : List O, ioSlots (os.map Arg.val) = []
  | [] => rfl
  | _ :: r => ios_vals r
theorem args_vals {ρ : Env} : ∀ os : List O, argsO ρ (os.map Arg.val) = some (os.map O.fr)
  | [] => rfl
  | o :: r => by
    show (match argO ρ (.val o), argsO ρ (r.map Arg.val) with
      | some o, some os => some (o :: os)
      | _, _ => none) = _
    rw [args_vals r]
    rfl
theorem back_vals {ρ π : Env} : ∀ (os : List O) (j : Nat), putBack ρ π j (os.map Arg.val) = ρ
  | [], _ => rfl
  | _ :: r, j => back_vals r (j + 1)
/-- a call by values -/
theorem call_v {f : Nat} {es : E} {ro : Bool} {ρ ρ' π : Env} {os : List O} {r : O} (h : evA cf es ro ρ = .ok (os.map Arg.val) ρ') (hc : cf f (os.map O.fr) = .ok r π) : evB cf (.call f es) ro ρ = .ok (false, r) ρ' := by
  rw [evB, h, R.bind_k]
  unfold calling
  rw [ios_vals]
  rw [if_pos (by simp [noDup]), args_vals]
  simp only [hc, calld, back_vals]
theorem call_1 {f : Nat} {e : E} {ro : Bool} {ρ ρ' π : Env} {o r : O} (hne : ∀ i, e = .io i → False) (h : asV e ro (evB cf e ro ρ) = .ok o ρ') (hc : cf f [o.fr] = .ok r π) : evB cf (.call f (.cons e .nil)) ro ρ = .ok (false, r) ρ' :=
  call_v (os := [o.fr]) (evA_v hne h evA_n) hc
theorem call_2 {f : Nat} {e e' : E} {ro : Bool} {ρ ρ1 ρ' π : Env} {o o' r : O} (hne : ∀ i, e = .io i → False) (hne' : ∀ i, e' = .io i → False) (h : asV e ro (evB cf e ro ρ) = .ok o ρ1) (h' : asV e' ro (evB cf e' ro ρ1) = .ok o' ρ') (hc : cf f [o.fr, o'.fr] = .ok r π) : evB cf (.call f (.cons e (.cons e' .nil))) ro ρ = .ok (false, r) ρ' :=
  call_v (os := [o.fr, o'.fr]) (evA_v hne h (evA_v hne' h' evA_n)) hc
theorem for_src {e : E} {ro : Bool} {xs : List D} {ρ ρ' : Env} {o : O} (hne : ∀ a b, (e = .rng1 a → False) ∧ (e = .rng2 a b → False) ∧ (e = .enum a → False) ∧ (e = .zip a b → False)) (h : evB cf e ro ρ = .ok (false, o) ρ') (hq : asQ o = some xs) : evI cf e ro ρ = .ok ⟨xs, []⟩ ρ' := by
  rw [evI, h, R.bind_k]
  · rw [itemsOf_of hq]
    rfl
  · exact fun a => (hne a a).1
  · exact fun a b => (hne a b).2.1
  · exact fun a => (hne a a).2.2.1
  · exact fun a b => (hne a b).2.2.2
end
end Dv
set_option Elab.async false
set_option linter.all false
set_option maxRecDepth 100000
set_option maxHeartbeats 0
namespace K25
open PySem PySem.Spec PyProof.Rows L2 Dv
def top (i : Nat) : Stmt := PySem.Challenge.pw_anymeasure_k25_whole_properties_of_measu.main.body.getD i (.Pass ⟨0, 0, 0, 0⟩)
def d0 : Df := ⟨0, "is_better", top 1, ["one", "other"], ⟨2, 2, [], (.seq (.iff (.cmp .is_ (.v 0) (.c .none)) (.seq (.ret (.c (.bool false))) .nil) .nil) (.seq (.ret (.or (.cmp .is_ (.v 1) (.c .none)) (.cmp .lt (.v 0) (.v 1)))) .nil))⟩⟩
def d1 : Df := ⟨1, "worse", top 2, ["one", "other"], ⟨2, 2, [], (.seq (.ret (.call 0 (.cons (.v 1) (.cons (.v 0) .nil)))) .nil)⟩⟩
def d2 : Df := ⟨2, "cells", top 4, ["measure", "label", "table", "w", "told"], ⟨1, 5, [], (.seq (.ret (.lc2 [1, 2, 3, 4] (.tc (.n 1) (.tc (.n 2) .t0)) (.ix (.v 0) (.c (.int 1))) .no [3, 4] (.tc (.n 3) (.tc (.n 4) .t0)) (.enum (.v 2)) .no (.tup (.cons (.v 1) (.cons (.v 3) (.cons (.v 4) .nil)))))) .nil)⟩⟩
def d3 : Df := ⟨3, "rising_faults", top 5, ["measure", "label", "w", "told"], ⟨1, 4, [], (.seq (.ret (.lc [1, 2, 3] (.tc (.n 1) (.tc (.n 2) (.tc (.n 3) .t0))) (.call 2 (.cons (.v 0) .nil)) (.call 1 (.cons (.v 2) (.cons (.v 3) .nil))) (.tup (.cons (.v 1) (.cons (.v 2) .nil))))) .nil)⟩⟩
def d4 : Df := ⟨4, "strict_faults", top 6, ["measure", "label", "w", "told"], ⟨1, 4, [], (.seq (.ret (.lc [1, 2, 3] (.tc (.n 1) (.tc (.n 2) (.tc (.n 3) .t0))) (.call 2 (.cons (.v 0) .nil)) (.not (.call 1 (.cons (.v 3) (.cons (.v 2) .nil)))) (.tup (.cons (.v 1) (.cons (.v 2) .nil))))) .nil)⟩⟩
def d5 : Df := ⟨5, "order_faults", top 7, ["measure", "found", "label", "table", "v", "w"], ⟨1, 6, [], (.seq (.set 1 (.lst .nil)) (.seq (.for_ (.tc (.n 2) (.tc (.n 3) .t0)) (.ix (.v 0) (.c (.int 1))) (.seq (.for_ (.n 4) (.rng1 (.blt .len (.cons (.v 3) .nil))) (.seq (.ext 1 (.lc [5] (.n 5) (.rng2 (.bin .add (.v 4) (.c (.int 1))) (.blt .len (.cons (.v 3) .nil))) (.call 1 (.cons (.ix (.v 3) (.v 4)) (.cons (.ix (.v 3) (.v 5)) .nil))) (.tup (.cons (.v 2) (.cons (.v 4) (.cons (.v 5) .nil)))))) .nil)) .nil)) (.seq (.ret (.v 1)) .nil)))⟩⟩
def d6 : Df := ⟨6, "first_of", top 8, ["some"], ⟨1, 1, [], (.seq (.ret (.ite (.cmp .gt (.blt .len (.cons (.v 0) .nil)) (.c (.int 0))) (.ix (.v 0) (.c (.int 0))) (.c .none))) .nil)⟩⟩
def d7 : Df := ⟨7, "rising_fault", top 9, ["measure"], ⟨1, 1, [], (.seq (.ret (.call 6 (.cons (.call 3 (.cons (.v 0) .nil)) .nil))) .nil)⟩⟩
def d8 : Df := ⟨8, "strict_fault", top 10, ["measure"], ⟨1, 1, [], (.seq (.ret (.call 6 (.cons (.call 4 (.cons (.v 0) .nil)) .nil))) .nil)⟩⟩
def d9 : Df := ⟨9, "order_fault", top 11, ["measure"], ⟨1, 1, [], (.seq (.ret (.call 6 (.cons (.call 5 (.cons (.v 0) .nil)) .nil))) .nil)⟩⟩
def d10 : Df := ⟨10, "is_rising", top 12, ["measure"], ⟨1, 1, [], (.seq (.ret (.cmp .is_ (.call 7 (.cons (.v 0) .nil)) (.c .none))) .nil)⟩⟩
def d11 : Df := ⟨11, "is_strict", top 13, ["measure"], ⟨1, 1, [], (.seq (.ret (.cmp .is_ (.call 8 (.cons (.v 0) .nil)) (.c .none))) .nil)⟩⟩
def d12 : Df := ⟨12, "keeps_orders", top 14, ["measure"], ⟨1, 1, [], (.seq (.ret (.cmp .is_ (.call 9 (.cons (.v 0) .nil)) (.c .none))) .nil)⟩⟩
def d13 : Df := ⟨13, "properties", top 15, ["measure", "told", "name", "has"], ⟨1, 4, [], (.seq (.set 1 (.lst (.cons (.tup (.cons (.c (.str "orders")) (.cons (.call 12 (.cons (.v 0) .nil)) .nil))) (.cons (.tup (.cons (.c (.str "rising")) (.cons (.call 10 (.cons (.v 0) .nil)) .nil))) (.cons (.tup (.cons (.c (.str "strict")) (.cons (.call 11 (.cons (.v 0) .nil)) .nil))) .nil))))) (.seq (.ret (.blt .tuple (.cons (.lc [2, 3] (.tc (.n 2) (.tc (.n 3) .t0)) (.v 1) (.v 3) (.v 2)) .nil))) .nil))⟩⟩
def d14 : Df := ⟨14, "all_faults", top 16, ["measure", "found", "one"], ⟨1, 3, [], (.seq (.set 1 (.lc [2] (.n 2) (.call 3 (.cons (.v 0) .nil)) .no (.bin .add (.tup (.cons (.c (.str "rising")) .nil)) (.v 2)))) (.seq (.ext 1 (.lc [2] (.n 2) (.call 4 (.cons (.v 0) .nil)) .no (.bin .add (.tup (.cons (.c (.str "strict")) .nil)) (.v 2)))) (.seq (.ret (.blt .tuple (.cons (.bin .add (.v 1) (.lc [2] (.n 2) (.call 5 (.cons (.v 0) .nil)) .no (.bin .add (.tup (.cons (.c (.str "orders")) .nil)) (.v 2)))) .nil))) .nil)))⟩⟩
def d15 : Df := ⟨15, "is_fault_form", top 17, ["thing", "one"], ⟨1, 2, [], (.seq (.iff (.or (.not (.isi (.v 0) .tuple)) (.cmp .nin (.blt .len (.cons (.v 0) .nil)) (.tup (.cons (.c (.int 3)) (.cons (.c (.int 4)) .nil))))) (.seq (.ret (.c (.bool false))) .nil) .nil) (.seq (.iff (.not (.blt .all (.cons (.lc [1] (.n 1) (.sl (.v 0) .no (.c (.int 2))) .no (.isi (.v 1) .str)) .nil))) (.seq (.ret (.c (.bool false))) .nil) .nil) (.seq (.ret (.blt .all (.cons (.lc [1] (.n 1) (.sl (.v 0) (.c (.int 2)) .no) .no (.and (.isi (.v 1) .int) (.not (.isi (.v 1) .bool)))) .nil))) .nil)))⟩⟩
def d16 : Df := ⟨16, "are_faults", top 18, ["measure", "thing", "one"], ⟨2, 3, [], (.seq (.iff (.or (.not (.isi (.v 1) .tuple)) (.not (.blt .all (.cons (.lc [2] (.n 2) (.v 1) .no (.call 15 (.cons (.v 2) .nil))) .nil)))) (.seq (.ret (.c (.bool false))) .nil) .nil) (.seq (.ret (.cmp .eq (.v 1) (.call 14 (.cons (.v 0) .nil)))) .nil))⟩⟩
def d17 : Df := ⟨17, "_law_bag", top 20, ["script", "cell"], ⟨1, 2, [], (.seq (.ret (.lst (.cons (.c (.int 0)) (.cons (.c (.int 1234567891)) (.cons (.c (.int 0)) (.cons (.lc [1] (.n 1) (.sl (.v 0) .no (.c (.int 63))) .no (.blt .abs (.cons (.v 1) .nil))) .nil)))))) .nil)⟩⟩
def d18 : Df := ⟨18, "_law_take", top 21, ["bag", "many", "begin", "second", "cell", "stirred", "value"], ⟨2, 7, [0], (.seq (.iff (.cmp .eq (.ix (.v 0) (.c (.int 0))) (.c (.int 0))) (.seq (.set 4 (.ix (.bin .add (.sl (.ix (.v 0) (.c (.int 3))) (.ix (.v 0) (.c (.int 2))) .no) (.lst (.cons (.c (.int 0)) .nil))) (.c (.int 0)))) (.seq (.augix 0 (.c (.int 2)) .add (.c (.int 1))) (.seq (.iff (.cmp .ge (.v 4) (.bin .pow (.c (.int 10)) (.c (.int 18)))) (.seq (.setix 0 (.c (.int 0)) (.v 4)) .nil) .nil) (.seq (.set 5 (.bin .add (.bin .add (.bin .mul (.ix (.v 0) (.c (.int 1))) (.c (.int 48271))) (.bin .mod (.blt .int (.cons (.v 4) .nil)) (.c (.int 2147483647)))) (.bin .mul (.c (.int 7919)) (.ix (.v 0) (.c (.int 2)))))) (.seq (.setix 0 (.c (.int 1)) (.bin .mod (.blt .int (.cons (.v 5) .nil)) (.c (.int 2147483647)))) .nil))))) .nil) (.seq (.iff (.cmp .gt (.ix (.v 0) (.c (.int 0))) (.c (.int 0))) (.seq (.set 6 (.bin .mod (.blt .int (.cons (.ix (.v 0) (.c (.int 0))) .nil)) (.v 1))) (.seq (.setix 0 (.c (.int 0)) (.bin .fdiv (.blt .int (.cons (.ix (.v 0) (.c (.int 0))) .nil)) (.v 1))) (.seq (.ret (.v 6)) .nil))) .nil) (.seq (.set 2 (.bin .mod (.blt .int (.cons (.bin .mul (.bin .add (.ix (.v 0) (.c (.int 1))) (.c (.int 1))) (.c (.int 39373))) .nil)) (.c (.int 1000000007)))) (.seq (.set 3 (.bin .mod (.blt .int (.cons (.bin .mul (.bin .mod (.blt .int (.cons (.bin .mul (.v 2) (.v 2)) .nil)) (.c (.int 998244353))) (.c (.int 30011))) .nil)) (.c (.int 998244353)))) (.seq (.ret (.bin .mod (.blt .int (.cons (.bin .fdiv (.v 3) (.c (.int 7))) .nil)) (.v 1))) .nil)))))⟩⟩
def d19 : Df := ⟨19, "_law_alike", top 22, ["found", "due"], ⟨2, 2, [], (.seq (.ret (.and (.cmp .eq (.blt .repr (.cons (.v 0) .nil)) (.blt .repr (.cons (.v 1) .nil))) (.cmp .eq (.v 0) (.v 1)))) .nil)⟩⟩
def d20 : Df := ⟨20, "_law_key", top 23, ["worth"], ⟨1, 1, [], (.seq (.ret (.ite (.cmp .is_ (.v 0) (.c .none)) (.c (.int 99)) (.v 0))) .nil)⟩⟩
def d21 : Df := ⟨21, "_law_measure", top 24, ["bag", "most", "labels", "many", "way", "found", "k", "table", "last", "w", "low", "worth"], ⟨3, 12, [0], (.seq (.par [3, 4, 5] (.cons (.bin .add (.c (.int 1)) (.call 18 (.cons (.io 0) (.cons (.v 1) .nil)))) (.cons (.call 18 (.cons (.io 0) (.cons (.c (.int 4)) .nil))) (.cons (.lst .nil) .nil)))) (.seq (.for_ (.n 6) (.rng1 (.bin .add (.c (.int 1)) (.call 18 (.cons (.io 0) (.cons (.v 2) .nil))))) (.seq (.par [7, 8] (.cons (.lst .nil) (.cons (.c (.int 0)) .nil))) (.seq (.for_ (.n 9) (.rng1 (.v 3)) (.seq (.set 10 (.ite (.cmp .eq (.v 4) (.c (.int 1))) (.v 9) (.ite (.cmp .eq (.v 4) (.c (.int 2))) (.blt .max (.cons (.v 9) (.cons (.v 8) .nil))) (.ite (.cmp .eq (.v 4) (.c (.int 3))) (.v 8) (.c (.int 0)))))) (.seq (.set 11 (.ite (.cmp .le (.v 10) (.v 3)) (.bin .add (.v 10) (.call 18 (.cons (.io 0) (.cons (.bin .sub (.bin .add (.v 3) (.c (.int 1))) (.v 10)) .nil)))) (.v 3))) (.seq (.set 11 (.ite (.and (.cmp .eq (.v 4) (.c (.int 2))) (.cmp .eq (.call 18 (.cons (.io 0) (.cons (.c (.int 2)) .nil))) (.c (.int 0)))) (.blt .min (.cons (.v 11) (.cons (.bin .add (.v 10) (.c (.int 1))) .nil))) (.v 11))) (.seq (.set 8 (.blt .max (.cons (.v 8) (.cons (.v 11) .nil)))) (.seq (.app 7 (.ite (.cmp .lt (.v 11) (.v 3)) (.v 11) (.c .none))) .nil)))))) (.seq (.app 5 (.tup (.cons (.ix (.c (.str "fgh")) (.v 6)) (.cons (.blt .tuple (.cons (.v 7) .nil)) .nil)))) .nil)))) (.seq (.ret (.tup (.cons (.blt .tuple (.cons (.lc [6] (.n 6) (.rng1 (.v 3)) .no (.bin .add (.c (.str "w")) (.blt .str (.cons (.v 6) .nil)))) .nil)) (.cons (.blt .tuple (.cons (.v 5) .nil)) .nil)))) .nil)))⟩⟩
def d22 : Df := ⟨22, "_law_cells", top 25, ["measure", "found", "label", "table", "w"], ⟨1, 5, [], (.seq (.set 1 (.lst .nil)) (.seq (.for_ (.tc (.n 2) (.tc (.n 3) .t0)) (.ix (.v 0) (.c (.int 1))) (.seq (.ext 1 (.lc [4] (.n 4) (.rng1 (.blt .len (.cons (.v 3) .nil))) .no (.tup (.cons (.v 2) (.cons (.v 4) (.cons (.ix (.v 3) (.v 4)) .nil)))))) .nil)) (.seq (.ret (.v 1)) .nil)))⟩⟩
def d23 : Df := ⟨23, "_law_faults", top 26, ["measure", "rising", "strict", "orders", "label", "table", "v", "w", "to"], ⟨1, 9, [], (.seq (.set 1 (.lc [4, 7, 8] (.tc (.n 4) (.tc (.n 7) (.tc (.n 8) .t0))) (.call 22 (.cons (.v 0) .nil)) (.cmp .lt (.call 20 (.cons (.v 8) .nil)) (.v 7)) (.tup (.cons (.v 4) (.cons (.v 7) .nil))))) (.seq (.set 2 (.lc [4, 7, 8] (.tc (.n 4) (.tc (.n 7) (.tc (.n 8) .t0))) (.call 22 (.cons (.v 0) .nil)) (.cmp .le (.call 20 (.cons (.v 8) .nil)) (.v 7)) (.tup (.cons (.v 4) (.cons (.v 7) .nil))))) (.seq (.set 3 (.lst .nil)) (.seq (.for_ (.tc (.n 4) (.tc (.n 5) .t0)) (.ix (.v 0) (.c (.int 1))) (.seq (.for_ (.n 6) (.rng1 (.blt .len (.cons (.v 5) .nil))) (.seq (.ext 3 (.lc [7] (.n 7) (.rng2 (.bin .add (.v 6) (.c (.int 1))) (.blt .len (.cons (.v 5) .nil))) (.cmp .gt (.call 20 (.cons (.ix (.v 5) (.v 6)) .nil)) (.call 20 (.cons (.ix (.v 5) (.v 7)) .nil))) (.tup (.cons (.v 4) (.cons (.v 6) (.cons (.v 7) .nil)))))) .nil)) .nil)) (.seq (.ret (.tup (.cons (.v 1) (.cons (.v 2) (.cons (.v 3) .nil))))) .nil)))))⟩⟩
def d24 : Df := ⟨24, "_law_near", top 27, ["measure", "found", "label", "table", "w"], ⟨1, 5, [], (.seq (.set 1 (.lst .nil)) (.seq (.for_ (.tc (.n 2) (.tc (.n 3) .t0)) (.ix (.v 0) (.c (.int 1))) (.seq (.ext 1 (.lc [4] (.n 4) (.rng1 (.bin .sub (.blt .len (.cons (.v 3) .nil)) (.c (.int 1)))) (.cmp .gt (.call 20 (.cons (.ix (.v 3) (.v 4)) .nil)) (.call 20 (.cons (.ix (.v 3) (.bin .add (.v 4) (.c (.int 1)))) .nil))) (.v 4))) .nil)) (.seq (.ret (.v 1)) .nil)))⟩⟩
def d25 : Df := ⟨25, "law", top 28, ["script", "bag", "lap", "measure", "rising", "strict", "orders", "firsts", "truths", "names", "due", "near", "thing", "lot", "name", "truth", "one"], ⟨1, 17, [], (.seq (.set 1 (.call 17 (.cons (.v 0) .nil))) (.seq (.for_ (.n 2) (.rng1 (.c (.int 6))) (.seq (.set 3 (.call 21 (.cons (.io 1) (.cons (.c (.int 6)) (.cons (.c (.int 3)) .nil))))) (.seq (.unp (.tc (.n 4) (.tc (.n 5) (.tc (.n 6) .t0))) (.call 23 (.cons (.v 3) .nil))) (.seq (.set 7 (.lc [13] (.n 13) (.tup (.cons (.v 4) (.cons (.v 5) (.cons (.v 6) .nil)))) .no (.ix (.bin .add (.v 13) (.lst (.cons (.c .none) .nil))) (.c (.int 0))))) (.seq (.iff (.not (.call 19 (.cons (.lst (.cons (.call 7 (.cons (.v 3) .nil)) (.cons (.call 8 (.cons (.v 3) .nil)) (.cons (.call 9 (.cons (.v 3) .nil)) .nil)))) (.cons (.v 7) .nil)))) (.seq (.ret (.c (.bool false))) .nil) .nil) (.seq (.set 8 (.lst (.cons (.cmp .eq (.v 4) (.lst .nil)) (.cons (.cmp .eq (.v 5) (.lst .nil)) (.cons (.cmp .eq (.v 6) (.lst .nil)) .nil))))) (.seq (.iff (.or (.not (.call 19 (.cons (.lst (.cons (.call 10 (.cons (.v 3) .nil)) (.cons (.call 11 (.cons (.v 3) .nil)) (.cons (.call 12 (.cons (.v 3) .nil)) .nil)))) (.cons (.v 8) .nil)))) (.and (.ix (.v 8) (.c (.int 1))) (.not (.ix (.v 8) (.c (.int 0)))))) (.seq (.ret (.c (.bool false))) .nil) .nil) (.seq (.set 9 (.blt .sorted (.cons (.lc [14, 15] (.tc (.n 14) (.tc (.n 15) .t0)) (.zip (.tup (.cons (.c (.str "rising")) (.cons (.c (.str "strict")) (.cons (.c (.str "orders")) .nil)))) (.v 8)) (.v 15) (.v 14)) .nil))) (.seq (.set 10 (.blt .tuple (.cons (.bin .add (.bin .add (.lc [16] (.n 16) (.v 4) .no (.bin .add (.tup (.cons (.c (.str "rising")) .nil)) (.v 16))) (.lc [16] (.n 16) (.v 5) .no (.bin .add (.tup (.cons (.c (.str "strict")) .nil)) (.v 16)))) (.lc [16] (.n 16) (.v 6) .no (.bin .add (.tup (.cons (.c (.str "orders")) .nil)) (.v 16)))) .nil))) (.seq (.iff (.not (.call 19 (.cons (.lst (.cons (.call 13 (.cons (.v 3) .nil)) (.cons (.call 14 (.cons (.v 3) .nil)) (.cons (.call 16 (.cons (.v 3) (.cons (.v 10) .nil))) .nil)))) (.cons (.lst (.cons (.blt .tuple (.cons (.v 9) .nil)) (.cons (.v 10) (.cons (.c (.bool true)) .nil)))) .nil)))) (.seq (.ret (.c (.bool false))) .nil) .nil) (.seq (.set 11 (.call 24 (.cons (.v 3) .nil))) (.seq (.iff (.cmp .ne (.cmp .eq (.v 11) (.lst .nil)) (.ix (.v 8) (.c (.int 2)))) (.seq (.ret (.c (.bool false))) .nil) .nil) (.seq (.for_ (.n 12) (.lst (.cons (.sl (.v 10) (.c (.int 1)) .no) (.cons (.bin .add (.v 10) (.sl (.v 10) (.neg (.c (.int 1))) .no)) (.cons (.rev (.v 10)) (.cons (.blt .list (.cons (.v 10) .nil)) (.cons (.c .none) (.cons (.bin .add (.v 10) (.tup (.cons (.c .none) .nil))) (.cons (.bin .add (.v 10) (.tup (.cons (.tup (.cons (.c (.str "rising")) (.cons (.c (.str "f")) (.cons (.c (.bool true)) .nil)))) .nil))) (.cons (.bin .add (.v 10) (.tup (.cons (.tup (.cons (.c (.str "zoo")) (.cons (.c (.str "f")) (.cons (.c (.int 0)) .nil)))) .nil))) .nil))))))))) (.seq (.iff (.and (.cmp .ne (.v 12) (.v 10)) (.cmp .isn (.call 16 (.cons (.v 3) (.cons (.v 12) .nil))) (.c (.bool false)))) (.seq (.ret (.c (.bool false))) .nil) .nil) .nil)) .nil))))))))))))) (.seq (.ret (.c (.bool true))) .nil)))⟩⟩
def ds : List Df := [d0, d1, d2, d3, d4, d5, d6, d7, d8, d9, d10, d11, d12, d13, d14, d15, d16, d17, d18, d19, d20, d21, d22, d23, d24, d25]
theorem oks : ds.all (okDf (tabOf ds)) = true := by decide +kernel
theorem b0 : BindP d0 := fun _ _ _ _ _ _ us hl => by
  have hl : us.length = 2 := hl
  match us, hl with
  | [_, _], _ => rfl
theorem b1 : BindP d1 := fun _ _ _ _ _ _ us hl => by
  have hl : us.length = 2 := hl
  match us, hl with
  | [_, _], _ => rfl
theorem b2 : BindP d2 := fun _ _ _ _ _ _ us hl => by
  have hl : us.length = 1 := hl
  match us, hl with
  | [_], _ => rfl
theorem b3 : BindP d3 := fun _ _ _ _ _ _ us hl => by
  have hl : us.length = 1 := hl
  match us, hl with
  | [_], _ => rfl
theorem b4 : BindP d4 := fun _ _ _ _ _ _ us hl => by
  have hl : us.length = 1 := hl
  match us, hl with
  | [_], _ => rfl
theorem b5 : BindP d5 := fun _ _ _ _ _ _ us hl => by
  have hl : us.length = 1 := hl
  match us, hl with
  | [_], _ => rfl
theorem b6 : BindP d6 := fun _ _ _ _ _ _ us hl => by
  have hl : us.length = 1 := hl
  match us, hl with
  | [_], _ => rfl
theorem b7 : BindP d7 := fun _ _ _ _ _ _ us hl => by
  have hl : us.length = 1 := hl
  match us, hl with
  | [_], _ => rfl
theorem b8 : BindP d8 := fun _ _ _ _ _ _ us hl => by
  have hl : us.length = 1 := hl
  match us, hl with
  | [_], _ => rfl
theorem b9 : BindP d9 := fun _ _ _ _ _ _ us hl => by
  have hl : us.length = 1 := hl
  match us, hl with
  | [_], _ => rfl
theorem b10 : BindP d10 := fun _ _ _ _ _ _ us hl => by
  have hl : us.length = 1 := hl
  match us, hl with
  | [_], _ => rfl
theorem b11 : BindP d11 := fun _ _ _ _ _ _ us hl => by
  have hl : us.length = 1 := hl
  match us, hl with
  | [_], _ => rfl
theorem b12 : BindP d12 := fun _ _ _ _ _ _ us hl => by
  have hl : us.length = 1 := hl
  match us, hl with
  | [_], _ => rfl
theorem b13 : BindP d13 := fun _ _ _ _ _ _ us hl => by
  have hl : us.length = 1 := hl
  match us, hl with
  | [_], _ => rfl
theorem b14 : BindP d14 := fun _ _ _ _ _ _ us hl => by
  have hl : us.length = 1 := hl
  match us, hl with
  | [_], _ => rfl
theorem b15 : BindP d15 := fun _ _ _ _ _ _ us hl => by
  have hl : us.length = 1 := hl
  match us, hl with
  | [_], _ => rfl
theorem b16 : BindP d16 := fun _ _ _ _ _ _ us hl => by
  have hl : us.length = 2 := hl
  match us, hl with
  | [_, _], _ => rfl
theorem b17 : BindP d17 := fun _ _ _ _ _ _ us hl => by
  have hl : us.length = 1 := hl
  match us, hl with
  | [_], _ => rfl
theorem b18 : BindP d18 := fun _ _ _ _ _ _ us hl => by
  have hl : us.length = 2 := hl
  match us, hl with
  | [_, _], _ => rfl
theorem b19 : BindP d19 := fun _ _ _ _ _ _ us hl => by
  have hl : us.length = 2 := hl
  match us, hl with
  | [_, _], _ => rfl
theorem b20 : BindP d20 := fun _ _ _ _ _ _ us hl => by
  have hl : us.length = 1 := hl
  match us, hl with
  | [_], _ => rfl
theorem b21 : BindP d21 := fun _ _ _ _ _ _ us hl => by
  have hl : us.length = 3 := hl
  match us, hl with
  | [_, _, _], _ => rfl
theorem b22 : BindP d22 := fun _ _ _ _ _ _ us hl => by
  have hl : us.length = 1 := hl
  match us, hl with
  | [_], _ => rfl
theorem b23 : BindP d23 := fun _ _ _ _ _ _ us hl => by
  have hl : us.length = 1 := hl
  match us, hl with
  | [_], _ => rfl
theorem b24 : BindP d24 := fun _ _ _ _ _ _ us hl => by
  have hl : us.length = 1 := hl
  match us, hl with
  | [_], _ => rfl
theorem b25 : BindP d25 := fun _ _ _ _ _ _ us hl => by
  have hl : us.length = 1 := hl
  match us, hl with
  | [_], _ => rfl
theorem bds : ∀ d ∈ ds, BindP d := by
  intro d h
  simp only [ds, List.mem_cons, List.not_mem_nil, or_false] at h
  rcases h with rfl | rfl | rfl | rfl | rfl | rfl | rfl | rfl | rfl | rfl | rfl | rfl | rfl | rfl | rfl | rfl | rfl | rfl | rfl | rfl | rfl | rfl | rfl | rfl | rfl | rfl
  · exact b0
  · exact b1
  · exact b2
  · exact b3
  · exact b4
  · exact b5
  · exact b6
  · exact b7
  · exact b8
  · exact b9
  · exact b10
  · exact b11
  · exact b12
  · exact b13
  · exact b14
  · exact b15
  · exact b16
  · exact b17
  · exact b18
  · exact b19
  · exact b20
  · exact b21
  · exact b22
  · exact b23
  · exact b24
  · exact b25
def nms : List Str := (["is_better", "worse", "cells", "rising_faults", "strict_faults", "order_faults", "first_of", "rising_fault", "strict_fault", "order_fault", "is_rising", "is_strict", "keeps_orders", "properties", "all_faults", "is_fault_form", "are_faults", "_law_bag", "_law_take", "_law_alike", "_law_key", "_law_measure", "_law_cells", "_law_faults", "_law_near"] : List Str)
abbrev TR : PySem.W.OpenRow := PySem.W.OpenLaw.row PySem.Challenge.rw_anymeasure_k25_whole_properties_of_measu
abbrev hk : PySem.W.Hook := He.hookD 4 (fasOf ds) (fnsOf ds)
def ob (s : PySem.W.SharedT) : He.AlD := He.obsDG 4 (fasOf ds) (fnsOf ds) (HandSHeadRun.getT s)
theorem ob_eq (s : PySem.W.SharedT) : ob s = hk.obs s.abs := He.obsDG_eq (HandSHeadRun.getT_eq s)
theorem run (w : World) : HandSHeadRun.RunEq TR (PySem.W.view TR.prog [28]) hk ob 3000 nms w := by
  intro os
  kernel_rfl
end K25
set_option Elab.async false
set_option linter.all false
set_option maxRecDepth 100000
set_option maxHeartbeats 1000000
namespace K25
open PySem PySem.Spec PyProof.Rows L2 Dv
def optD : Option Int → D
  | none => .none
  | some i => .int i
def better (a b : Option Int) : Bool := match a with
  | none => false
  | some i => match b with
    | none => true
    | some j => decide (i < j)
theorem c0 {n : Nat} {a b : Option Int} : callF (TOf ds) (n + 1) 0 [.d (optD a), .d (optD b)] = .ok (.d (.bool (better a b))) [none, none] := by
  rw [callF_go (fd := d0.fd) rfl rfl]
  cases a <;> cases b <;> simp [d0, evS, evT, evB, R.bind, R.sr, SR.then, ended, keepE, startE, blanks, rd, optD, frz, cmp, isD, noneD, lift, asV, O.own, asB, Dv.fresh, better, ltD, O.fr]
theorem c1 {n : Nat} {a b : Option Int} : callF (TOf ds) (n + 2) 1 [.d (optD a), .d (optD b)] = .ok (.d (.bool (better b a))) [none, none] := by
  rw [callF_go (fd := d1.fd) rfl rfl]
  simp [d1, evS, evT, evB, evA, R.bind, R.sr, SR.then, ended, keepE, startE, blanks, rd, frz, lift, asV, O.own, O.fr, calling, argsO, argO, calld, putBack, ioSlots, noDup, c0]
/-- a table of a measure; a measure -/
abbrev Tb := Str × List (Option Int)
def tabD (t : Tb) : D := .tuple [.str t.1, .tuple (t.2.map optD)]
def meaD (nm : D) (ts : List Tb) : D := .tuple [nm, .tuple (ts.map tabD)]
abbrev Ce := Str × Int × Option Int
def ceD (c : Ce) : D := .tuple [.str c.1, .int c.2.1, optD c.2.2]
def cellsFrom (l : Str) : Nat → List (Option Int) → List Ce
  | _, [] => []
  | k, o :: r => (l, (k : Int), o) :: cellsFrom l (k + 1) r
def cellsOf (ts : List Tb) : List Ce := ts.flatMap fun t => cellsFrom t.1 0 t.2
def Ok (ts : List Tb) : Prop := ts.length ≤ 3 ∧ ∀ t ∈ ts, t.2.length ≤ 6 ∧ (∃ c, t.1 = ⟨#[c]⟩ ∧ t.1 ∈ (["f", "g", "h"] : List Str)) ∧ ∀ o ∈ t.2, ∀ i, o = some i → 0 ≤ i ∧ i < 6
theorem enum_map (l : Str) : ∀ (k : Nat) (os : List (Option Int)), enumFrom k (os.map optD) = (cellsFrom l k os).map fun c => .tuple [.int c.2.1, optD c.2.2]
  | _, [] => rfl
  | k, o :: r => by
    rw [List.map_cons, enumFrom, enum_map l (k + 1) r]
    rfl
theorem mkL_d {α : Type} {f : α → D} : ∀ {xs : List α}, mkL (xs.map fun a => O.d (f a)) = .ls (xs.map f) := by
  intro xs
  have : leaves (xs.map fun a => O.d (f a)) = some (xs.map f) := by
    induction xs with
    | nil => rfl
    | cons a r ih => rw [List.map_cons, leaves, ih]; rfl
  unfold mkL
  rw [this]
theorem cells_len (l : Str) : ∀ (k : Nat) (os : List (Option Int)), (cellsFrom l k os).length = os.length
  | _, [] => rfl
  | k, o :: r => by rw [cellsFrom, List.length_cons, List.length_cons, cells_len l (k + 1) r]
theorem flat_le {α β : Type} {f : α → List β} {m : Nat} : ∀ {xs : List α}, (∀ a ∈ xs, (f a).length ≤ m) → (xs.flatMap f).length ≤ m * xs.length
  | [], _ => Nat.zero_le _
  | a :: r, h => by
    rw [List.flatMap_cons, List.length_append, List.length_cons, Nat.mul_succ]
    have := flat_le (f := f) (m := m) (xs := r) fun b hb => h b (List.mem_cons_of_mem _ hb)
    have := h a List.mem_cons_self
    omega
theorem cells_le {ts : List Tb} (h : Ok ts) : (cellsOf ts).length ≤ 18 := by
  have := flat_le (f := fun t : Tb => cellsFrom t.1 0 t.2) (m := 6) (xs := ts) fun t ht => by rw [cells_len]; exact (h.2 t ht).1
  have h1 := h.1
  unfold cellsOf
  omega
theorem cells_map {α : Type} (f : Str → Ce → α) (l : Str) : ∀ (k : Nat) (os : List (Option Int)), (cellsFrom l k os).map (f l) = (cellsFrom l k os).map fun c => f c.1 c
  | _, [] => rfl
  | k, o :: r => by rw [cellsFrom, List.map_cons, List.map_cons, cells_map f l (k + 1) r]
theorem filter_all {α : Type} : ∀ {xs : List α}, xs.filter (fun _ => true) = xs
  | [] => rfl
  | a :: r => by rw [List.filter_cons, if_pos rfl, filter_all]
theorem cells_flat (ts : List Tb) : (ts.flatMap fun t => ((cellsFrom t.1 0 t.2).filter fun _ => true).map fun c : Ce => O.d (.tuple [.str t.1, .int c.2.1, optD c.2.2])) = (cellsOf ts).map fun c => O.d (ceD c) := by
  unfold cellsOf
  rw [List.map_flatMap]
  congr 1
  funext t
  rw [filter_all]
  exact cells_map (fun l c => O.d (.tuple [.str l, .int c.2.1, optD c.2.2])) t.1 0 t.2
theorem c2 {n : Nat} {nm : D} {ts : List Tb} (h : Ok ts) : callF (TOf ds) (n + 1) 2 [.d (meaD nm ts)] = .ok (.ls ((cellsOf ts).map ceD)) [none] := by
  rw [callF_go (fd := d2.fd) rfl rfl]
  have e := lc2_plain (cf := callF (TOf ds) n) (own := [1, 2, 3, 4]) (vs := [3, 4]) (g := .tc (.n 1) (.tc (.n 2) .t0)) (g' := .tc (.n 3) (.tc (.n 4) .t0)) (src := .ix (.v 0) (.c (.int 1))) (src' := .enum (.v 2)) (cond' := .no) (elt := .tup (.cons (.v 1) (.cons (.v 3) (.cons (.v 4) .nil)))) (ro := false)
    (ρ := [some (.d (meaD nm ts)), none, none, none, none]) (ρ1 := [some (.d (meaD nm ts)), none, none, none, none]) (d := tabD) (d' := fun c : Ce => .tuple [.int c.2.1, optD c.2.2]) (ys := fun t => cellsFrom t.1 0 t.2) (c := fun _ _ => true) (e := fun t c => .d (.tuple [.str t.1, .int c.2.1, optD c.2.2])) (xs := ts)
    (os := ts.map tabD) (by simp [evI, evB, rd, meaD, item, L2.atI, L2.ixN, R.bind, lift, srcOf, lentOf, asQ, O.own]) rfl (by simp) (by
      rw [cells_flat, List.length_map, sizeLine_eq]
      have := cells_le h
      omega) (fun t ht => by
      refine ⟨[some (.d (meaD nm ts)), some (.d (.str t.1)), some (.d (.tuple (t.2.map optD))), none, none], by simp [put, puts, tabD, Dv.wipe, Dv.st], _, by simp [evI, evB, rd, O.own, R.bind, srcOf, lentOf, asQ, enum_map t.1]; exact rfl, by simp [Dv.wipe, Dv.st], fun c hc => ?_⟩
      refine ⟨[some (.d (meaD nm ts)), some (.d (.str t.1)), some (.d (.tuple (t.2.map optD))), some (.d (.int c.2.1)), some (.d (optD c.2.2))], by simp [put, puts, Dv.wipe, Dv.st], _, by rw [evT], by simp [Dv.wipe, Dv.st], fun _ => ⟨_, by simp [evB, evL, rd, O.own, R.bind, asV, frzs, frz]; exact rfl, by simp [Dv.wipe, Dv.st]⟩⟩)
  rw [cells_flat, mkL_d] at e
  simp [d2, evS, startE, blanks, e, R.bind, R.sr, SR.then, ended, keepE, asV]
theorem c1w {n : Nat} {w : Int} {b : Option Int} : callF (TOf ds) (n + 2) 1 [.d (.int w), .d (optD b)] = .ok (.d (.bool (better b (some w)))) [none, none] := c1 (a := some w)
theorem c1v {n : Nat} {w : Int} {b : Option Int} : callF (TOf ds) (n + 2) 1 [.d (optD b), .d (.int w)] = .ok (.d (.bool (better (some w) b))) [none, none] := c1 (b := some w)
def ce2 (c : Ce) : D := .tuple [.str c.1, .int c.2.1]
def risingOf (ts : List Tb) : List Ce := (cellsOf ts).filter fun c => better c.2.2 (some c.2.1)
def strictOf (ts : List Tb) : List Ce := (cellsOf ts).filter fun c => !better (some c.2.1) c.2.2
theorem filter_le {α : Type} {p : α → Bool} {xs : List α} {m : Nat} (h : xs.length ≤ m) : (xs.filter p).length ≤ m := Nat.le_trans (List.length_filter_le p xs) h
theorem c3 {n : Nat} {nm : D} {ts : List Tb} (h : Ok ts) : callF (TOf ds) (n + 3) 3 [.d (meaD nm ts)] = .ok (.ls ((risingOf ts).map ce2)) [none] := by
  rw [callF_go (fd := d3.fd) rfl rfl]
  have e := lc_plain (cf := callF (TOf ds) (n + 2)) (own := [1, 2, 3]) (g := .tc (.n 1) (.tc (.n 2) (.tc (.n 3) .t0))) (src := .call 2 (.cons (.v 0) .nil)) (cond := .call 1 (.cons (.v 2) (.cons (.v 3) .nil))) (elt := .tup (.cons (.v 1) (.cons (.v 2) .nil))) (ro := false)
    (ρ := [some (.d (meaD nm ts)), none, none, none]) (ρ1 := [some (.d (meaD nm ts)), none, none, none]) (d := ceD) (c := fun c => better c.2.2 (some c.2.1)) (e := fun c => .d (ce2 c)) (lent := []) (xs := cellsOf ts) (os := (cellsOf ts).map ceD)
    (by simp [evI, evB, evA, rd, R.bind, srcOf, lentOf, asQ, asV, O.own, O.fr, frz, calling, ioSlots, noDup, argsO, argO, calld, putBack, c2 h]) rfl (by rw [sizeLine_eq]; have := filter_le (p := fun c : Ce => better c.2.2 (some c.2.1)) (cells_le h); omega) (fun c hc => by
      refine ⟨[some (.d (meaD nm ts)), some (.d (.str c.1)), some (.d (.int c.2.1)), some (.d (optD c.2.2))], by simp [put, puts, ceD, Dv.wipe, Dv.st], _, by simp [evT, evB, evA, rd, R.bind, asV, O.own, O.fr, frz, calling, ioSlots, noDup, argsO, argO, calld, putBack, c1w, lift, truth]; exact rfl, by simp [Dv.wipe, Dv.st], fun _ => ⟨_, by simp [evB, evL, rd, O.own, R.bind, asV, frzs, frz]; exact ⟨rfl, rfl⟩, by simp [Dv.wipe, Dv.st]⟩⟩)
  rw [mkL_d] at e
  simp [d3, evS, startE, blanks, e, R.bind, R.sr, SR.then, ended, keepE, asV]
  rfl
theorem c4 {n : Nat} {nm : D} {ts : List Tb} (h : Ok ts) : callF (TOf ds) (n + 3) 4 [.d (meaD nm ts)] = .ok (.ls ((strictOf ts).map ce2)) [none] := by
  rw [callF_go (fd := d4.fd) rfl rfl]
  have e := lc_plain (cf := callF (TOf ds) (n + 2)) (own := [1, 2, 3]) (g := .tc (.n 1) (.tc (.n 2) (.tc (.n 3) .t0))) (src := .call 2 (.cons (.v 0) .nil)) (cond := .not (.call 1 (.cons (.v 3) (.cons (.v 2) .nil)))) (elt := .tup (.cons (.v 1) (.cons (.v 2) .nil))) (ro := false)
    (ρ := [some (.d (meaD nm ts)), none, none, none]) (ρ1 := [some (.d (meaD nm ts)), none, none, none]) (d := ceD) (c := fun c => !better (some c.2.1) c.2.2) (e := fun c => .d (ce2 c)) (lent := []) (xs := cellsOf ts) (os := (cellsOf ts).map ceD)
    (by simp [evI, evB, evA, rd, R.bind, srcOf, lentOf, asQ, asV, O.own, O.fr, frz, calling, ioSlots, noDup, argsO, argO, calld, putBack, c2 h]) rfl (by rw [sizeLine_eq]; have := filter_le (p := fun c : Ce => !better (some c.2.1) c.2.2) (cells_le h); omega) (fun c hc => by
      refine ⟨[some (.d (meaD nm ts)), some (.d (.str c.1)), some (.d (.int c.2.1)), some (.d (optD c.2.2))], by simp [put, puts, ceD, Dv.wipe, Dv.st], _, by simp [evT, evB, evA, rd, R.bind, asV, O.own, O.fr, frz, calling, ioSlots, noDup, argsO, argO, calld, putBack, c1v, lift, truth]; exact rfl, by simp [Dv.wipe, Dv.st], fun _ => ⟨_, by simp [evB, evL, rd, O.own, R.bind, asV, frzs, frz]; exact ⟨rfl, rfl⟩, by simp [Dv.wipe, Dv.st]⟩⟩)
  rw [mkL_d] at e
  simp [d4, evS, startE, blanks, e, R.bind, R.sr, SR.then, ended, keepE, asV]
  rfl
abbrev Or := Str × Nat × Nat
def or3 (x : Or) : D := .tuple [.str x.1, .int (x.2.1 : Nat), .int (x.2.2 : Nat)]
def ordV (f : Option Int → Option Int → Bool) (t : Tb) (v : Nat) : List Or := ((List.range (t.2.length - (v + 1))).filter fun k => f (t.2.getD v none) (t.2.getD (v + 1 + k) none)).map fun k => (t.1, v, v + 1 + k)
def ordT (f : Option Int → Option Int → Bool) (t : Tb) : List Or := (List.range t.2.length).flatMap (ordV f t)
def ordersOf (f : Option Int → Option Int → Bool) (ts : List Tb) : List Or := ts.flatMap (ordT f)
theorem range0 (n : Nat) : Dv.range 0 (n : Int) = (List.range n).map fun k => .int ((k : Nat) : Int) := by
  unfold Dv.range
  simp
theorem range1 (v n : Nat) : Dv.range ((v : Int) + 1) (n : Int) = (List.range (n - (v + 1))).map fun k => .int ((v + 1 + k : Nat) : Int) := by
  unfold Dv.range
  have : ((n : Int) - ((v : Int) + 1)).toNat = n - (v + 1) := by omega
  rw [this]
  simp
theorem okR {lo n : Int} (h1 : 0 ≤ lo) (h2 : lo ≤ 1000) (h3 : 0 ≤ n) (h4 : n ≤ 1000) : okRange lo n = true := by
  unfold okRange
  exact decide_eq_true ⟨by omega, by omega, by omega, by omega⟩
theorem tab_at {os : List (Option Int)} {k : Nat} (h : k < os.length) : L2.atI (os.map optD) ((k : Nat) : Int) = some (optD (os.getD k none)) := by
  unfold L2.atI L2.ixN
  rw [List.length_map, if_pos (by omega), if_pos (by omega)]
  simp [List.getD_eq_getElem?_getD, h]
theorem ordV_le {f : Option Int → Option Int → Bool} {t : Tb} {v : Nat} (h : t.2.length ≤ 6) : (ordV f t v).length ≤ 6 := by
  unfold ordV
  rw [List.length_map]
  refine filter_le ?_
  rw [List.length_range]
  omega
theorem vs_le {f : Option Int → Option Int → Bool} {t : Tb} {vs : List Nat} (h : t.2.length ≤ 6) (hv : vs.length ≤ 6) : (vs.flatMap (ordV f t)).length ≤ 36 := by
  have := flat_le (f := ordV f t) (m := 6) (xs := vs) fun a _ => ordV_le h
  omega
theorem ts_le {f : Option Int → Option Int → Bool} {ts : List Tb} (h : ∀ t ∈ ts, t.2.length ≤ 6) (h3 : ts.length ≤ 3) : (ordersOf f ts).length ≤ 108 := by
  have := flat_le (f := ordT f) (m := 36) (xs := ts) fun t ht => vs_le (h t ht) (by rw [List.length_range]; exact h t ht)
  unfold ordersOf
  omega
/-- order_faults, one row -/
theorem lc5 {n : Nat} {m : D} {fo : O} {t : Tb} {v : Nat} {d : Option O} (t6 : t.2.length ≤ 6) (hv : v < t.2.length) :
    evB (callF (TOf ds) (n + 2)) (.lc [5] (.n 5) (.rng2 (.bin .add (.v 4) (.c (.int 1))) (.blt .len (.cons (.v 3) .nil))) (.call 1 (.cons (.ix (.v 3) (.v 4)) (.cons (.ix (.v 3) (.v 5)) .nil))) (.tup (.cons (.v 2) (.cons (.v 4) (.cons (.v 5) .nil))))) false
      [some (.d m), some fo, some (.d (.str t.1)), some (.d (.tuple (t.2.map optD))), some (.d (.int v)), d] =
    .ok (false, .ls ((ordV (fun a b => better b a) t v).map or3)) [some (.d m), some fo, some (.d (.str t.1)), some (.d (.tuple (t.2.map optD))), some (.d (.int v)), d] := by
  have el := lc_plain (cf := callF (TOf ds) (n + 2)) (own := [5]) (g := .n 5) (src := .rng2 (.bin .add (.v 4) (.c (.int 1))) (.blt .len (.cons (.v 3) .nil))) (cond := .call 1 (.cons (.ix (.v 3) (.v 4)) (.cons (.ix (.v 3) (.v 5)) .nil))) (elt := .tup (.cons (.v 2) (.cons (.v 4) (.cons (.v 5) .nil)))) (ro := false)
    (ρ := [some (.d m), some fo, some (.d (.str t.1)), some (.d (.tuple (t.2.map optD))), some (.d (.int v)), d]) (ρ1 := [some (.d m), some fo, some (.d (.str t.1)), some (.d (.tuple (t.2.map optD))), some (.d (.int v)), d])
    (d := fun k : Nat => .int ((v + 1 + k : Nat) : Int)) (c := fun k => better (t.2.getD (v + 1 + k) none) (t.2.getD v none)) (e := fun k => .d (or3 (t.1, v, v + 1 + k))) (lent := []) (xs := List.range (t.2.length - (v + 1))) (os := Dv.range ((v : Int) + 1) (t.2.length : Int))
    (rng2_k (b := false) (b' := false) (by simp [evB, rd, R.bind, lift, Dv.bin, addD, O.own]; exact rfl) (by simp [evB, evW, rd, R.bind, lift, Dv.blt, O.own]) (okR (lo := (v : Int) + 1) (n := (t.2.length : Int)) (by omega) (by omega) (by omega) (by omega))) (range1 _ _) (by rw [sizeLine_eq]; have := filter_le (p := fun k => better (t.2.getD (v + 1 + k) none) (t.2.getD v none)) (show (List.range (t.2.length - (v + 1))).length ≤ 6 by rw [List.length_range]; omega); omega) (fun k hk => by
      have hk' : v + 1 + k < t.2.length := by have := List.mem_range.mp hk; omega
      have a1 := tab_at hv
      have a2 := tab_at hk'
      refine ⟨[some (.d m), some fo, some (.d (.str t.1)), some (.d (.tuple (t.2.map optD))), some (.d (.int v)), some (.d (.int ((v + 1 + k : Nat) : Int)))], by simp [put, Dv.wipe, Dv.st], [some (.d m), some fo, some (.d (.str t.1)), some (.d (.tuple (t.2.map optD))), some (.d (.int v)), some (.d (.int ((v + 1 + k : Nat) : Int)))], ?_, ?_, fun _ => ⟨[some (.d m), some fo, some (.d (.str t.1)), some (.d (.tuple (t.2.map optD))), some (.d (.int v)), some (.d (.int ((v + 1 + k : Nat) : Int)))], by simp [evB, evL, rd, O.own, R.bind, asV, frzs, frz, or3], by simp [Dv.wipe, Dv.st]⟩⟩
      · simp only [evT, evB, evA, rd, R.bind, asV, O.own, O.fr, frz, calling, ioSlots, noDup, argsO, argO, calld, putBack, lift, truth, item, a1, a2, Option.map_some, Bool.false_and, Bool.or_false, Bool.not_false, Bool.true_or, List.isEmpty_nil, Bool.and_self, if_true, c1]
      · simp [Dv.wipe, Dv.st])
  rw [mkL_d] at el
  rw [el]
  unfold ordV
  rw [List.map_map]
  rfl
def wo (a b : Option Int) : Bool := better b a
theorem for5 {n : Nat} {m : D} {t : Tb} {os : List Or} {c d : Option O} (t6 : t.2.length ≤ 6) (ho : os.length ≤ 1000) :
    ∃ c' d', evS (callF (TOf ds) (n + 2)) (.for_ (.n 4) (.rng1 (.blt .len (.cons (.v 3) .nil))) (.seq (.ext 1 (.lc [5] (.n 5) (.rng2 (.bin .add (.v 4) (.c (.int 1))) (.blt .len (.cons (.v 3) .nil))) (.call 1 (.cons (.ix (.v 3) (.v 4)) (.cons (.ix (.v 3) (.v 5)) .nil))) (.tup (.cons (.v 2) (.cons (.v 4) (.cons (.v 5) .nil)))))) .nil)) []
      [some (.d m), some (.ls (os.map or3)), some (.d (.str t.1)), some (.d (.tuple (t.2.map optD))), c, d] =
    .nx [some (.d m), some (.ls ((os ++ ordT wo t).map or3)), some (.d (.str t.1)), some (.d (.tuple (t.2.map optD))), c', d'] := by
  obtain ⟨ρ', e, c', d', hr⟩ := for_pre (cf := callF (TOf ds) (n + 2)) (g := .n 4) (src := .rng1 (.blt .len (.cons (.v 3) .nil))) (io := []) (body := .seq (.ext 1 (.lc [5] (.n 5) (.rng2 (.bin .add (.v 4) (.c (.int 1))) (.blt .len (.cons (.v 3) .nil))) (.call 1 (.cons (.ix (.v 3) (.v 4)) (.cons (.ix (.v 3) (.v 5)) .nil))) (.tup (.cons (.v 2) (.cons (.v 4) (.cons (.v 5) .nil)))))) .nil)
    (ρ := [some (.d m), some (.ls (os.map or3)), some (.d (.str t.1)), some (.d (.tuple (t.2.map optD))), c, d]) (ρ1 := [some (.d m), some (.ls (os.map or3)), some (.d (.str t.1)), some (.d (.tuple (t.2.map optD))), c, d]) (d := fun k : Nat => .int (k : Int)) (xs := List.range t.2.length) (os := Dv.range 0 (t.2.length : Int))
    (I := fun pv ρ => ∃ c d, ρ = [some (.d m), some (.ls ((os ++ pv.flatMap (ordV wo t)).map or3)), some (.d (.str t.1)), some (.d (.tuple (t.2.map optD))), c, d])
    (rng1_k (b := false) (by simp [evB, evW, rd, R.bind, lift, Dv.blt, O.own]) (okR (Int.le_refl 0) (by decide) (by omega) (by omega))) (range0 _) rfl ⟨c, d, by simp⟩ (fun s ρ ⟨_, _, q⟩ => by rw [q]; rfl) (fun pv v post2 hsp2 ρ ⟨c, d, hρ⟩ => by
      subst hρ
      have hv : v < t.2.length := by
        have : v ∈ List.range t.2.length := by rw [hsp2]; simp
        exact List.mem_range.mp this
      have hpv : pv.length ≤ 6 := by have := congrArg List.length hsp2; simp at this; omega
      refine ⟨[some (.d m), some (.ls ((os ++ pv.flatMap (ordV wo t)).map or3)), some (.d (.str t.1)), some (.d (.tuple (t.2.map optD))), some (.d (.int v)), d], by simp [put, Dv.st], _, ?_, some (.d (.int v)), d, rfl⟩
      have hx := ext_k (cf := callF (TOf ds) (n + 2)) (i := 1) (io := []) (by rfl) (lc5 (n := n) (m := m) (fo := .ls ((os ++ pv.flatMap (ordV wo t)).map or3)) (d := d) t6 hv) (by rfl) (by
        rw [sizeLine_eq, List.length_map, List.length_append, List.length_map]
        have q2 := vs_le (f := wo) t6 hpv
        have q3 := ordV_le (f := fun a b => better b a) (v := v) t6
        omega)
      rw [evS, hx, SR.then_n, evS]
      simp [Dv.st]
      rfl)
  subst hr
  exact ⟨c', d', e⟩
theorem c5 {n : Nat} {nm : D} {ts : List Tb} (h : Ok ts) : callF (TOf ds) (n + 3) 5 [.d (meaD nm ts)] = .ok (.ls ((ordersOf wo ts).map or3)) [none] := by
  rw [callF_go (fd := d5.fd) rfl rfl]
  obtain ⟨ρ', e, a, b, c, d, hr⟩ := for_pre (cf := callF (TOf ds) (n + 2)) (g := .tc (.n 2) (.tc (.n 3) .t0)) (src := .ix (.v 0) (.c (.int 1))) (io := []) (body := .seq (.for_ (.n 4) (.rng1 (.blt .len (.cons (.v 3) .nil))) (.seq (.ext 1 (.lc [5] (.n 5) (.rng2 (.bin .add (.v 4) (.c (.int 1))) (.blt .len (.cons (.v 3) .nil))) (.call 1 (.cons (.ix (.v 3) (.v 4)) (.cons (.ix (.v 3) (.v 5)) .nil))) (.tup (.cons (.v 2) (.cons (.v 4) (.cons (.v 5) .nil)))))) .nil)) .nil)
    (ρ := [some (.d (meaD nm ts)), some (.ls []), none, none, none, none]) (ρ1 := [some (.d (meaD nm ts)), some (.ls []), none, none, none, none]) (d := tabD) (xs := ts) (os := ts.map tabD)
    (I := fun pre ρ => ∃ a b c d, ρ = [some (.d (meaD nm ts)), some (.ls ((ordersOf wo pre).map or3)), a, b, c, d])
    (by simp [evI, evB, rd, meaD, item, L2.atI, L2.ixN, R.bind, lift, srcOf, lentOf, asQ, O.own]) rfl rfl ⟨_, _, _, _, rfl⟩ (fun s ρ ⟨_, _, _, _, q⟩ => by rw [q]; rfl) (fun pre t post hsp ρ ⟨a, b, c, d, hρ⟩ => by
      have ht : t ∈ ts := by rw [hsp]; simp
      have hpl : pre.length ≤ 3 := by have := h.1; rw [hsp] at this; simp at this; omega
      have hp6 : ∀ t ∈ pre, t.2.length ≤ 6 := fun t ht => (h.2 t (by rw [hsp]; exact List.mem_append_left _ ht)).1
      have q1 := ts_le (f := wo) hp6 hpl
      obtain ⟨c', d', e⟩ := for5 (n := n) (m := meaD nm ts) (t := t) (os := ordersOf wo pre) (c := c) (d := d) (h.2 t ht).1 (by omega)
      subst hρ
      refine ⟨[some (.d (meaD nm ts)), some (.ls ((ordersOf wo pre).map or3)), some (.d (.str t.1)), some (.d (.tuple (t.2.map optD))), c, d], by simp [put, puts, tabD, Dv.st], _, by rw [evS, e, SR.then_n, evS], some (.d (.str t.1)), some (.d (.tuple (t.2.map optD))), c', d', ?_⟩
      simp [ordersOf])
  subst hr
  simp only [d5, startE, blanks]
  rw [evS, evS]
  simp only [List.contains_nil, Bool.false_eq_true, if_false, evB, evL, mkL, leaves, R.bind, asV, R.sr, SR.then_n, Dv.st]
  rw [evS, e, SR.then_n, evS, evS]
  simp [rd, SR.then, ended, keepE]
def firstD : List D → D
  | [] => .none
  | x :: _ => x
theorem c6 {n : Nat} {xs : List D} : callF (TOf ds) (n + 1) 6 [.d (.list xs)] = .ok (.d (firstD xs)) [none] := by
  rw [callF_go (fd := d6.fd) rfl rfl]
  cases xs with
  | nil => simp [d6, evS, evT, evB, evW, R.bind, R.sr, SR.then, ended, keepE, startE, blanks, rd, frz, lift, asV, O.own, O.fr, Dv.fresh, cmp, ltD, Dv.blt, firstD]
  | cons x r =>
    have : (0 : Int) < (r.length : Int) + 1 := by omega
    simp [d6, evS, evT, evB, evW, R.bind, R.sr, SR.then, ended, keepE, startE, blanks, rd, frz, lift, asV, O.own, O.fr, Dv.fresh, cmp, ltD, Dv.blt, firstD, this, item, L2.atI, L2.ixN]
theorem c7 {n : Nat} {nm : D} {ts : List Tb} (h : Ok ts) : callF (TOf ds) (n + 4) 7 [.d (meaD nm ts)] = .ok (.d (firstD ((risingOf ts).map ce2))) [none] := by
  rw [callF_go (fd := d7.fd) rfl rfl]
  simp [d7, evS, evB, evA, R.bind, R.sr, SR.then, ended, keepE, startE, blanks, rd, frz, lift, asV, O.own, O.fr, calling, argsO, argO, calld, putBack, ioSlots, noDup, c3 h, c6]
theorem c8 {n : Nat} {nm : D} {ts : List Tb} (h : Ok ts) : callF (TOf ds) (n + 4) 8 [.d (meaD nm ts)] = .ok (.d (firstD ((strictOf ts).map ce2))) [none] := by
  rw [callF_go (fd := d8.fd) rfl rfl]
  simp [d8, evS, evB, evA, R.bind, R.sr, SR.then, ended, keepE, startE, blanks, rd, frz, lift, asV, O.own, O.fr, calling, argsO, argO, calld, putBack, ioSlots, noDup, c4 h, c6]
theorem c9 {n : Nat} {nm : D} {ts : List Tb} (h : Ok ts) : callF (TOf ds) (n + 4) 9 [.d (meaD nm ts)] = .ok (.d (firstD ((ordersOf wo ts).map or3))) [none] := by
  rw [callF_go (fd := d9.fd) rfl rfl]
  simp [d9, evS, evB, evA, R.bind, R.sr, SR.then, ended, keepE, startE, blanks, rd, frz, lift, asV, O.own, O.fr, calling, argsO, argO, calld, putBack, ioSlots, noDup, c5 h, c6]
theorem c10 {n : Nat} {nm : D} {ts : List Tb} (h : Ok ts) : callF (TOf ds) (n + 5) 10 [.d (meaD nm ts)] = .ok (.d (.bool (noneD (firstD ((risingOf ts).map ce2))))) [none] := by
  rw [callF_go (fd := d10.fd) rfl rfl]
  simp [d10, evS, evB, evA, R.bind, R.sr, SR.then, ended, keepE, startE, blanks, rd, frz, lift, asV, O.own, O.fr, calling, argsO, argO, calld, putBack, ioSlots, noDup, c7 h, cmp, isD]
theorem c11 {n : Nat} {nm : D} {ts : List Tb} (h : Ok ts) : callF (TOf ds) (n + 5) 11 [.d (meaD nm ts)] = .ok (.d (.bool (noneD (firstD ((strictOf ts).map ce2))))) [none] := by
  rw [callF_go (fd := d11.fd) rfl rfl]
  simp [d11, evS, evB, evA, R.bind, R.sr, SR.then, ended, keepE, startE, blanks, rd, frz, lift, asV, O.own, O.fr, calling, argsO, argO, calld, putBack, ioSlots, noDup, c8 h, cmp, isD]
theorem c12 {n : Nat} {nm : D} {ts : List Tb} (h : Ok ts) : callF (TOf ds) (n + 5) 12 [.d (meaD nm ts)] = .ok (.d (.bool (noneD (firstD ((ordersOf wo ts).map or3))))) [none] := by
  rw [callF_go (fd := d12.fd) rfl rfl]
  simp [d12, evS, evB, evA, R.bind, R.sr, SR.then, ended, keepE, startE, blanks, rd, frz, lift, asV, O.own, O.fr, calling, argsO, argO, calld, putBack, ioSlots, noDup, c9 h, cmp, isD]
def keyI : Option Int → Int
  | none => 99
  | some i => i
theorem c20 {n : Nat} {a : Option Int} : callF (TOf ds) (n + 1) 20 [.d (optD a)] = .ok (.d (.int (keyI a))) [none] := by
  rw [callF_go (fd := d20.fd) rfl rfl]
  cases a <;> simp [d20, evS, evT, evB, R.bind, R.sr, SR.then, ended, keepE, startE, blanks, rd, optD, frz, cmp, isD, noneD, lift, asV, O.own, Dv.fresh, O.fr, keyI]
theorem lc22 {n : Nat} {m : D} {fo : O} {t : Tb} {d : Option O} (t6 : t.2.length ≤ 6) :
    evB (callF (TOf ds) n) (.lc [4] (.n 4) (.rng1 (.blt .len (.cons (.v 3) .nil))) .no (.tup (.cons (.v 2) (.cons (.v 4) (.cons (.ix (.v 3) (.v 4)) .nil))))) false
      [some (.d m), some fo, some (.d (.str t.1)), some (.d (.tuple (t.2.map optD))), d] =
    .ok (false, .ls ((List.range t.2.length).map fun k : Nat => ceD (t.1, (k : Int), t.2.getD k none))) [some (.d m), some fo, some (.d (.str t.1)), some (.d (.tuple (t.2.map optD))), d] := by
  have el := lc_plain (cf := callF (TOf ds) n) (own := [4]) (g := .n 4) (src := .rng1 (.blt .len (.cons (.v 3) .nil))) (cond := .no) (elt := .tup (.cons (.v 2) (.cons (.v 4) (.cons (.ix (.v 3) (.v 4)) .nil)))) (ro := false)
    (ρ := [some (.d m), some fo, some (.d (.str t.1)), some (.d (.tuple (t.2.map optD))), d]) (ρ1 := [some (.d m), some fo, some (.d (.str t.1)), some (.d (.tuple (t.2.map optD))), d])
    (d := fun k : Nat => .int (k : Int)) (c := fun _ => true) (e := fun k => .d (ceD (t.1, (k : Int), t.2.getD k none))) (lent := []) (xs := List.range t.2.length) (os := Dv.range 0 (t.2.length : Int))
    (rng1_k (b := false) (by simp [evB, evW, rd, R.bind, lift, Dv.blt, O.own]) (okR (Int.le_refl 0) (by decide) (by omega) (by omega))) (range0 _) (by rw [filter_all, sizeLine_eq, List.length_range]; omega) (fun k hk => by
      have a1 := tab_at (List.mem_range.mp hk)
      refine ⟨[some (.d m), some fo, some (.d (.str t.1)), some (.d (.tuple (t.2.map optD))), some (.d (.int (k : Int)))], by simp [put, Dv.wipe, Dv.st], [some (.d m), some fo, some (.d (.str t.1)), some (.d (.tuple (t.2.map optD))), some (.d (.int (k : Int)))], by rw [evT], by simp [Dv.wipe, Dv.st], fun _ => ⟨[some (.d m), some fo, some (.d (.str t.1)), some (.d (.tuple (t.2.map optD))), some (.d (.int (k : Int)))], ?_, by simp [Dv.wipe, Dv.st]⟩⟩
      simp only [evB, evL, rd, O.own, R.bind, asV, frzs, frz, lift, item, a1, Option.map_some, ceD, Bool.false_and])
  rw [filter_all, mkL_d] at el
  exact el
theorem cells_range (l : Str) : ∀ (os : List (Option Int)) (k : Nat), cellsFrom l k os = (List.range os.length).map fun j : Nat => (l, ((k + j : Nat) : Int), os.getD j none)
  | [], _ => rfl
  | o :: r, k => by
    rw [cellsFrom, cells_range l r (k + 1), List.length_cons, List.range_succ_eq_map, List.map_cons, List.map_map]
    congr 1
    refine List.map_congr_left fun j _ => ?_
    show (l, ((k + 1 + j : Nat) : Int), r.getD j none) = (l, ((k + (j + 1) : Nat) : Int), (o :: r).getD (j + 1) none)
    rw [show k + 1 + j = k + (j + 1) by omega]
    rfl
theorem c22 {n : Nat} {nm : D} {ts : List Tb} (h : Ok ts) : callF (TOf ds) (n + 1) 22 [.d (meaD nm ts)] = .ok (.ls ((cellsOf ts).map ceD)) [none] := by
  rw [callF_go (fd := d22.fd) rfl rfl]
  obtain ⟨ρ', e, a, b, c, hr⟩ := for_pre (cf := callF (TOf ds) n) (g := .tc (.n 2) (.tc (.n 3) .t0)) (src := .ix (.v 0) (.c (.int 1))) (io := []) (body := .seq (.ext 1 (.lc [4] (.n 4) (.rng1 (.blt .len (.cons (.v 3) .nil))) .no (.tup (.cons (.v 2) (.cons (.v 4) (.cons (.ix (.v 3) (.v 4)) .nil)))))) .nil)
    (ρ := [some (.d (meaD nm ts)), some (.ls []), none, none, none]) (ρ1 := [some (.d (meaD nm ts)), some (.ls []), none, none, none]) (d := tabD) (xs := ts) (os := ts.map tabD)
    (I := fun pre ρ => ∃ a b c, ρ = [some (.d (meaD nm ts)), some (.ls ((cellsOf pre).map ceD)), a, b, c])
    (by simp [evI, evB, rd, meaD, item, L2.atI, L2.ixN, R.bind, lift, srcOf, lentOf, asQ, O.own]) rfl rfl ⟨_, _, _, rfl⟩ (fun s ρ ⟨_, _, _, q⟩ => by rw [q]; rfl) (fun pre t post hsp ρ ⟨a, b, c, hρ⟩ => by
      have ht : t ∈ ts := by rw [hsp]; simp
      have hpl : pre.length ≤ 3 := by have := h.1; rw [hsp] at this; simp at this; omega
      have q1 := cells_le (ts := pre) ⟨hpl, fun t ht => h.2 t (by rw [hsp]; exact List.mem_append_left _ ht)⟩
      have t6 := (h.2 t ht).1
      have hx := ext_k (cf := callF (TOf ds) n) (i := 1) (io := []) (by rfl) (lc22 (n := n) (m := meaD nm ts) (fo := .ls ((cellsOf pre).map ceD)) (t := t) (d := c) t6) (by rfl) (by
        rw [sizeLine_eq, List.length_map, List.length_map, List.length_range]
        omega)
      subst hρ
      refine ⟨[some (.d (meaD nm ts)), some (.ls ((cellsOf pre).map ceD)), some (.d (.str t.1)), some (.d (.tuple (t.2.map optD))), c], by simp [put, puts, tabD, Dv.st], _, by rw [evS, hx, SR.then_n, evS], some (.d (.str t.1)), some (.d (.tuple (t.2.map optD))), c, ?_⟩
      simp [cellsOf, Dv.st, cells_range t.1 t.2 0, Function.comp_def])
  subst hr
  simp only [d22, startE, blanks]
  rw [evS, evS]
  simp only [List.contains_nil, Bool.false_eq_true, if_false, evB, evL, mkL, leaves, R.bind, asV, R.sr, SR.then_n, Dv.st]
  rw [evS, e, SR.then_n, evS, evS]
  simp [rd, SR.then, ended, keepE]
def bagO (a b c : Int) (ys : List Int) : O := .nl [.d (.int a), .d (.int b), .d (.int c), .ls (ys.map .int)]
def absI (i : Int) : Int := if i < 0 then -i else i
theorem c17 {n : Nat} {zs : List Int} (h : zs.length ≤ 63) : ∃ π, callF (TOf ds) (n + 1) 17 [.d (.list (zs.map .int))] = .ok (bagO 0 1234567891 0 (zs.map absI)) π := by
  rw [callF_go (fd := d17.fd) rfl rfl]
  have el := lc_plain (cf := callF (TOf ds) n) (own := [1]) (g := .n 1) (src := .sl (.v 0) .no (.c (.int 63))) (cond := .no) (elt := .blt .abs (.cons (.v 1) .nil)) (ro := false)
    (ρ := [some (.d (.list (zs.map .int))), none]) (ρ1 := [some (.d (.list (zs.map .int))), none]) (d := fun z : Int => .int z) (c := fun _ => true) (e := fun z => .d (.int (absI z))) (lent := []) (xs := zs) (os := cutL (zs.map .int) none (some 63))
    (by simp [evI, evB, evO, rd, R.bind, lift, slice, O.own, asI, srcOf, lentOf, asQ]) (by
      have : (zs.map fun z : Int => PyData.int z).length ≤ 63 := by rw [List.length_map]; exact h
      have e : zs.length < 63 ∨ zs.length = 63 := by omega
      unfold cutL HT.sIx
      rw [List.take_of_length_le]
      · simp [HT.sIx]
      · rw [List.length_drop, List.length_map]
        rcases e with e | e <;> simp [e] <;> omega) (by rw [filter_all, sizeLine_eq]; omega) (fun z _ => by
      refine ⟨[some (.d (.list (zs.map .int))), some (.d (.int z))], by simp [put, Dv.wipe, Dv.st], [some (.d (.list (zs.map .int))), some (.d (.int z))], by rw [evT], by simp [Dv.wipe, Dv.st], fun _ => ⟨[some (.d (.list (zs.map .int))), some (.d (.int z))], by simp [evB, evW, rd, O.own, R.bind, asV, lift, Dv.blt, absI], by simp [Dv.wipe, Dv.st]⟩⟩)
  rw [filter_all, mkL_d] at el
  simp only [d17, startE, blanks]
  generalize (E.lc [1] (.n 1) (.sl (.v 0) .no (.c (.int 63))) .no (.blt .abs (.cons (.v 1) .nil))) = q at el ⊢
  simp [evS, evB, evL, el, R.bind, asV, R.sr, SR.then, ended, keepE, mkL, leaves, O.leaf?, bagO]
theorem cut_map {α β : Type} {f : α → β} {xs : List α} {a b : Option Int} : cutL (xs.map f) a b = (cutL xs a b).map f := by
  unfold cutL
  rw [List.length_map, List.map_take, List.map_drop]
theorem cut_mem {α : Type} {xs : List α} {a b : Option Int} {x : α} (h : x ∈ cutL xs a b) : x ∈ xs := List.mem_of_mem_drop (List.mem_of_mem_take h)
theorem cell_ok {ys : List Int} {c : Int} (hy : ∀ y ∈ ys, 0 ≤ y) : ∃ x, 0 ≤ x ∧ item (.ls (cutL (ys.map PyData.int) (some c) none ++ [.int 0])) (.d (.int 0)) = some (false, .d (.int x)) := by
  rw [cut_map]
  cases e : cutL ys (some c) none with
  | nil => exact ⟨0, Int.le_refl 0, by simp [item, L2.atI, L2.ixN]⟩
  | cons x r =>
    refine ⟨x, hy x (cut_mem (by rw [e]; exact List.mem_cons_self)), ?_⟩
    have : (0 : Int) < (r.length : Int) + 1 + 1 := by omega
    simp [item, L2.atI, L2.ixN, this]
theorem bag_ix {a b c : Int} {ys : List Int} : item (bagO a b c ys) (.d (.int 0)) = some (false, .d (.int a)) ∧ item (bagO a b c ys) (.d (.int 1)) = some (false, .d (.int b)) ∧ item (bagO a b c ys) (.d (.int 2)) = some (false, .d (.int c)) ∧ item (bagO a b c ys) (.d (.int 3)) = some (true, .ls (ys.map .int)) := by
  refine ⟨?_, ?_, ?_, ?_⟩ <;> simp [bagO, item, L2.atI, L2.ixN, O.own]
theorem bag_get {a b c : Int} {ys : List Int} : getAt (bagO a b c ys) (.d (.int 2)) = some (.int c) := by
  simp [bagO, getAt, L2.atI, L2.ixN, O.leaf?]
theorem bag_set {a b c x : Int} {ys : List Int} : setAt (bagO a b c ys) (.d (.int 0)) (.d (.int x)) = some (bagO x b c ys) ∧ setAt (bagO a b c ys) (.d (.int 1)) (.d (.int x)) = some (bagO a x c ys) ∧ setAt (bagO a b c ys) (.d (.int 2)) (.d (.int x)) = some (bagO a b x ys) := by
  refine ⟨?_, ?_, ?_⟩ <;> simp [bagO, setAt, L2.ixN]
theorem bag_own {a b c : Int} {ys : List Int} : (bagO a b c ys).own = true := rfl
theorem mul_r {i j : Int} (h1 : -(2 ^ 64) < j) (h2 : j < 2 ^ 64) : mulOk i j = true := decide_eq_true (.inr ⟨h1, h2⟩)
theorem mul_l {i j : Int} (h1 : -(2 ^ 64) < i) (h2 : i < 2 ^ 64) : mulOk i j = true := decide_eq_true (.inl ⟨h1, h2⟩)
end K25
set_option Elab.async false
set_option linter.all false
set_option maxRecDepth 100000
set_option maxHeartbeats 1000000
namespace K25
open PySem PySem.Spec PyProof.Rows L2 Dv
theorem mk1 {b : Int} : mulOk b 48271 = true := mul_r (by decide) (by decide)
theorem mk2 {b : Int} : mulOk 7919 b = true := mul_l (by decide) (by decide)
theorem mk3 {b : Int} : mulOk b 39373 = true := mul_r (by decide) (by decide)
theorem mk4 {b : Int} : mulOk b 30011 = true := mul_r (by decide) (by decide)
theorem fm {b m : Int} (h : 0 < m) : 0 ≤ b.fmod m ∧ b.fmod m < m := ⟨Int.fmod_nonneg_of_pos b h, Int.fmod_lt_of_pos b h⟩
theorem mk5 {b c : Int} : mulOk c (b.fmod 1000000007) = true := by
  have := fm (b := b) (m := 1000000007) (by decide)
  exact mul_r (by omega) (by omega)
section
variable {cf : Nat → List O → CR}
theorem take_cell {a b c : Int} {ys : List Int} {r : Dv.Env} (hl : ys.length ≤ 63) (hy : ∀ y ∈ ys, 0 ≤ y) : ∃ x, 0 ≤ x ∧
    evB cf (.ix (.bin .add (.sl (.ix (.v 0) (.c (.int 3))) (.ix (.v 0) (.c (.int 2))) .no) (.lst (.cons (.c (.int 0)) .nil))) (.c (.int 0))) false (some (bagO a b c ys) :: r) = .ok (false, .d (.int x)) (some (bagO a b c ys) :: r) := by
  obtain ⟨x, hx, e⟩ := cell_ok (c := c) hy
  refine ⟨x, hx, ?_⟩
  obtain ⟨k0, k1, k2, k3⟩ := bag_ix (a := a) (b := b) (c := c) (ys := ys)
  have hf : fits ((cutL (ys.map PyData.int) (some c) none).length + 1) = true := by
    unfold fits
    refine decide_eq_true ?_
    rw [sizeLine_eq]
    have : (cutL (ys.map PyData.int) (some c) none).length ≤ 63 := by
      unfold cutL
      rw [List.length_take, List.length_drop, List.length_map]
      omega
    omega
  generalize hq : cutL (ys.map PyData.int) (some c) none = q at e hf
  simp [evB, evL, evO, rd, bag_own, k2, k3, R.bind, lift, asV, slice, mkL, leaves, O.leaf?, Dv.bin, addD, addL, asL, asI, guardO, hf, hq, e]
theorem take1 {a b c : Int} {ys : List Int} {m : Option O} (hl : ys.length ≤ 63) (hy : ∀ y ∈ ys, 0 ≤ y) (ha : 0 ≤ a) : ∃ a' b' c' d e, 0 ≤ a' ∧
    evS cf (sHd d18.fd.body) [0] [some (bagO a b c ys), m, none, none, none, none, none] = .nx [some (bagO a' b' c' ys), m, none, none, d, e, none] := by
  obtain ⟨k0, k1, k2, k3⟩ := bag_ix (a := a) (b := b) (c := c) (ys := ys)
  simp only [d18, sHd]
  by_cases h0 : a = 0
  · subst h0
    obtain ⟨x, hx, e⟩ := take_cell (cf := cf) (a := 0) (b := b) (c := c) (r := [m, none, none, none, none, none]) hl hy
    generalize (E.ix (.bin .add (.sl (.ix (.v 0) (.c (.int 3))) (.ix (.v 0) (.c (.int 2))) .no) (.lst (.cons (.c (.int 0)) .nil))) (.c (.int 0))) = q at e ⊢
    by_cases hb : x ≥ 10 ^ 18
    · refine ⟨x, (b * 48271 + x.fmod 2147483647 + 7919 * (c + 1)).fmod 2147483647, c + 1, some (.d (.int x)), some (.d (.int (b * 48271 + x.fmod 2147483647 + 7919 * (c + 1)))), hx, ?_⟩
      have hb' : (10 : Int) ^ 18 ≤ x := hb
      simp at hb'
      simp [evS, evT, e, k0, R.bind, R.sr, lift, rd, Dv.st, SR.then, evB, bag_own, own_d, frz, cmp, eqD, Dv.scal, PyData.eqv, asV, ownAt, bag_get, bag_ix, bag_set, mutS, aug2, evW, Dv.blt, Dv.bin, int2, asI, guardO, mk1, mk2, addD, leD, hb']
    · refine ⟨0, (b * 48271 + x.fmod 2147483647 + 7919 * (c + 1)).fmod 2147483647, c + 1, some (.d (.int x)), some (.d (.int (b * 48271 + x.fmod 2147483647 + 7919 * (c + 1)))), Int.le_refl 0, ?_⟩
      have hb' : ¬ (1000000000000000000 : Int) ≤ x := hb
      simp [evS, evT, e, k0, R.bind, R.sr, lift, rd, Dv.st, SR.then, evB, bag_own, own_d, frz, cmp, eqD, Dv.scal, PyData.eqv, asV, ownAt, bag_get, bag_ix, bag_set, mutS, aug2, evW, Dv.blt, Dv.bin, int2, asI, guardO, mk1, mk2, addD, leD, hb']
  · refine ⟨a, b, c, none, none, ha, ?_⟩
    simp [evS, evT, evB, rd, bag_own, own_d, k0, R.bind, R.sr, lift, frz, cmp, eqD, Dv.scal, PyData.eqv, h0]
end
theorem c18 {n : Nat} {a b c m : Int} {ys : List Int} (hl : ys.length ≤ 63) (hy : ∀ y ∈ ys, 0 ≤ y) (ha : 0 ≤ a) (hm : 1 ≤ m) (hm2 : m < 1000) : ∃ v a' b' c', 0 ≤ v ∧ v < m ∧ 0 ≤ a' ∧
    callF (TOf ds) (n + 1) 18 [bagO a b c ys, .d (.int m)] = .ok (.d (.int v)) [some (bagO a' b' c' ys), none] := by
  rw [callF_go (fd := d18.fd) rfl rfl]
  obtain ⟨a', b', c', d, e, ha', h⟩ := take1 (cf := callF (TOf ds) n) (a := a) (b := b) (c := c) (m := some (.d (.int m))) hl hy ha
  obtain ⟨k0, k1, k2, k3⟩ := bag_ix (a := a') (b := b') (c := c') (ys := ys)
  have hs : d18.fd.body = .seq (sHd d18.fd.body) (sTl d18.fd.body) := rfl
  rw [hs]
  simp only [show startE [bagO a b c ys, O.d (.int m)] d18.fd.many = [some (bagO a b c ys), some (.d (.int m)), none, none, none, none, none] from rfl, show d18.fd.io = [0] from rfl]
  rw [evS, h, SR.then_n]
  have hm0 : m ≠ 0 := by omega
  have hmn : m.natAbs < 1073741824 := by omega
  by_cases h0 : 0 < a'
  · refine ⟨a'.fmod m, a'.fdiv m, b', c', (fm (by omega)).1, (fm (by omega)).2, Int.fdiv_nonneg ha' (by omega), ?_⟩
    simp [d18, sTl, evS, evT, k0, R.bind, R.sr, lift, rd, Dv.st, SR.then, evB, bag_own, own_d, frz, cmp, asV, ownAt, bag_set, mutS, evW, Dv.blt, Dv.bin, int2, asI, guardO, ltD, h0, hm0, hmn, ended, keepE]
  · refine ⟨((Int.fdiv (Int.fmod ((Int.fmod (Int.fmod ((b' + 1) * 39373) 1000000007 * Int.fmod ((b' + 1) * 39373) 1000000007) 998244353) * 30011) 998244353) 7).fmod m), a', b', c', (fm (by omega)).1, (fm (by omega)).2, ha', ?_⟩
    simp [d18, sTl, evS, evT, k0, k1, R.bind, R.sr, lift, rd, Dv.st, SR.then, evB, bag_own, own_d, frz, cmp, asV, evW, Dv.blt, Dv.bin, int2, asI, guardO, ltD, addD, mk3, mk4, mk5, h0, hm0, hmn, ended, keepE]
theorem alike {n : Nat} {p w : Nat} {x : D} (h : Sm p w x) (hp : p ≤ 64) (hw : w ≤ 2 ^ 20) (hq : seqD x = true) : callF (TOf ds) (n + 1) 19 [.d x, .d x] = .ok (.d (.bool true)) [none, none] := by
  rw [callF_go (fd := d19.fd) rfl rfl]
  have h1 := h.repr hp hw hq
  have h2 := h.self hp
  have h3 : eqD (.str x.shown) (.str x.shown) = some true := by simp [eqD, Dv.scal, PyData.eqv]
  simp [d19, evS, evB, evW, R.bind, R.sr, SR.then, ended, keepE, startE, blanks, rd, frz, lift, own_d, h1, h2, h3, cmp, asB, asV, Dv.fresh]
end K25
set_option Elab.async false
set_option linter.all false
set_option maxRecDepth 100000
set_option maxHeartbeats 1000000
namespace K25
open PySem PySem.Spec PyProof.Rows L2 Dv
section
variable {n : Nat}
/-- take, as it is called -/
theorem take_k {a b c m : Int} {ys : List Int} {e : E} {ρ ρ' : Dv.Env} {o : O} (hl : ys.length ≤ 63) (hy : ∀ y ∈ ys, 0 ≤ y) (ha : 0 ≤ a) (hm : 1 ≤ m) (hm2 : m < 1000) (hne : ∀ i, e = .io i → False) (h0 : rd ρ 0 = some o) (he : asV e false (evB (callF (TOf ds) (n + 1)) e false ρ) = .ok (.d (.int m)) ρ') (h0' : rd ρ' 0 = some (bagO a b c ys)) :
    ∃ v a' b' c', 0 ≤ v ∧ v < m ∧ 0 ≤ a' ∧ evB (callF (TOf ds) (n + 1)) (.call 18 (.cons (.io 0) (.cons e .nil))) false ρ = .ok (false, .d (.int v)) (Dv.st ρ' 0 (some (bagO a' b' c' ys))) := by
  obtain ⟨v, a', b', c', h1, h2, h3, h4⟩ := c18 (n := n) (b := b) (c := c) hl hy ha hm hm2
  refine ⟨v, a', b', c', h1, h2, h3, ?_⟩
  have hA : evA (callF (TOf ds) (n + 1)) (.cons (.io 0) (.cons e .nil)) false ρ = .ok [.io 0, .val (.d (.int m))] ρ' := by
    rw [evA]
    simp only [h0]
    rw [evA, he]
    · simp [R.bind, evA, O.fr, frz]
    · exact hne
  rw [evB, hA, R.bind_k]
  simp [calling, ioSlots, noDup, argsO, argO, h0', O.fr, frz, h4, calld, putBack, rd]
end
abbrev low21 : E := .ite (.cmp .eq (.v 4) (.c (.int 1))) (.v 9) (.ite (.cmp .eq (.v 4) (.c (.int 2))) (.blt .max (.cons (.v 9) (.cons (.v 8) .nil))) (.ite (.cmp .eq (.v 4) (.c (.int 3))) (.v 8) (.c (.int 0))))
abbrev wor21 : E := .ite (.cmp .le (.v 10) (.v 3)) (.bin .add (.v 10) (.call 18 (.cons (.io 0) (.cons (.bin .sub (.bin .add (.v 3) (.c (.int 1))) (.v 10)) .nil)))) (.v 3)
abbrev wor22 : E := .ite (.and (.cmp .eq (.v 4) (.c (.int 2))) (.cmp .eq (.call 18 (.cons (.io 0) (.cons (.c (.int 2)) .nil))) (.c (.int 0)))) (.blt .min (.cons (.v 11) (.cons (.bin .add (.v 10) (.c (.int 1))) .nil))) (.v 11)
abbrev body21 : S := .seq (.set 10 low21) (.seq (.set 11 wor21) (.seq (.set 11 wor22) (.seq (.set 8 (.blt .max (.cons (.v 8) (.cons (.v 11) .nil)))) (.seq (.app 7 (.ite (.cmp .lt (.v 11) (.v 3)) (.v 11) (.c .none))) .nil))))
/-- the slots of measure -/
abbrev env21 (bag : O) (p q m wy : Int) (fs : List D) (k : Option O) (tb : Option O) (last : Option O) (w low wo : Option O) : Dv.Env := [some bag, some (.d (.int p)), some (.d (.int q)), some (.d (.int m)), some (.d (.int wy)), some (.ls fs), k, tb, last, w, low, wo]
theorem low_k {cf : Nat → List O → CR} {bag : O} {p q m wy w last : Int} {fs : List D} {k tb x y : Option O} (h1 : 0 ≤ w) (h2 : w < m) (h3 : 0 ≤ last) (h4 : last ≤ m) :
    ∃ low, 0 ≤ low ∧ low ≤ m ∧ evB cf low21 false (env21 bag p q m wy fs k tb (some (.d (.int last))) (some (.d (.int w))) x y) = .ok (false, .d (.int low)) (env21 bag p q m wy fs k tb (some (.d (.int last))) (some (.d (.int w))) x y) := by
  by_cases e1 : wy = 1
  · refine ⟨w, h1, by omega, ?_⟩
    simp [evB, evT, rd, own_d, R.bind, lift, frz, cmp, eqD, Dv.scal, PyData.eqv, e1, asV, Dv.fresh]
  by_cases e2 : wy = 2
  · refine ⟨if last > w then last else w, by split <;> omega, by split <;> omega, ?_⟩
    simp [evB, evT, evW, rd, own_d, R.bind, lift, frz, cmp, eqD, Dv.scal, PyData.eqv, e2, asV, Dv.fresh, Dv.blt]
  by_cases e3 : wy = 3
  · refine ⟨last, h3, h4, ?_⟩
    simp [evB, evT, rd, own_d, R.bind, lift, frz, cmp, eqD, Dv.scal, PyData.eqv, e3, asV, Dv.fresh]
  · refine ⟨0, by omega, by omega, ?_⟩
    simp [evB, evT, rd, own_d, R.bind, lift, frz, cmp, eqD, Dv.scal, PyData.eqv, e1, e2, e3, asV, Dv.fresh]
theorem turn21 {n : Nat} {a b c p q m wy w last : Int} {ys : List Int} {fs tb : List D} {k x y : Option O} (hl : ys.length ≤ 63) (hy : ∀ y ∈ ys, 0 ≤ y) (ha : 0 ≤ a) (h0 : m ≤ 6) (h1 : 0 ≤ w) (h2 : w < m) (h3 : 0 ≤ last) (h4 : last ≤ m) (h5 : tb.length ≤ 6) :
    ∃ a' b' c' last' o x' y', 0 ≤ a' ∧ 0 ≤ last' ∧ last' ≤ m ∧ (∀ i, o = some i → 0 ≤ i ∧ i < m) ∧ evS (callF (TOf ds) (n + 1)) body21 [0] (env21 (bagO a b c ys) p q m wy fs k (some (.ls tb)) (some (.d (.int last))) (some (.d (.int w))) x y) =
      .nx (env21 (bagO a' b' c' ys) p q m wy fs k (some (.ls (tb ++ [optD o]))) (some (.d (.int last'))) (some (.d (.int w))) x' y') := by
  obtain ⟨low, l1, l2, l3⟩ := low_k (cf := callF (TOf ds) (n + 1)) (bag := bagO a b c ys) (p := p) (q := q) (wy := wy) (fs := fs) (k := k) (tb := some (.ls tb)) (x := x) (y := y) h1 h2 h3 h4
  obtain ⟨v, a1, b1, c1, v1, v2, v3, v4⟩ := take_k (n := n) (a := a) (b := b) (c := c) (m := m + 1 - low) (e := .bin .sub (.bin .add (.v 3) (.c (.int 1))) (.v 10)) (ρ := env21 (bagO a b c ys) p q m wy fs k (some (.ls tb)) (some (.d (.int last))) (some (.d (.int w))) (some (.d (.int low))) y) (ρ' := env21 (bagO a b c ys) p q m wy fs k (some (.ls tb)) (some (.d (.int last))) (some (.d (.int w))) (some (.d (.int low))) y)
    hl hy ha (by omega) (by omega) (fun i z => by cases z) rfl (by simp [evB, rd, own_d, R.bind, lift, Dv.bin, addD, int2, asI, asV]) rfl
  have s2 : evB (callF (TOf ds) (n + 1)) wor21 false (env21 (bagO a b c ys) p q m wy fs k (some (.ls tb)) (some (.d (.int last))) (some (.d (.int w))) (some (.d (.int low))) y) = .ok (false, .d (.int (low + v))) (env21 (bagO a1 b1 c1 ys) p q m wy fs k (some (.ls tb)) (some (.d (.int last))) (some (.d (.int w))) (some (.d (.int low))) y) :=
    ite_t (ρ1 := env21 (bagO a b c ys) p q m wy fs k (some (.ls tb)) (some (.d (.int last))) (some (.d (.int w))) (some (.d (.int low))) y) (by simp [evT, evB, rd, own_d, R.bind, lift, frz, cmp, leD, l2]) (by
      exact val_k (bin_k (b1 := false) (b2 := false) (x := .d (.int low)) (y := .d (.int v)) (o := .d (.int (low + v))) (v_d rfl) v4 rfl))
  obtain ⟨wo, a2, b2, c2, w1, w2, w3, s3⟩ : ∃ wo a2 b2 c2, 0 ≤ wo ∧ wo ≤ m ∧ 0 ≤ a2 ∧ evB (callF (TOf ds) (n + 1)) wor22 false (env21 (bagO a1 b1 c1 ys) p q m wy fs k (some (.ls tb)) (some (.d (.int last))) (some (.d (.int w))) (some (.d (.int low))) (some (.d (.int (low + v))))) =
      .ok (false, .d (.int wo)) (env21 (bagO a2 b2 c2 ys) p q m wy fs k (some (.ls tb)) (some (.d (.int last))) (some (.d (.int w))) (some (.d (.int low))) (some (.d (.int (low + v))))) := by
    by_cases e2 : wy = 2
    · obtain ⟨u, a2, b2, c2, u1, u2, u3, u4⟩ := take_k (n := n) (a := a1) (b := b1) (c := c1) (m := 2) (e := .c (.int 2)) (ρ := env21 (bagO a1 b1 c1 ys) p q m wy fs k (some (.ls tb)) (some (.d (.int last))) (some (.d (.int w))) (some (.d (.int low))) (some (.d (.int (low + v))))) (ρ' := env21 (bagO a1 b1 c1 ys) p q m wy fs k (some (.ls tb)) (some (.d (.int last))) (some (.d (.int w))) (some (.d (.int low))) (some (.d (.int (low + v)))))
        hl hy v3 (by omega) (by omega) (fun i z => by cases z) rfl (by simp [evB, asV]) rfl
      by_cases e0 : u = 0
      · refine ⟨if low + 1 < low + v then low + 1 else low + v, a2, b2, c2, by split <;> omega, by split <;> omega, u3, ite_t (ρ1 := env21 (bagO a2 b2 c2 ys) p q m wy fs k (some (.ls tb)) (some (.d (.int last))) (some (.d (.int w))) (some (.d (.int low))) (some (.d (.int (low + v))))) ?_ ?_⟩
        · rw [andT_t (cmpT_k (v_d rfl) c_k (t := true) (by simp [frz, cmp, eqI, e2]))]
          exact cmpT_k u4 c_k (by simp [frz, cmp, eqI, e0])
        · simp [evB, evW, rd, own_d, R.bind, lift, Dv.blt, Dv.bin, addD, asV]
      · refine ⟨low + v, a2, b2, c2, by omega, by omega, u3, ite_f (ρ1 := env21 (bagO a2 b2 c2 ys) p q m wy fs k (some (.ls tb)) (some (.d (.int last))) (some (.d (.int w))) (some (.d (.int low))) (some (.d (.int (low + v))))) ?_ ?_⟩
        · rw [andT_t (cmpT_k (v_d rfl) c_k (t := true) (by simp [frz, cmp, eqI, e2]))]
          exact cmpT_k u4 c_k (by simp [frz, cmp, eqI, e0])
        · simp [evB, rd, own_d, asV]
    · refine ⟨low + v, a1, b1, c1, by omega, by omega, v3, ite_f (ρ1 := env21 (bagO a1 b1 c1 ys) p q m wy fs k (some (.ls tb)) (some (.d (.int last))) (some (.d (.int w))) (some (.d (.int low))) (some (.d (.int (low + v))))) ?_ ?_⟩
      · simp [evT, evB, rd, own_d, R.bind, lift, frz, cmp, eqD, Dv.scal, PyData.eqv, e2]
      · simp [evB, rd, own_d, asV]
  refine ⟨a2, b2, c2, if wo > last then wo else last, if wo < m then some wo else none, some (.d (.int low)), some (.d (.int wo)), w3, by split <;> omega, by split <;> omega, ?_, ?_⟩
  · intro i
    split
    · intro z; cases z; exact ⟨w1, by assumption⟩
    · intro z; cases z
  · rw [seq_k (set_k (by rfl) l3)]
    simp only [Dv.st]
    rw [seq_k (set_k (by rfl) s2)]
    simp only [Dv.st]
    rw [seq_k (set_k (by rfl) s3)]
    simp only [Dv.st]
    have hf : fits (tb.length + 1) = true := by
      unfold fits
      refine decide_eq_true ?_
      rw [sizeLine_eq]
      omega
    by_cases hw : wo < m
    · simp [evS, evB, evT, evW, rd, own_d, own_ls, R.bind, R.sr, lift, frz, cmp, ltD, hw, asV, Dv.fresh, Dv.blt, ownAt, mutS, appTo, hf, Dv.st, SR.then, optD]
    · simp [evS, evB, evT, evW, rd, own_d, own_ls, R.bind, R.sr, lift, frz, cmp, ltD, hw, asV, Dv.fresh, Dv.blt, ownAt, mutS, appTo, hf, Dv.st, SR.then, optD]
end K25
set_option Elab.async false
set_option linter.all false
set_option maxRecDepth 100000
set_option maxHeartbeats 1000000
namespace K25
open PySem PySem.Spec PyProof.Rows L2 Dv
def Tab (m : Int) (tb : List (Option Int)) : Prop := ∀ o ∈ tb, ∀ i, o = some i → 0 ≤ i ∧ i < m
theorem rows21 {n mN : Nat} {a b c p q wy last : Int} {ys : List Int} {fs : List D} {k w x y : Option O} (hl : ys.length ≤ 63) (hy : ∀ y ∈ ys, 0 ≤ y) (ha : 0 ≤ a) (h0 : mN ≤ 6) (h3 : 0 ≤ last) (h4 : last ≤ mN) :
    ∃ a' b' c' tb last' w' x' y', 0 ≤ a' ∧ tb.length = mN ∧ Tab mN tb ∧ evS (callF (TOf ds) (n + 1)) (.for_ (.n 9) (.rng1 (.v 3)) body21) [0] (env21 (bagO a b c ys) p q mN wy fs k (some (.ls [])) (some (.d (.int last))) w x y) =
      .nx (env21 (bagO a' b' c' ys) p q mN wy fs k (some (.ls (tb.map optD))) last' w' x' y') := by
  obtain ⟨ρ', e, a', b', c', tb, last', w', x', y', hr, q1, q2, q3, q4, q5⟩ := for_pre (cf := callF (TOf ds) (n + 1)) (g := .n 9) (src := .rng1 (.v 3)) (io := [0]) (body := body21)
    (ρ := env21 (bagO a b c ys) p q mN wy fs k (some (.ls [])) (some (.d (.int last))) w x y) (ρ1 := env21 (bagO a b c ys) p q mN wy fs k (some (.ls [])) (some (.d (.int last))) w x y) (d := fun k : Nat => .int (k : Int)) (xs := List.range mN) (os := Dv.range 0 (mN : Int))
    (I := fun pre ρ => ∃ a b c tb last w x y, ρ = env21 (bagO a b c ys) p q mN wy fs k (some (.ls (tb.map optD))) (some (.d (.int last))) w x y ∧ 0 ≤ a ∧ 0 ≤ last ∧ last ≤ (mN : Int) ∧ tb.length = pre.length ∧ Tab mN tb)
    (rng1_k (v_d rfl) (okR (Int.le_refl 0) (by decide) (by omega) (by omega))) (range0 _) rfl ⟨a, b, c, [], last, w, x, y, rfl, ha, h3, h4, rfl, fun _ z => by cases z⟩ (fun s ρ ⟨_, _, _, _, _, _, _, _, z, _⟩ => by rw [z]; rfl) (fun pre v post hsp ρ ⟨a, b, c, tb, last, w, x, y, hρ, g1, g2, g3, g4, g5⟩ => by
      subst hρ
      have hv : v < mN := by
        have : v ∈ List.range mN := by rw [hsp]; simp
        exact List.mem_range.mp this
      have hpl : pre.length ≤ 6 := by
        have := congrArg List.length hsp
        rw [List.length_range, List.length_append] at this
        omega
      obtain ⟨a', b', c', last', o, x', y', r1, r2, r3, r4, r5⟩ := turn21 (n := n) (a := a) (b := b) (c := c) (p := p) (q := q) (m := mN) (wy := wy) (w := v) (last := last) (fs := fs) (tb := tb.map optD) (k := k) (x := x) (y := y) hl hy g1 (by omega) (by omega) (by omega) g2 g3 (by rw [List.length_map]; omega)
      refine ⟨env21 (bagO a b c ys) p q mN wy fs k (some (.ls (tb.map optD))) (some (.d (.int last))) (some (.d (.int v))) x y, rfl, _, r5, a', b', c', tb ++ [o], last', some (.d (.int v)), x', y', ?_, r1, r2, r3, ?_, ?_⟩
      · rw [List.map_append]; rfl
      · rw [List.length_append, List.length_append, g4]; rfl
      · intro o' ho' i hi
        rcases List.mem_append.mp ho' with z | z
        · exact g5 o' z i hi
        · rw [List.mem_singleton] at z
          subst z
          exact r4 i hi)
  subst hr
  refine ⟨a', b', c', tb, some (.d (.int last')), w', x', y', q1, by rw [q4, List.length_range], q5, e⟩
theorem fgh {k : Nat} (h : k < 3) : ∃ l : Str, (∃ c, l = ⟨#[c]⟩ ∧ l ∈ (["f", "g", "h"] : List Str)) ∧ item (.d (.str "fgh")) (.d (.int (k : Int))) = some (false, .d (.str l)) := by
  have : k = 0 ∨ k = 1 ∨ k = 2 := by omega
  rcases this with e | e | e <;> subst e
  · exact ⟨"f", ⟨102, rfl, by decide⟩, by kernel_rfl⟩
  · exact ⟨"g", ⟨103, rfl, by decide⟩, by kernel_rfl⟩
  · exact ⟨"h", ⟨104, rfl, by decide⟩, by kernel_rfl⟩
abbrev lap21 : S := .seq (.par [7, 8] (.cons (.lst .nil) (.cons (.c (.int 0)) .nil))) (.seq (.for_ (.n 9) (.rng1 (.v 3)) body21) (.seq (.app 5 (.tup (.cons (.ix (.c (.str "fgh")) (.v 6)) (.cons (.blt .tuple (.cons (.v 7) .nil)) .nil)))) .nil))
theorem lap_k {n mN kN : Nat} {a b c p q wy : Int} {ys : List Int} {ts : List Tb} {t l w x y : Option O} (hl : ys.length ≤ 63) (hy : ∀ y ∈ ys, 0 ≤ y) (ha : 0 ≤ a) (h0 : mN ≤ 6) (hk : kN < 3) (ht : ts.length ≤ 6) :
    ∃ a' b' c' tb t' l' w' x' y', 0 ≤ a' ∧ tb.2.length = mN ∧ Tab mN tb.2 ∧ (∃ c, tb.1 = ⟨#[c]⟩ ∧ tb.1 ∈ (["f", "g", "h"] : List Str)) ∧ evS (callF (TOf ds) (n + 1)) lap21 [0] (env21 (bagO a b c ys) p q mN wy (ts.map tabD) (some (.d (.int kN))) t l w x y) =
      .nx (env21 (bagO a' b' c' ys) p q mN wy ((ts ++ [tb]).map tabD) (some (.d (.int kN))) t' l' w' x' y') := by
  obtain ⟨a', b', c', tb, last', w', x', y', r1, r2, r3, r4⟩ := rows21 (n := n) (mN := mN) (a := a) (b := b) (c := c) (p := p) (q := q) (wy := wy) (last := 0) (fs := ts.map tabD) (k := some (.d (.int kN))) (w := w) (x := x) (y := y) hl hy ha h0 (Int.le_refl 0) (by omega)
  obtain ⟨lb, hlb, hi⟩ := fgh hk
  refine ⟨a', b', c', (lb, tb), some (.ls (tb.map optD)), last', w', x', y', r1, r2, r3, hlb, ?_⟩
  have hp : evS (callF (TOf ds) (n + 1)) (.par [7, 8] (.cons (.lst .nil) (.cons (.c (.int 0)) .nil))) [0] (env21 (bagO a b c ys) p q mN wy (ts.map tabD) (some (.d (.int kN))) t l w x y) = .nx (env21 (bagO a b c ys) p q mN wy (ts.map tabD) (some (.d (.int kN))) (some (.ls [])) (some (.d (.int 0))) w x y) := by
    simp [evS, evL, evB, R.bind, R.sr, asV, mkL, leaves, noDup, lets, Dv.st]
  rw [seq_k hp, seq_k r4]
  have hf : fits ((ts.map tabD).length + 1) = true := by
    unfold fits
    refine decide_eq_true ?_
    rw [sizeLine_eq, List.length_map]
    omega
  rw [seq_k (app_k (o := .ls (ts.map tabD)) (o' := .ls (ts.map tabD ++ [tabD (lb, tb)])) (x := .d (tabD (lb, tb))) (ρ' := env21 (bagO a' b' c' ys) p q mN wy (ts.map tabD) (some (.d (.int kN))) (some (.ls (tb.map optD))) last' w' x' y') rfl rfl ?_ rfl ?_), nil_k]
  · rw [List.map_append]
    rfl
  · refine val_k ?_
    rw [evB, evL, val_k (ix_k c_k (v_d rfl) hi), R.bind_k, evL]
    simp [evB, evW, evL, rd, own_ls, R.bind, lift, Dv.blt, asQ, asV, frzs, frz, tabD]
  · show (if fits ((ts.map tabD).length + 1) = true then some (O.ls (ts.map tabD ++ [frz (.d (tabD (lb, tb)))])) else none) = _
    rw [if_pos hf]
    rfl
theorem names_k {n mN : Nat} {ρ : Dv.Env} (hr : rd ρ 3 = some (.d (.int mN))) (hl : ρ.length = 12) (h0 : mN ≤ 6) (h7 : ∀ x, Dv.wipe (Dv.st (Dv.wipe ρ [6]) 6 x) [6] = Dv.wipe ρ [6]) (h8 : ∀ x, rd (Dv.st (Dv.wipe ρ [6]) 6 x) 6 = x) :
    ∃ nms, evB (callF (TOf ds) (n + 1)) (.lc [6] (.n 6) (.rng1 (.v 3)) .no (.bin .add (.c (.str "w")) (.blt .str (.cons (.v 6) .nil)))) false ρ = .ok (false, .ls nms) ρ := by
  have el := lc_plain (cf := callF (TOf ds) (n + 1)) (own := [6]) (g := .n 6) (src := .rng1 (.v 3)) (cond := .no) (elt := .bin .add (.c (.str "w")) (.blt .str (.cons (.v 6) .nil))) (ro := false) (ρ := ρ) (ρ1 := ρ)
    (d := fun k : Nat => .int (k : Int)) (c := fun _ => true) (e := fun k => .d (.str (("w" : Str) ++ ((toString ((k : Nat) : Int) : String) : Str)))) (lent := []) (xs := List.range mN) (os := Dv.range 0 (mN : Int))
    (rng1_k (v_d hr) (okR (Int.le_refl 0) (by decide) (by omega) (by omega))) (range0 _) (by rw [filter_all, sizeLine_eq, List.length_range]; omega) (fun k hk => by
      have hk' := List.mem_range.mp hk
      refine ⟨Dv.st (Dv.wipe ρ [6]) 6 (some (.d (.int (k : Int)))), rfl, Dv.st (Dv.wipe ρ [6]) 6 (some (.d (.int (k : Int)))), by rw [evT], h7 _, fun _ => ⟨Dv.st (Dv.wipe ρ [6]) 6 (some (.d (.int (k : Int)))), ?_, h7 _⟩⟩
      have hs : (PyData.shown (.int (k : Int))).length ≤ 13 := PyData.shown_int_le (by
        have e : (10 : Nat) ^ 12 = 1000000000000 := by decide
        omega)
      have hs' : ((toString ((k : Nat) : Int) : String) : Str).length ≤ 13 := hs
      have hfit : fits (("w" : Str).length + ((toString ((k : Nat) : Int) : String) : Str).length) = true := by
        unfold fits
        refine decide_eq_true ?_
        rw [sizeLine_eq, show ("w" : Str).length = 1 from rfl]
        omega
      have hlog : guardO (decide ((k : Int).natAbs.log2 < 1920)) (O.d (.str ((toString ((k : Nat) : Int) : String) : Str))) = some (O.d (.str ((toString ((k : Nat) : Int) : String) : Str))) := by
        refine if_pos (decide_eq_true ?_)
        have := Nat.log2_le_self (k : Int).natAbs
        omega
      refine val_k (bin_k c_k (b2 := false) (y := .d (.str ((toString ((k : Nat) : Int) : String) : Str))) ?_ ?_)
      · rw [evB, evW, v_d (h8 _), R.bind_k, evW, R.bind_k, R.bind_k]
        show lift ((guardO (decide ((k : Int).natAbs.log2 < 1920)) (O.d (.str ((toString ((k : Nat) : Int) : String) : Str)))).map fun o => (false, o)) _ = _
        rw [hlog]
        rfl
      · show (match guardO (fits (("w" : Str).length + ((toString ((k : Nat) : Int) : String) : Str).length)) (O.d (.str (("w" : Str) ++ ((toString ((k : Nat) : Int) : String) : Str)))) with
          | some o => some o
          | none => _) = _
        rw [hfit]
        rfl)
  rw [filter_all, mkL_d] at el
  exact ⟨_, el⟩
end K25
set_option Elab.async false
set_option linter.all false
set_option maxRecDepth 100000
set_option maxHeartbeats 1000000
namespace K25
open PySem PySem.Spec PyProof.Rows L2 Dv
theorem laps21 {n mN kN : Nat} {a b c p q wy : Int} {ys : List Int} {src : E} {ρ : Dv.Env} (hl : ys.length ≤ 63) (hy : ∀ y ∈ ys, 0 ≤ y) (ha : 0 ≤ a) (h0 : mN ≤ 6) (hk : kN ≤ 3)
    (hs : evB (callF (TOf ds) (n + 1)) src false ρ = .ok (false, .d (.int kN)) (env21 (bagO a b c ys) p q mN wy [] none none none none none none)) :
    ∃ a' b' c' ts k' t' l' w' x' y', 0 ≤ a' ∧ Ok ts ∧ evS (callF (TOf ds) (n + 1)) (.for_ (.n 6) (.rng1 src) lap21) [0] ρ =
      .nx (env21 (bagO a' b' c' ys) p q mN wy (ts.map tabD) k' t' l' w' x' y') := by
  obtain ⟨ρ', e, a', b', c', ts, k', t', l', w', x', y', hr, q1, q2, q3⟩ := for_pre (cf := callF (TOf ds) (n + 1)) (g := .n 6) (src := .rng1 src) (io := [0]) (body := lap21)
    (ρ := ρ) (ρ1 := env21 (bagO a b c ys) p q mN wy [] none none none none none none) (d := fun k : Nat => .int (k : Int)) (xs := List.range kN) (os := Dv.range 0 (kN : Int))
    (I := fun pre ρ => ∃ a b c ts k t l w x y, ρ = env21 (bagO a b c ys) p q mN wy (List.map tabD ts) k t l w x y ∧ 0 ≤ a ∧ ts.length = pre.length ∧ ∀ t ∈ ts, t.2.length ≤ 6 ∧ (∃ c, t.1 = ⟨#[c]⟩ ∧ t.1 ∈ (["f", "g", "h"] : List Str)) ∧ ∀ o ∈ t.2, ∀ i, o = some i → 0 ≤ i ∧ i < 6)
    (rng1_k hs (okR (Int.le_refl 0) (by decide) (by omega) (by omega))) (range0 _) rfl ⟨a, b, c, [], none, none, none, none, none, none, rfl, ha, rfl, fun _ z => by cases z⟩ (fun s ρ ⟨_, _, _, _, _, _, _, _, _, _, z, _⟩ => by rw [z]; rfl) (fun pre v post hsp ρ ⟨a, b, c, ts, k, t, l, w, x, y, hρ, g1, g4, g5⟩ => by
      subst hρ
      have hv : v < kN := by
        have : v ∈ List.range kN := by rw [hsp]; simp
        exact List.mem_range.mp this
      have hpl : pre.length ≤ 3 := by
        have := congrArg List.length hsp
        rw [List.length_range, List.length_append] at this
        omega
      obtain ⟨a', b', c', tb, t', l', w', x', y', r1, r2, r3, r4, r5⟩ := lap_k (n := n) (mN := mN) (kN := v) (a := a) (b := b) (c := c) (p := p) (q := q) (wy := wy) (ts := ts) (t := t) (l := l) (w := w) (x := x) (y := y) hl hy g1 h0 (by omega) (by omega)
      refine ⟨env21 (bagO a b c ys) p q mN wy (ts.map tabD) (some (.d (.int v))) t l w x y, rfl, _, r5, a', b', c', ts ++ [tb], some (.d (.int v)), t', l', w', x', y', rfl, r1, ?_, ?_⟩
      · rw [List.length_append, List.length_append, g4]; rfl
      · intro o' ho'
        rcases List.mem_append.mp ho' with z | z
        · exact g5 o' z
        · rw [List.mem_singleton] at z
          subst z
          refine ⟨by omega, r4, fun o ho i hi => ?_⟩
          have := r3 o ho i hi
          omega)
  subst hr
  exact ⟨a', b', c', ts, k', t', l', w', x', y', q1, ⟨by rw [q2, List.length_range]; exact hk, q3⟩, e⟩
abbrev draw18 (e : E) : E := .call 18 (.cons (.io 0) (.cons e .nil))
abbrev m21 : S := .par [3, 4, 5] (.cons (.bin .add (.c (.int 1)) (draw18 (.v 1))) (.cons (draw18 (.c (.int 4))) (.cons (.lst .nil) .nil)))
abbrev e21 (o : O) : Dv.Env := [some o, some (.d (.int 6)), some (.d (.int 3)), none, none, none, none, none, none, none, none, none]
theorem c21 {n : Nat} {a b c : Int} {ys : List Int} (hl : ys.length ≤ 63) (hy : ∀ y ∈ ys, 0 ≤ y) (ha : 0 ≤ a) :
    ∃ nm ts a' b' c', 0 ≤ a' ∧ Ok ts ∧ callF (TOf ds) (n + 2) 21 [bagO a b c ys, .d (.int 6), .d (.int 3)] = .ok (.d (meaD nm ts)) [some (bagO a' b' c' ys), none, none] := by
  obtain ⟨v, a1, b1, c1, v1, v2, v3, v4⟩ := take_k (n := n) (a := a) (b := b) (c := c) (m := 6) (e := .v 1) (ρ := e21 (bagO a b c ys)) (ρ' := e21 (bagO a b c ys)) hl hy ha (by decide) (by decide) (fun i z => by cases z) rfl (val_k (v_d rfl)) rfl
  obtain ⟨wy, a2, b2, c2, w1, w2, w3, w4⟩ := take_k (n := n) (a := a1) (b := b1) (c := c1) (m := 4) (e := .c (.int 4)) (ρ := e21 (bagO a1 b1 c1 ys)) (ρ' := e21 (bagO a1 b1 c1 ys)) hl hy v3 (by decide) (by decide) (fun i z => by cases z) rfl (val_k c_k) rfl
  obtain ⟨mN, hm⟩ : ∃ mN : Nat, 1 + v = (mN : Int) := ⟨(1 + v).toNat, by omega⟩
  have hm6 : mN ≤ 6 := by omega
  obtain ⟨u, a3, b3, c3, u1, u2, u3, u4⟩ := take_k (n := n) (a := a2) (b := b2) (c := c2) (m := 3) (e := .v 2) (ρ := env21 (bagO a2 b2 c2 ys) 6 3 mN wy [] none none none none none none) (ρ' := env21 (bagO a2 b2 c2 ys) 6 3 mN wy [] none none none none none none) hl hy w3 (by decide) (by decide) (fun i z => by cases z) rfl (val_k (v_d rfl)) rfl
  obtain ⟨kN, hk⟩ : ∃ kN : Nat, 1 + u = (kN : Int) := ⟨(1 + u).toNat, by omega⟩
  obtain ⟨a4, b4, c4, ts, k', t', l', w', x', y', z1, z2, z3⟩ := laps21 (n := n) (mN := mN) (kN := kN) (a := a3) (b := b3) (c := c3) (p := 6) (q := 3) (wy := wy) (src := .bin .add (.c (.int 1)) (draw18 (.v 2))) hl hy u3 hm6 (by omega)
    (bin_k c_k u4 (by rw [← hk]; rfl))
  obtain ⟨nms, en⟩ := names_k (n := n) (mN := mN) (ρ := env21 (bagO a4 b4 c4 ys) 6 3 mN wy (ts.map tabD) k' t' l' w' x' y') rfl rfl hm6 (fun _ => rfl) (fun _ => rfl)
  refine ⟨.tuple nms, ts, a4, b4, c4, z1, z2, ?_⟩
  rw [callF_go (fd := d21.fd) rfl rfl]
  have s1 : evS (callF (TOf ds) (n + 1)) m21 [0] (e21 (bagO a b c ys)) = .nx (env21 (bagO a2 b2 c2 ys) 6 3 mN wy [] none none none none none none) :=
    par_k rfl (evL_c (val_k (bin_k c_k v4 (o := .d (.int mN)) (by rw [← hm]; rfl))) (evL_c (val_k w4) (evL_c (val_k (lst_k evL_n)) evL_n))) rfl
  have s3 : evB (callF (TOf ds) (n + 1)) (.tup (.cons (.blt .tuple (.cons (.lc [6] (.n 6) (.rng1 (.v 3)) .no (.bin .add (.c (.str "w")) (.blt .str (.cons (.v 6) .nil)))) .nil)) (.cons (.blt .tuple (.cons (.v 5) .nil)) .nil))) false (env21 (bagO a4 b4 c4 ys) 6 3 mN wy (ts.map tabD) k' t' l' w' x' y') = .ok (false, .d (meaD (.tuple nms) ts)) (env21 (bagO a4 b4 c4 ys) 6 3 mN wy (ts.map tabD) k' t' l' w' x' y') :=
    tup_k (os := [.d (.tuple nms), .d (.tuple (ts.map tabD))]) (evL_c (val_k (blt_k (evW_1 en) rfl)) (evL_c (val_k (blt_k (evW_1 (v_k rfl)) rfl)) evL_n))
  show ended 3 [0] (evS _ (.seq m21 (.seq (.for_ (.n 6) (.rng1 (.bin .add (.c (.int 1)) (draw18 (.v 2)))) lap21) (.seq (.ret (.tup (.cons (.blt .tuple (.cons (.lc [6] (.n 6) (.rng1 (.v 3)) .no (.bin .add (.c (.str "w")) (.blt .str (.cons (.v 6) .nil)))) .nil)) (.cons (.blt .tuple (.cons (.v 5) .nil)) .nil)))) .nil))) [0] (e21 (bagO a b c ys))) = _
  rw [seq_k s1, seq_k z3, evS, ret_k (fun i z => by cases z) (val_k s3)]
  rfl
end K25
set_option Elab.async false
set_option linter.all false
set_option maxRecDepth 100000
set_option maxHeartbeats 1000000
namespace K25
open PySem PySem.Spec PyProof.Rows L2 Dv
abbrev cells23 (op : Cm) : E := .lc [4, 7, 8] (.tc (.n 4) (.tc (.n 7) (.tc (.n 8) .t0))) (.call 22 (.cons (.v 0) .nil)) (.cmp op (.call 20 (.cons (.v 8) .nil)) (.v 7)) (.tup (.cons (.v 4) (.cons (.v 7) .nil)))
abbrev env23 (m : D) (x1 x2 x3 l t v w o : Option O) : Dv.Env := [some (.d m), x1, x2, x3, l, t, v, w, o]
theorem lc23 {n : Nat} {op : Cm} {nm : D} {ts : List Tb} {x1 x2 x3 t v : Option O} {f : Ce → Bool} (h : Ok ts) (hf : ∀ c : Ce, cmp op (.int (keyI c.2.2)) (.int c.2.1) = some (f c)) :
    evB (callF (TOf ds) (n + 1)) (cells23 op) false (env23 (meaD nm ts) x1 x2 x3 none t v none none) = .ok (false, .ls (((cellsOf ts).filter f).map ce2)) (env23 (meaD nm ts) x1 x2 x3 none t v none none) := by
  have e := lc_plain (cf := callF (TOf ds) (n + 1)) (own := [4, 7, 8]) (g := .tc (.n 4) (.tc (.n 7) (.tc (.n 8) .t0))) (src := .call 22 (.cons (.v 0) .nil)) (cond := .cmp op (.call 20 (.cons (.v 8) .nil)) (.v 7)) (elt := .tup (.cons (.v 4) (.cons (.v 7) .nil))) (ro := false)
    (ρ := env23 (meaD nm ts) x1 x2 x3 none t v none none) (ρ1 := env23 (meaD nm ts) x1 x2 x3 none t v none none) (d := ceD) (c := f) (e := fun c => .d (ce2 c)) (lent := []) (xs := cellsOf ts) (os := (cellsOf ts).map ceD)
    (by
      have := call_1 (cf := callF (TOf ds) (n + 1)) (f := 22) (e := .v 0) (ro := false) (ρ := env23 (meaD nm ts) x1 x2 x3 none t v none none) (fun i z => by cases z) (val_k (v_d rfl)) (c22 h)
      rw [evI, this, R.bind_k]
      · rfl
      all_goals (intros; contradiction)) rfl (by rw [sizeLine_eq]; have := filter_le (p := f) (cells_le h); omega) (fun c hc => by
      refine ⟨env23 (meaD nm ts) x1 x2 x3 (some (.d (.str c.1))) t v (some (.d (.int c.2.1))) (some (.d (optD c.2.2))), by simp [put, puts, ceD, Dv.wipe, Dv.st], env23 (meaD nm ts) x1 x2 x3 (some (.d (.str c.1))) t v (some (.d (.int c.2.1))) (some (.d (optD c.2.2))), cmpT_k (call_1 (fun i z => by cases z) (val_k (v_d rfl)) c20) (v_d rfl) (hf c), rfl, fun _ => ⟨_, val_k (tup_k (evL_c (val_k (v_d rfl)) (evL_c (val_k (v_d rfl)) evL_n))), rfl⟩⟩)
  rw [mkL_d] at e
  exact e
abbrev ords23 : E := .lc [7] (.n 7) (.rng2 (.bin .add (.v 6) (.c (.int 1))) (.blt .len (.cons (.v 5) .nil))) (.cmp .gt (.call 20 (.cons (.ix (.v 5) (.v 6)) .nil)) (.call 20 (.cons (.ix (.v 5) (.v 7)) .nil))) (.tup (.cons (.v 4) (.cons (.v 6) (.cons (.v 7) .nil))))
def kb (a b : Option Int) : Bool := decide (keyI b < keyI a)
theorem key_at {cf : Nat → List O → CR} {os : List (Option Int)} {i j k : Nat} {ρ : Dv.Env} (h1 : rd ρ i = some (.d (.tuple (os.map optD)))) (h2 : rd ρ j = some (.d (.int (k : Int)))) (h : k < os.length) : evB cf (.ix (.v i) (.v j)) false ρ = .ok (false, .d (optD (os.getD k none))) ρ := by
  refine (ix_k (v_d h1) (v_d h2) (z := (false, .d (optD (os.getD k none)))) ?_)
  simp only [item]
  rw [tab_at h]
  rfl
theorem lo23 {n : Nat} {m : D} {x1 x2 fo : O} {t : Tb} {v : Nat} {w o : Option O} (t6 : t.2.length ≤ 6) (hv : v < t.2.length) :
    evB (callF (TOf ds) (n + 1)) ords23 false (env23 m (some x1) (some x2) (some fo) (some (.d (.str t.1))) (some (.d (.tuple (t.2.map optD)))) (some (.d (.int v))) w o) =
    .ok (false, .ls ((ordV kb t v).map or3)) (env23 m (some x1) (some x2) (some fo) (some (.d (.str t.1))) (some (.d (.tuple (t.2.map optD)))) (some (.d (.int v))) w o) := by
  have el := lc_plain (cf := callF (TOf ds) (n + 1)) (own := [7]) (g := .n 7) (src := .rng2 (.bin .add (.v 6) (.c (.int 1))) (.blt .len (.cons (.v 5) .nil))) (cond := .cmp .gt (.call 20 (.cons (.ix (.v 5) (.v 6)) .nil)) (.call 20 (.cons (.ix (.v 5) (.v 7)) .nil))) (elt := .tup (.cons (.v 4) (.cons (.v 6) (.cons (.v 7) .nil)))) (ro := false)
    (ρ := env23 m (some x1) (some x2) (some fo) (some (.d (.str t.1))) (some (.d (.tuple (t.2.map optD)))) (some (.d (.int v))) w o) (ρ1 := env23 m (some x1) (some x2) (some fo) (some (.d (.str t.1))) (some (.d (.tuple (t.2.map optD)))) (some (.d (.int v))) w o)
    (d := fun k : Nat => .int ((v + 1 + k : Nat) : Int)) (c := fun k => kb (t.2.getD v none) (t.2.getD (v + 1 + k) none)) (e := fun k => .d (or3 (t.1, v, v + 1 + k))) (lent := []) (xs := List.range (t.2.length - (v + 1))) (os := Dv.range ((v : Int) + 1) (t.2.length : Int))
    (rng2_k (bin_k (v_d rfl) c_k rfl) (blt_k (evW_1 (v_d rfl)) (by simp [Dv.blt])) (okR (lo := (v : Int) + 1) (n := (t.2.length : Int)) (by omega) (by omega) (by omega) (by omega))) (range1 _ _) (by rw [sizeLine_eq]; have := filter_le (p := fun k => kb (t.2.getD v none) (t.2.getD (v + 1 + k) none)) (show (List.range (t.2.length - (v + 1))).length ≤ 6 by rw [List.length_range]; omega); omega) (fun k hk => by
      have hk' : v + 1 + k < t.2.length := by have := List.mem_range.mp hk; omega
      refine ⟨env23 m (some x1) (some x2) (some fo) (some (.d (.str t.1))) (some (.d (.tuple (t.2.map optD)))) (some (.d (.int v))) (some (.d (.int ((v + 1 + k : Nat) : Int)))) o, rfl, env23 m (some x1) (some x2) (some fo) (some (.d (.str t.1))) (some (.d (.tuple (t.2.map optD)))) (some (.d (.int v))) (some (.d (.int ((v + 1 + k : Nat) : Int)))) o,
        cmpT_k (call_1 (fun i z => by cases z) (val_k (key_at rfl rfl hv)) c20) (call_1 (fun i z => by cases z) (val_k (key_at rfl rfl hk')) c20) rfl, rfl, fun _ => ⟨_, val_k (tup_k (evL_c (val_k (v_d rfl)) (evL_c (val_k (v_d rfl)) (evL_c (val_k (v_d rfl)) evL_n)))), rfl⟩⟩)
  rw [mkL_d] at el
  rw [el]
  unfold ordV
  rw [List.map_map]
  rfl
abbrev row23 : S := .seq (.for_ (.n 6) (.rng1 (.blt .len (.cons (.v 5) .nil))) (.seq (.ext 3 ords23) .nil)) .nil
theorem for23 {n : Nat} {m : D} {x1 x2 : O} {t : Tb} {os : List Or} {v w o : Option O} (t6 : t.2.length ≤ 6) (ho : os.length ≤ 1000) :
    ∃ v' w', evS (callF (TOf ds) (n + 1)) row23 [] (env23 m (some x1) (some x2) (some (.ls (os.map or3))) (some (.d (.str t.1))) (some (.d (.tuple (t.2.map optD)))) v w o) =
    .nx (env23 m (some x1) (some x2) (some (.ls ((os ++ ordT kb t).map or3))) (some (.d (.str t.1))) (some (.d (.tuple (t.2.map optD)))) v' w' o) := by
  obtain ⟨ρ', e, c', d', hr⟩ := for_pre (cf := callF (TOf ds) (n + 1)) (g := .n 6) (src := .rng1 (.blt .len (.cons (.v 5) .nil))) (io := []) (body := .seq (.ext 3 ords23) .nil)
    (ρ := env23 m (some x1) (some x2) (some (.ls (os.map or3))) (some (.d (.str t.1))) (some (.d (.tuple (t.2.map optD)))) v w o) (ρ1 := env23 m (some x1) (some x2) (some (.ls (os.map or3))) (some (.d (.str t.1))) (some (.d (.tuple (t.2.map optD)))) v w o) (d := fun k : Nat => .int (k : Int)) (xs := List.range t.2.length) (os := Dv.range 0 (t.2.length : Int))
    (I := fun pv ρ => ∃ c d, ρ = env23 m (some x1) (some x2) (some (.ls ((os ++ pv.flatMap (ordV kb t)).map or3))) (some (.d (.str t.1))) (some (.d (.tuple (t.2.map optD)))) c d o)
    (rng1_k (blt_k (evW_1 (v_d rfl)) (by simp [Dv.blt])) (okR (Int.le_refl 0) (by decide) (by omega) (by omega))) (range0 _) rfl ⟨v, w, by simp⟩ (fun s ρ ⟨_, _, q⟩ => by rw [q]; rfl) (fun pv v post2 hsp2 ρ ⟨c, d, hρ⟩ => by
      subst hρ
      have hv : v < t.2.length := by
        have : v ∈ List.range t.2.length := by rw [hsp2]; simp
        exact List.mem_range.mp this
      have hpv : pv.length ≤ 6 := by have := congrArg List.length hsp2; simp at this; omega
      refine ⟨env23 m (some x1) (some x2) (some (.ls ((os ++ pv.flatMap (ordV kb t)).map or3))) (some (.d (.str t.1))) (some (.d (.tuple (t.2.map optD)))) (some (.d (.int v))) d o, rfl, _, ?_, some (.d (.int v)), d, rfl⟩
      have hx := ext_k (cf := callF (TOf ds) (n + 1)) (i := 3) (io := []) (by rfl) (lo23 (n := n) (m := m) (x1 := x1) (x2 := x2) (fo := .ls ((os ++ pv.flatMap (ordV kb t)).map or3)) (w := d) (o := o) t6 hv) (by rfl) (by
        rw [sizeLine_eq, List.length_map, List.length_append, List.length_map]
        have q2 := vs_le (f := kb) t6 hpv
        have q3 := ordV_le (f := kb) (v := v) t6
        omega)
      rw [seq_k hx, nil_k]
      simp [Dv.st])
  subst hr
  exact ⟨c', d', by rw [seq_k e, nil_k]; rfl⟩
def risingK (ts : List Tb) : List Ce := (cellsOf ts).filter fun c => decide (keyI c.2.2 < c.2.1)
def strictK (ts : List Tb) : List Ce := (cellsOf ts).filter fun c => decide (keyI c.2.2 ≤ c.2.1)
theorem c23 {n : Nat} {nm : D} {ts : List Tb} (h : Ok ts) : callF (TOf ds) (n + 2) 23 [.d (meaD nm ts)] = .ok (.d (.tuple [.list ((risingK ts).map ce2), .list ((strictK ts).map ce2), .list ((ordersOf kb ts).map or3)])) [none] := by
  rw [callF_go (fd := d23.fd) rfl rfl]
  have e1 := lc23 (n := n) (op := .lt) (nm := nm) (x1 := none) (x2 := none) (x3 := none) (t := none) (v := none) (f := fun c => decide (keyI c.2.2 < c.2.1)) h (fun _ => rfl)
  have e2 := lc23 (n := n) (op := .le) (nm := nm) (x1 := some (.ls ((risingK ts).map ce2))) (x2 := none) (x3 := none) (t := none) (v := none) (f := fun c => decide (keyI c.2.2 ≤ c.2.1)) h (fun _ => rfl)
  obtain ⟨ρ', e, a, b, c, d, w, hr⟩ := for_pre (cf := callF (TOf ds) (n + 1)) (g := .tc (.n 4) (.tc (.n 5) .t0)) (src := .ix (.v 0) (.c (.int 1))) (io := []) (body := row23)
    (ρ := env23 (meaD nm ts) (some (.ls ((risingK ts).map ce2))) (some (.ls ((strictK ts).map ce2))) (some (.ls [])) none none none none none) (ρ1 := env23 (meaD nm ts) (some (.ls ((risingK ts).map ce2))) (some (.ls ((strictK ts).map ce2))) (some (.ls [])) none none none none none) (d := tabD) (xs := ts) (os := ts.map tabD)
    (I := fun pre ρ => ∃ a b c d w, ρ = env23 (meaD nm ts) (some (.ls ((risingK ts).map ce2))) (some (.ls ((strictK ts).map ce2))) (some (.ls ((ordersOf kb pre).map or3))) a b c d w)
    (by simp [evI, evB, rd, meaD, item, L2.atI, L2.ixN, R.bind, lift, srcOf, lentOf, asQ, O.own]) rfl rfl ⟨_, _, _, _, _, rfl⟩ (fun s ρ ⟨_, _, _, _, _, q⟩ => by rw [q]; rfl) (fun pre t post hsp ρ ⟨a, b, c, d, w, hρ⟩ => by
      have ht : t ∈ ts := by rw [hsp]; simp
      have hpl : pre.length ≤ 3 := by have := h.1; rw [hsp] at this; simp at this; omega
      have hp6 : ∀ t ∈ pre, t.2.length ≤ 6 := fun t ht => (h.2 t (by rw [hsp]; exact List.mem_append_left _ ht)).1
      have q1 := ts_le (f := kb) hp6 hpl
      obtain ⟨c', d', e⟩ := for23 (n := n) (m := meaD nm ts) (x1 := .ls ((risingK ts).map ce2)) (x2 := .ls ((strictK ts).map ce2)) (t := t) (os := ordersOf kb pre) (v := c) (w := d) (o := w) (h.2 t ht).1 (by omega)
      subst hρ
      refine ⟨env23 (meaD nm ts) (some (.ls ((risingK ts).map ce2))) (some (.ls ((strictK ts).map ce2))) (some (.ls ((ordersOf kb pre).map or3))) (some (.d (.str t.1))) (some (.d (.tuple (t.2.map optD)))) c d w, by simp [put, puts, tabD, Dv.st], _, e, some (.d (.str t.1)), some (.d (.tuple (t.2.map optD))), c', d', w, ?_⟩
      simp [ordersOf])
  subst hr
  show ended 1 [] (evS _ (.seq (.set 1 (cells23 .lt)) (.seq (.set 2 (cells23 .le)) (.seq (.set 3 (.lst .nil)) (.seq (.for_ (.tc (.n 4) (.tc (.n 5) .t0)) (.ix (.v 0) (.c (.int 1))) row23) (.seq (.ret (.tup (.cons (.v 1) (.cons (.v 2) (.cons (.v 3) .nil))))) .nil))))) [] (env23 (meaD nm ts) none none none none none none none none)) = _
  rw [seq_k (set_k rfl e1), show Dv.st (env23 (meaD nm ts) none none none none none none none none) 1 (some (.ls (((cellsOf ts).filter fun c => decide (keyI c.2.2 < c.2.1)).map ce2))) = env23 (meaD nm ts) (some (.ls ((risingK ts).map ce2))) none none none none none none none from rfl]
  rw [seq_k (set_k rfl e2), show Dv.st (env23 (meaD nm ts) (some (.ls ((risingK ts).map ce2))) none none none none none none none) 2 (some (.ls (((cellsOf ts).filter fun c => decide (keyI c.2.2 ≤ c.2.1)).map ce2))) = env23 (meaD nm ts) (some (.ls ((risingK ts).map ce2))) (some (.ls ((strictK ts).map ce2))) none none none none none none from rfl]
  rw [seq_k (set_k rfl (lst_k evL_n)), show Dv.st (env23 (meaD nm ts) (some (.ls ((risingK ts).map ce2))) (some (.ls ((strictK ts).map ce2))) none none none none none none) 3 (some (mkL [])) = env23 (meaD nm ts) (some (.ls ((risingK ts).map ce2))) (some (.ls ((strictK ts).map ce2))) (some (.ls [])) none none none none none from rfl]
  rw [seq_k e]
  simp [evS, evB, evL, rd, own_ls, asV, R.bind, R.sr, SR.then, ended, keepE, frzs, frz, Dv.st]
end K25
set_option Elab.async false
set_option linter.all false
set_option maxRecDepth 100000
set_option maxHeartbeats 1000000
namespace K25
open PySem PySem.Spec PyProof.Rows L2 Dv
abbrev env24 (m : D) (fo l t w : Option O) : Dv.Env := [some (.d m), fo, l, t, w]
def nearT (t : Tb) : List Nat := (List.range (t.2.length - 1)).filter fun k => kb (t.2.getD k none) (t.2.getD (k + 1) none)
abbrev near24 : E := .lc [4] (.n 4) (.rng1 (.bin .sub (.blt .len (.cons (.v 3) .nil)) (.c (.int 1)))) (.cmp .gt (.call 20 (.cons (.ix (.v 3) (.v 4)) .nil)) (.call 20 (.cons (.ix (.v 3) (.bin .add (.v 4) (.c (.int 1)))) .nil))) (.v 4)
theorem range2 (n : Nat) : Dv.range 0 ((n : Int) - 1) = (List.range (n - 1)).map fun k => .int ((k : Nat) : Int) := by
  unfold Dv.range
  rw [show ((n : Int) - 1 - 0).toNat = n - 1 by omega]
  simp
theorem lc24 {n : Nat} {m : D} {fo : O} {t : Tb} {w : Option O} (t6 : t.2.length ≤ 6) :
    evB (callF (TOf ds) (n + 1)) near24 false (env24 m (some fo) (some (.d (.str t.1))) (some (.d (.tuple (t.2.map optD)))) w) =
    .ok (false, .ls ((nearT t).map fun k : Nat => .int (k : Int))) (env24 m (some fo) (some (.d (.str t.1))) (some (.d (.tuple (t.2.map optD)))) w) := by
  have el := lc_plain (cf := callF (TOf ds) (n + 1)) (own := [4]) (g := .n 4) (src := .rng1 (.bin .sub (.blt .len (.cons (.v 3) .nil)) (.c (.int 1)))) (cond := .cmp .gt (.call 20 (.cons (.ix (.v 3) (.v 4)) .nil)) (.call 20 (.cons (.ix (.v 3) (.bin .add (.v 4) (.c (.int 1)))) .nil))) (elt := .v 4) (ro := false)
    (ρ := env24 m (some fo) (some (.d (.str t.1))) (some (.d (.tuple (t.2.map optD)))) w) (ρ1 := env24 m (some fo) (some (.d (.str t.1))) (some (.d (.tuple (t.2.map optD)))) w)
    (d := fun k : Nat => .int (k : Int)) (c := fun k => kb (t.2.getD k none) (t.2.getD (k + 1) none)) (e := fun k : Nat => .d (.int (k : Int))) (lent := []) (xs := List.range (t.2.length - 1)) (os := Dv.range 0 ((t.2.length : Int) - 1))
    (rng1_k (bin_k (blt_k (evW_1 (v_d rfl)) (o := .d (.int (t.2.length : Int))) (by simp [Dv.blt])) c_k rfl) (by unfold okRange; exact decide_eq_true ⟨by omega, by omega, by omega, by omega⟩)) (range2 _) (by rw [sizeLine_eq]; have := filter_le (p := fun k => kb (t.2.getD k none) (t.2.getD (k + 1) none)) (show (List.range (t.2.length - 1)).length ≤ 6 by rw [List.length_range]; omega); omega) (fun k hk => by
      have hk' : k + 1 < t.2.length := by have := List.mem_range.mp hk; omega
      refine ⟨env24 m (some fo) (some (.d (.str t.1))) (some (.d (.tuple (t.2.map optD)))) (some (.d (.int (k : Int)))), rfl, env24 m (some fo) (some (.d (.str t.1))) (some (.d (.tuple (t.2.map optD)))) (some (.d (.int (k : Int)))),
        cmpT_k (call_1 (fun i z => by cases z) (val_k (key_at rfl rfl (Nat.lt_of_succ_lt hk'))) c20) (call_1 (fun i z => by cases z) (val_k (ix_k (v_d rfl) (bin_k (v_d rfl) c_k (o := .d (.int ((k + 1 : Nat) : Int))) rfl) (z := (false, .d (optD (t.2.getD (k + 1) none)))) ?_)) c20) rfl, rfl, fun _ => ⟨_, val_k (v_d rfl), rfl⟩⟩
      simp only [item]
      rw [tab_at hk']
      rfl)
  rw [mkL_d] at el
  exact el
def nearOf (ts : List Tb) : List Nat := ts.flatMap nearT
theorem c24 {n : Nat} {nm : D} {ts : List Tb} (h : Ok ts) : callF (TOf ds) (n + 2) 24 [.d (meaD nm ts)] = .ok (.ls ((nearOf ts).map fun k : Nat => .int (k : Int))) [none] := by
  rw [callF_go (fd := d24.fd) rfl rfl]
  obtain ⟨ρ', e, a, b, c, hr⟩ := for_pre (cf := callF (TOf ds) (n + 1)) (g := .tc (.n 2) (.tc (.n 3) .t0)) (src := .ix (.v 0) (.c (.int 1))) (io := []) (body := .seq (.ext 1 near24) .nil)
    (ρ := env24 (meaD nm ts) (some (.ls [])) none none none) (ρ1 := env24 (meaD nm ts) (some (.ls [])) none none none) (d := tabD) (xs := ts) (os := ts.map tabD)
    (I := fun pre ρ => ∃ a b c, ρ = env24 (meaD nm ts) (some (.ls ((nearOf pre).map fun k : Nat => .int (k : Int)))) a b c)
    (by simp [evI, evB, rd, meaD, item, L2.atI, L2.ixN, R.bind, lift, srcOf, lentOf, asQ, O.own]) rfl rfl ⟨_, _, _, rfl⟩ (fun s ρ ⟨_, _, _, q⟩ => by rw [q]; rfl) (fun pre t post hsp ρ ⟨a, b, c, hρ⟩ => by
      have ht : t ∈ ts := by rw [hsp]; simp
      have hpl : pre.length ≤ 3 := by have := h.1; rw [hsp] at this; simp at this; omega
      have hp6 : ∀ t ∈ pre, t.2.length ≤ 6 := fun t ht => (h.2 t (by rw [hsp]; exact List.mem_append_left _ ht)).1
      have t6 := (h.2 t ht).1
      have hn : ∀ t : Tb, t.2.length ≤ 6 → (nearT t).length ≤ 6 := fun t h => by
        unfold nearT
        refine filter_le ?_
        rw [List.length_range]
        omega
      have q1 := flat_le (f := nearT) (m := 6) (xs := pre) fun t ht => hn t (hp6 t ht)
      have q2 := hn t t6
      subst hρ
      have hx := ext_k (cf := callF (TOf ds) (n + 1)) (i := 1) (io := []) (by rfl) (lc24 (n := n) (m := meaD nm ts) (fo := .ls ((nearOf pre).map fun k : Nat => .int (k : Int))) (t := t) (w := c) t6) (by rfl) (by
        rw [sizeLine_eq, List.length_map, List.length_map]
        unfold nearOf
        omega)
      refine ⟨env24 (meaD nm ts) (some (.ls ((nearOf pre).map fun k : Nat => .int (k : Int)))) (some (.d (.str t.1))) (some (.d (.tuple (t.2.map optD)))) c, by simp [put, puts, tabD, Dv.st], _, by rw [seq_k hx, nil_k], some (.d (.str t.1)), some (.d (.tuple (t.2.map optD))), c, ?_⟩
      simp [nearOf, Dv.st])
  subst hr
  show ended 1 [] (evS _ (.seq (.set 1 (.lst .nil)) (.seq (.for_ (.tc (.n 2) (.tc (.n 3) .t0)) (.ix (.v 0) (.c (.int 1))) (.seq (.ext 1 near24) .nil)) (.seq (.ret (.v 1)) .nil))) [] (env24 (meaD nm ts) none none none none)) = _
  rw [seq_k (set_k rfl (lst_k evL_n)), show Dv.st (env24 (meaD nm ts) none none none none) 1 (some (mkL [])) = env24 (meaD nm ts) (some (.ls [])) none none none from rfl, seq_k e]
  simp [evS, rd, SR.then, ended, keepE]
/-- a word put ahead of each tuple -/
theorem ahead {cf : Nat → List O → CR} {ro : Bool} {i : Nat} {w : Str} {src : E} {ρ : Dv.Env} {γ : Type} {f : γ → List D} {xs : List γ} (hs : evI cf src ro ρ = .ok ⟨xs.map fun c => .tuple (f c), []⟩ ρ) (hl : xs.length ≤ 1000) (hf : ∀ x, (f x).length ≤ 4) (h7 : ∀ x, Dv.wipe (Dv.st (Dv.wipe ρ [i]) i x) [i] = Dv.wipe ρ [i]) (h8 : ∀ x, rd (Dv.st (Dv.wipe ρ [i]) i (some x)) i = some x) :
    evB cf (.lc [i] (.n i) src .no (.bin .add (.tup (.cons (.c (.str w)) .nil)) (.v i))) ro ρ = .ok (false, .ls (xs.map fun c => .tuple (.str w :: f c))) ρ := by
  have el := lc_plain (cf := cf) (own := [i]) (g := .n i) (src := src) (cond := .no) (elt := .bin .add (.tup (.cons (.c (.str w)) .nil)) (.v i)) (ro := ro) (ρ := ρ) (ρ1 := ρ)
    (d := fun c => .tuple (f c)) (c := fun _ => true) (e := fun c => .d (.tuple (.str w :: f c))) (lent := []) (xs := xs) hs rfl (by rw [filter_all, sizeLine_eq]; omega) (fun k hk => by
      refine ⟨Dv.st (Dv.wipe ρ [i]) i (some (.d (.tuple (f k)))), rfl, Dv.st (Dv.wipe ρ [i]) i (some (.d (.tuple (f k)))), by rw [evT], h7 _, fun _ => ⟨Dv.st (Dv.wipe ρ [i]) i (some (.d (.tuple (f k)))), ?_, h7 _⟩⟩
      refine val_k (bin_k (tup_k (evL_c (val_k c_k) evL_n)) (v_d (h8 _)) ?_)
      have hfit : fits ((f k).length + 1) = true := by
        unfold fits
        refine decide_eq_true ?_
        have := hf k
        rw [sizeLine_eq]
        omega
      simp [Dv.bin, addD, frzs, frz, guardO, Nat.add_comm, hfit])
  rw [filter_all, mkL_d] at el
  exact el
def f2 (c : Ce) : List D := [.str c.1, .int c.2.1]
def f3 (x : Or) : List D := [.str x.1, .int (x.2.1 : Nat), .int (x.2.2 : Nat)]
def due (r s : List Ce) (o : List Or) : List D := r.map (fun c => .tuple (.str "rising" :: f2 c)) ++ s.map (fun c => .tuple (.str "strict" :: f2 c)) ++ o.map (fun c => .tuple (.str "orders" :: f3 c))
theorem rising_le {ts : List Tb} (h : Ok ts) : (risingOf ts).length ≤ 18 := filter_le (cells_le h)
theorem strict_le {ts : List Tb} (h : Ok ts) : (strictOf ts).length ≤ 18 := filter_le (cells_le h)
theorem orders_le {f : Option Int → Option Int → Bool} {ts : List Tb} (h : Ok ts) : (ordersOf f ts).length ≤ 108 := ts_le (fun t ht => (h.2 t ht).1) h.1
theorem addLs {cf : Nat → List O → CR} {a b : E} {ρ ρ1 ρ2 : Dv.Env} {xs ys : List D} {b1 : Bool} {ro : Bool} (h1 : evB cf a ro ρ = .ok (b1, .ls xs) ρ1) (h2 : evB cf b (ro || b1) ρ1 = .ok (false, .ls ys) ρ2) (hl : xs.length + ys.length ≤ 1000) : evB cf (.bin .add a b) ro ρ = .ok (false, .ls (xs ++ ys)) ρ2 := by
  refine bin_k h1 h2 ?_
  have hfit : fits (xs.length + ys.length) = true := by
    unfold fits
    refine decide_eq_true ?_
    rw [sizeLine_eq]
    omega
  simp [Dv.bin, addD, addL, asL, guardO, hfit]
theorem c14 {n : Nat} {nm : D} {ts : List Tb} (h : Ok ts) : callF (TOf ds) (n + 4) 14 [.d (meaD nm ts)] = .ok (.d (.tuple (due (risingOf ts) (strictOf ts) (ordersOf wo ts)))) [none] := by
  rw [callF_go (fd := d14.fd) rfl rfl]
  have l1 := rising_le h
  have l2 := strict_le h
  have l3 := orders_le (f := wo) h
  have sr : ∀ (ro : Bool) (ρ : Dv.Env), ∀ {f : Nat} {ys : List D}, rd ρ 0 = some (.d (meaD nm ts)) → callF (TOf ds) (n + 3) f [.d (meaD nm ts)] = .ok (.ls ys) [none] → evI (callF (TOf ds) (n + 3)) (.call f (.cons (.v 0) .nil)) ro ρ = .ok ⟨ys, []⟩ ρ := fun ro ρ f ys h1 h2 =>
    for_src (fun a b => ⟨nofun, nofun, nofun, nofun⟩) (call_1 (fun i z => by cases z) (val_k (v_d h1)) h2) rfl
  have e1 := ahead (cf := callF (TOf ds) (n + 3)) (i := 2) (w := "rising") (ρ := [some (.d (meaD nm ts)), none, none]) (f := f2) (xs := risingOf ts) (sr false _ rfl (c3 h)) (by omega) (fun _ => by simp [f2]) (fun _ => rfl) (fun _ => rfl)
  have e2 := ahead (cf := callF (TOf ds) (n + 3)) (i := 2) (w := "strict") (ρ := [some (.d (meaD nm ts)), some (.ls ((risingOf ts).map fun c => .tuple (.str "rising" :: f2 c))), none]) (f := f2) (xs := strictOf ts) (sr false _ rfl (c4 h)) (by omega) (fun _ => by simp [f2]) (fun _ => rfl) (fun _ => rfl)
  have e3 := ahead (cf := callF (TOf ds) (n + 3)) (i := 2) (w := "orders") (ρ := [some (.d (meaD nm ts)), some (.ls ((risingOf ts).map (fun c => .tuple (.str "rising" :: f2 c)) ++ (strictOf ts).map (fun c => .tuple (.str "strict" :: f2 c)))), none]) (f := f3) (xs := ordersOf wo ts) (sr true _ rfl (c5 h)) (by omega) (fun _ => by simp [f3]) (fun _ => rfl) (fun _ => rfl)
  refine (congrArg (ended 1 []) (seq_k (set_k rfl e1))).trans ?_
  refine (congrArg (ended 1 []) (seq_k (ext_k (i := 1) rfl e2 rfl (by rw [sizeLine_eq, List.length_map, List.length_map]; omega)))).trans ?_
  have e4 := addLs (cf := callF (TOf ds) (n + 3)) (a := .v 1) (ro := false) (v_k rfl) e3 (by rw [List.length_append, List.length_map, List.length_map, List.length_map]; omega)
  have e5 := ret_k (e := .blt .tuple (.cons (.bin .add (.v 1) (.lc [2] (.n 2) (.call 5 (.cons (.v 0) .nil)) .no (.bin .add (.tup (.cons (.c (.str "orders")) .nil)) (.v 2)))) .nil)) (io := []) (fun i z => by cases z) (val_k (blt_k (b := .tuple) (evW_1 e4) rfl))
  refine (congrArg (fun r => ended 1 [] (SR.then r fun ρ' => evS (callF (TOf ds) (n + 3)) .nil [] ρ')) e5).trans ?_
  rfl
end K25
set_option Elab.async false
set_option linter.all false
set_option maxRecDepth 100000
set_option maxHeartbeats 1000000
namespace K25
open PySem PySem.Spec PyProof.Rows L2 Dv
theorem none_first {α : Type} {f : α → D} {xs : List α} (h : ∀ x, noneD (f x) = false) : noneD (firstD (xs.map f)) = xs.isEmpty := by
  cases xs with
  | nil => rfl
  | cons x r => exact h x
def props (bo br bs : Bool) : List (Str × Bool) := [("orders", bo), ("rising", br), ("strict", bs)]
def propsD (bo br bs : Bool) : List D := ((props bo br bs).filter fun p => p.2).map fun p => .str p.1
def tellD (p : Str × Bool) : D := .tuple [.str p.1, .bool p.2]
theorem c13 {n : Nat} {nm : D} {ts : List Tb} (h : Ok ts) : callF (TOf ds) (n + 6) 13 [.d (meaD nm ts)] = .ok (.d (.tuple (propsD (ordersOf wo ts).isEmpty (risingOf ts).isEmpty (strictOf ts).isEmpty))) [none] := by
  rw [callF_go (fd := d13.fd) rfl rfl]
  have e12 := c12 (n := n) (nm := nm) h
  have e11 := c11 (n := n) (nm := nm) h
  have e10 := c10 (n := n) (nm := nm) h
  rw [none_first (fun _ => rfl)] at e12 e11 e10
  have s1 : evB (callF (TOf ds) (n + 5)) (.lst (.cons (.tup (.cons (.c (.str "orders")) (.cons (.call 12 (.cons (.v 0) .nil)) .nil))) (.cons (.tup (.cons (.c (.str "rising")) (.cons (.call 10 (.cons (.v 0) .nil)) .nil))) (.cons (.tup (.cons (.c (.str "strict")) (.cons (.call 11 (.cons (.v 0) .nil)) .nil))) .nil)))) false [some (.d (meaD nm ts)), none, none, none] =
      .ok (false, .ls ((props (ordersOf wo ts).isEmpty (risingOf ts).isEmpty (strictOf ts).isEmpty).map tellD)) [some (.d (meaD nm ts)), none, none, none] :=
    lst_k (evL_c (val_k (tup_k (evL_c (val_k c_k) (evL_c (val_k (call_1 (fun i z => by cases z) (val_k (v_d rfl)) e12)) evL_n)))) (evL_c (val_k (tup_k (evL_c (val_k c_k) (evL_c (val_k (call_1 (fun i z => by cases z) (val_k (v_d rfl)) e10)) evL_n)))) (evL_c (val_k (tup_k (evL_c (val_k c_k) (evL_c (val_k (call_1 (fun i z => by cases z) (val_k (v_d rfl)) e11)) evL_n)))) evL_n)))
  generalize hp : props (ordersOf wo ts).isEmpty (risingOf ts).isEmpty (strictOf ts).isEmpty = ps at s1
  have hpl : ps.length = 3 := by rw [← hp]; rfl
  have el := lc_plain (cf := callF (TOf ds) (n + 5)) (own := [2, 3]) (g := .tc (.n 2) (.tc (.n 3) .t0)) (src := .v 1) (cond := .v 3) (elt := .v 2) (ro := false) (ρ := [some (.d (meaD nm ts)), some (.ls (ps.map tellD)), none, none]) (ρ1 := [some (.d (meaD nm ts)), some (.ls (ps.map tellD)), none, none])
    (d := tellD) (c := fun p => p.2) (e := fun p => .d (.str p.1)) (lent := [1]) (xs := ps) (os := ps.map tellD) (by simp [evI, evB, rd, own_ls, R.bind, srcOf, lentOf]) rfl (by rw [sizeLine_eq]; have := filter_le (p := fun p : Str × Bool => p.2) (Nat.le_of_eq hpl); omega) (fun p _ => by
      refine ⟨[some (.d (meaD nm ts)), none, some (.d (.str p.1)), some (.d (.bool p.2))], by simp [put, puts, tellD, Dv.wipe, Dv.st], [some (.d (meaD nm ts)), none, some (.d (.str p.1)), some (.d (.bool p.2))], ?_, by simp [Dv.wipe, Dv.st], fun _ => ⟨_, val_k (v_d rfl), by simp [Dv.wipe, Dv.st]⟩⟩
      rw [evT, v_d rfl, R.bind_k]
      · rfl
      all_goals (intros; contradiction))
  rw [mkL_d] at el
  refine (congrArg (ended 1 []) (seq_k (set_k rfl s1))).trans ?_
  have e5 := ret_k (e := .blt .tuple (.cons (.lc [2, 3] (.tc (.n 2) (.tc (.n 3) .t0)) (.v 1) (.v 3) (.v 2)) .nil)) (io := []) (fun i z => by cases z) (val_k (blt_k (b := .tuple) (evW_1 el) rfl))
  refine (congrArg (fun r => ended 1 [] (SR.then r fun ρ' => evS (callF (TOf ds) (n + 5)) .nil [] ρ')) e5).trans ?_
  unfold propsD
  rw [hp]
  rfl
def nd : D → Bool
  | .dict _ => false
  | _ => true
def strD : D → Bool
  | .str _ => true
  | _ => false
def intD : D → Bool
  | .int _ => true
  | _ => false
theorem bools_all {α : Type} {f : α → Bool} : ∀ xs : List α, allBools (xs.map fun x => .bool (f x)) = some (xs.map f)
  | [] => rfl
  | x :: r => by rw [List.map_cons, allBools, bools_all r]; rfl
theorem all_k {α : Type} {f : α → Bool} {xs : List α} : blt .all [.ls (xs.map fun x => .bool (f x))] = some (.d (.bool (xs.all f))) := by
  show (allBools (xs.map fun x => .bool (f x))).map (fun bs => O.d (.bool (bs.all id))) = _
  rw [bools_all]
  simp [List.all_map]
theorem ty_str {x : D} (h : nd x = true) : tyD .str x = some (strD x) := by
  cases x <;> first | rfl | cases h
theorem ty_tup {x : D} (h : nd x = true) (h2 : ∀ xs, x = .tuple xs → False) : tyD .tuple x = some false := by
  cases x <;> first | rfl | exact (h2 _ rfl).elim | (cases h; done)
theorem isi_k {cf : Nat → List O → CR} {a : E} {ty : Ty} {ro b t : Bool} {x : O} {ρ ρ1 : Dv.Env} (h : evB cf a ro ρ = .ok (b, x) ρ1) (h2 : tyD ty (frz x) = some t) : evB cf (.isi a ty) ro ρ = .ok (false, .d (.bool t)) ρ1 := by
  rw [evB, h, R.bind_k]
  dsimp only
  rw [h2]
  rfl
theorem test_k {cf : Nat → List O → CR} {e : E} {ro b t : Bool} {ρ ρ1 : Dv.Env} (hp : isTst e = false) (h : evB cf e ro ρ = .ok (b, .d (.bool t)) ρ1) : evT cf e ro ρ = .ok t ρ1 := by
  rw [evT_plain hp, h, R.bind_k]
  rfl
/-- all of a test over some items -/
theorem every {cf : Nat → List O → CR} {i : Nat} {src elt : E} {ρ : Dv.Env} {f : D → Bool} {xs : List D} (hs : evI cf src false ρ = .ok ⟨xs, []⟩ ρ) (hl : xs.length ≤ 1000) (h7 : ∀ x, Dv.wipe (Dv.st (Dv.wipe ρ [i]) i x) [i] = Dv.wipe ρ [i])
    (he : ∀ x ∈ xs, asV elt false (evB cf elt false (Dv.st (Dv.wipe ρ [i]) i (some (.d x)))) = .ok (.d (.bool (f x))) (Dv.st (Dv.wipe ρ [i]) i (some (.d x)))) :
    evB cf (.blt .all (.cons (.lc [i] (.n i) src .no elt) .nil)) false ρ = .ok (false, .d (.bool (xs.all f))) ρ := by
  have el := lc_plain (cf := cf) (own := [i]) (g := .n i) (src := src) (cond := .no) (elt := elt) (ro := false) (ρ := ρ) (ρ1 := ρ) (d := fun x : D => x) (c := fun _ => true) (e := fun x => .d (.bool (f x))) (lent := []) (xs := xs) (os := xs) hs (by simp) (by rw [filter_all, sizeLine_eq]; omega) (fun x hx => by
    exact ⟨Dv.st (Dv.wipe ρ [i]) i (some (.d x)), by rw [put]; rfl, Dv.st (Dv.wipe ρ [i]) i (some (.d x)), by rw [evT], h7 _, fun _ => ⟨_, he x hx, h7 _⟩⟩)
  rw [filter_all, mkL_d] at el
  exact blt_k (evW_1 el) all_k
def ft (xs : List D) : Bool := (xs.length == 3 || xs.length == 4) && (cutL xs none (some 2)).all strD && (cutL xs (some 2) none).all intD
theorem cut_le {α : Type} {xs : List α} {a b : Option Int} : (cutL xs a b).length ≤ xs.length := by
  unfold cutL
  rw [List.length_take, List.length_drop]
  omega
theorem sl_src {cf : Nat → List O → CR} {i : Nat} {xs : List D} {ρ : Dv.Env} {lo hi : E} {l h : Option Int} (hr : rd ρ i = some (.d (.tuple xs))) (h1 : evO cf lo false ρ = .ok l ρ) (h2 : evO cf hi false ρ = .ok h ρ) : evI cf (.sl (.v i) lo hi) false ρ = .ok ⟨cutL xs l h, []⟩ ρ :=
  for_src (fun a b => ⟨nofun, nofun, nofun, nofun⟩) (o := .d (.tuple (cutL xs l h))) (by
    rw [evB, v_d hr, R.bind_k]
    simp only [Bool.or_false]
    rw [h1, R.bind_k, h2, R.bind_k]
    rfl) rfl
theorem evO_n {cf : Nat → List O → CR} {ro : Bool} {ρ : Dv.Env} : evO cf .no ro ρ = .ok none ρ := by rw [evO]
theorem evO_c {cf : Nat → List O → CR} {ro : Bool} {i : Int} {ρ : Dv.Env} : evO cf (.c (.int i)) ro ρ = .ok (some i) ρ := by
  rw [evO, c_k, R.bind_k]
  · rfl
  · nofun
theorem c15 {n : Nat} {xs : List D} (hn : ∀ x ∈ xs, nd x = true) (hl : xs.length ≤ 1000) : callF (TOf ds) (n + 1) 15 [.d (.tuple xs)] = .ok (.d (.bool (ft xs))) [none] := by
  rw [callF_go (fd := d15.fd) rfl rfl]
  have t1 : evT (callF (TOf ds) n) (.or (.not (.isi (.v 0) .tuple)) (.cmp .nin (.blt .len (.cons (.v 0) .nil)) (.tup (.cons (.c (.int 3)) (.cons (.c (.int 4)) .nil))))) false [some (.d (.tuple xs)), none] = .ok (!(xs.length == 3 || xs.length == 4)) [some (.d (.tuple xs)), none] := by
    rw [orT_f (notT_k (t := true) (test_k rfl (isi_k (v_d rfl) rfl)))]
    refine cmpT_k (blt_k (evW_1 (v_d rfl)) (o := .d (.int (xs.length : Int))) (by simp [Dv.blt])) (tup_k (evL_c (val_k c_k) (evL_c (val_k c_k) evL_n))) ?_
    have e1 : ((3 : Int) == (xs.length : Int)) = (xs.length == 3) := by
      rw [Bool.eq_iff_iff, beq_iff_eq, beq_iff_eq]
      omega
    have e2 : ((4 : Int) == (xs.length : Int)) = (xs.length == 4) := by
      rw [Bool.eq_iff_iff, beq_iff_eq, beq_iff_eq]
      omega
    simp [frz, frzs, cmp, inD, flatD, PyData.eqv, e1, e2]
  have hb : d15.fd.body = .seq (.iff (.or (.not (.isi (.v 0) .tuple)) (.cmp .nin (.blt .len (.cons (.v 0) .nil)) (.tup (.cons (.c (.int 3)) (.cons (.c (.int 4)) .nil))))) (.seq (.ret (.c (.bool false))) .nil) .nil) (sTl d15.fd.body) := rfl
  rw [hb]
  show ended 1 [] (evS (callF (TOf ds) n) _ [] [some (.d (.tuple xs)), none]) = _
  cases hc : (xs.length == 3 || xs.length == 4) with
  | false =>
    rw [hc] at t1
    rw [evS, iff_t t1]
    simp [evS, evB, asV, R.sr, SR.then, ended, keepE, ft, hc]
  | true =>
    rw [hc] at t1
    rw [evS, iff_f t1, nil_k, SR.then_n]
    have t2 := every (cf := callF (TOf ds) n) (i := 1) (src := .sl (.v 0) .no (.c (.int 2))) (elt := .isi (.v 1) .str) (ρ := [some (.d (.tuple xs)), none]) (f := strD) (xs := cutL xs none (some 2)) (sl_src rfl evO_n evO_c) (Nat.le_trans cut_le hl) (fun _ => rfl) (fun x hx => val_k (isi_k (v_d rfl) (ty_str (hn x (cut_mem hx)))))
    have t3 := every (cf := callF (TOf ds) n) (i := 1) (src := .sl (.v 0) (.c (.int 2)) .no) (elt := .and (.isi (.v 1) .int) (.not (.isi (.v 1) .bool))) (ρ := [some (.d (.tuple xs)), none]) (f := intD) (xs := cutL xs (some 2) none) (sl_src rfl evO_c evO_n) (Nat.le_trans cut_le hl) (fun _ => rfl) (fun x hx => by
      have := hn x (cut_mem hx)
      cases x <;> first | (cases this; done) | simp [evB, rd, own_d, R.bind, tyD, frz, lift, asB, truth, asV, Dv.fresh, intD, Dv.st, Dv.wipe])
    have hb2 : sTl d15.fd.body = .seq (.iff (.not (.blt .all (.cons (.lc [1] (.n 1) (.sl (.v 0) .no (.c (.int 2))) .no (.isi (.v 1) .str)) .nil))) (.seq (.ret (.c (.bool false))) .nil) .nil) (.seq (.ret (.blt .all (.cons (.lc [1] (.n 1) (.sl (.v 0) (.c (.int 2)) .no) .no (.and (.isi (.v 1) .int) (.not (.isi (.v 1) .bool)))) .nil))) .nil) := rfl
    rw [hb2]
    have t4 := notT_k (test_k rfl t2)
    cases hq : (cutL xs none (some 2)).all strD with
    | false =>
      rw [hq] at t4
      rw [evS, iff_t t4]
      simp [evS, evB, asV, R.sr, SR.then, ended, keepE, ft, hq]
    | true =>
      rw [hq] at t4
      rw [evS, iff_f t4, nil_k, SR.then_n, evS, ret_k (fun i z => by cases z) (val_k t3)]
      simp [SR.then, ended, keepE, ft, hc, hq]
theorem c15f {n : Nat} {x : D} (hn : nd x = true) (h2 : ∀ xs, x = .tuple xs → False) : callF (TOf ds) (n + 1) 15 [.d x] = .ok (.d (.bool false)) [none] := by
  rw [callF_go (fd := d15.fd) rfl rfl]
  have t1 : evT (callF (TOf ds) n) (.or (.not (.isi (.v 0) .tuple)) (.cmp .nin (.blt .len (.cons (.v 0) .nil)) (.tup (.cons (.c (.int 3)) (.cons (.c (.int 4)) .nil))))) false [some (.d x), none] = .ok true [some (.d x), none] :=
    orT_t (notT_k (t := false) (test_k rfl (isi_k (v_d rfl) (ty_tup hn h2))))
  have hb : d15.fd.body = .seq (.iff (.or (.not (.isi (.v 0) .tuple)) (.cmp .nin (.blt .len (.cons (.v 0) .nil)) (.tup (.cons (.c (.int 3)) (.cons (.c (.int 4)) .nil))))) (.seq (.ret (.c (.bool false))) .nil) .nil) (sTl d15.fd.body) := rfl
  rw [hb]
  show ended 1 [] (evS (callF (TOf ds) n) _ [] [some (.d x), none]) = _
  rw [evS, iff_t t1]
  simp [evS, evB, asV, R.sr, SR.then, ended, keepE]
def ff : D → Bool
  | .tuple xs => ft xs
  | _ => false
/-- a thing whose form can be looked at -/
def looked (x : D) : Prop := nd x = true ∧ ∀ xs, x = .tuple xs → (∀ y ∈ xs, nd y = true) ∧ xs.length ≤ 1000
theorem c15' {n : Nat} {x : D} (h : looked x) : callF (TOf ds) (n + 1) 15 [.d x] = .ok (.d (.bool (ff x))) [none] := by
  by_cases e : ∃ xs, x = .tuple xs
  · obtain ⟨xs, rfl⟩ := e
    exact c15 (h.2 xs rfl).1 (h.2 xs rfl).2
  · rw [c15f h.1 (fun xs z => e ⟨xs, z⟩)]
    cases x <;> first | rfl | exact (e ⟨_, rfl⟩).elim
abbrev test16 : E := .or (.not (.isi (.v 1) .tuple)) (.not (.blt .all (.cons (.lc [2] (.n 2) (.v 1) .no (.call 15 (.cons (.v 2) .nil))) .nil)))
theorem c16f {n : Nat} {m x : D} (hn : nd x = true) (h2 : ∀ xs, x = .tuple xs → False) : callF (TOf ds) (n + 1) 16 [.d m, .d x] = .ok (.d (.bool false)) [none, none] := by
  rw [callF_go (fd := d16.fd) rfl rfl]
  have t1 : evT (callF (TOf ds) n) test16 false [some (.d m), some (.d x), none] = .ok true [some (.d m), some (.d x), none] :=
    orT_t (notT_k (t := false) (test_k rfl (isi_k (v_d rfl) (ty_tup hn h2))))
  have hb : d16.fd.body = .seq (.iff test16 (.seq (.ret (.c (.bool false))) .nil) .nil) (sTl d16.fd.body) := rfl
  rw [hb]
  show ended 2 [] (evS (callF (TOf ds) n) _ [] [some (.d m), some (.d x), none]) = _
  rw [evS, iff_t t1]
  simp [evS, evB, asV, R.sr, SR.then, ended, keepE]
def dueOf (ts : List Tb) : D := .tuple (due (risingOf ts) (strictOf ts) (ordersOf wo ts))
theorem c16 {n p w : Nat} {nm : D} {ts : List Tb} {xs : List D} (h : Ok ts) (hl : xs.length ≤ 1000) (hx : ∀ x ∈ xs, looked x) (hs : Sm p w (.tuple xs)) (hp : p ≤ 64) {p' w' : Nat} (hd : Sm p' w' (dueOf ts)) (hp' : p' ≤ 64) :
    callF (TOf ds) (n + 5) 16 [.d (meaD nm ts), .d (.tuple xs)] = .ok (.d (.bool (xs.all ff && PyData.eqv (.tuple xs) (dueOf ts)))) [none, none] := by
  rw [callF_go (fd := d16.fd) rfl rfl]
  have t2 := every (cf := callF (TOf ds) (n + 4)) (i := 2) (src := .v 1) (elt := .call 15 (.cons (.v 2) .nil)) (ρ := [some (.d (meaD nm ts)), some (.d (.tuple xs)), none]) (f := ff) (xs := xs) (for_src (fun a b => ⟨nofun, nofun, nofun, nofun⟩) (v_d rfl) rfl) hl (fun _ => rfl) (fun x hm => val_k (call_1 (fun i z => by cases z) (val_k (v_d rfl)) (c15' (hx x hm))))
  have t1 : evT (callF (TOf ds) (n + 4)) test16 false [some (.d (meaD nm ts)), some (.d (.tuple xs)), none] = .ok (!xs.all ff) [some (.d (meaD nm ts)), some (.d (.tuple xs)), none] := by
    rw [orT_f (notT_k (t := true) (test_k rfl (isi_k (v_d rfl) rfl)))]
    exact notT_k (test_k rfl t2)
  have hb : d16.fd.body = .seq (.iff test16 (.seq (.ret (.c (.bool false))) .nil) .nil) (.seq (.ret (.cmp .eq (.v 1) (.call 14 (.cons (.v 0) .nil)))) .nil) := rfl
  rw [hb]
  show ended 2 [] (evS (callF (TOf ds) (n + 4)) _ [] [some (.d (meaD nm ts)), some (.d (.tuple xs)), none]) = _
  cases hq : xs.all ff with
  | false =>
    rw [hq] at t1
    rw [evS, iff_t t1]
    simp [evS, evB, asV, R.sr, SR.then, ended, keepE]
  | true =>
    rw [hq] at t1
    have t3 := cmp_k (cf := callF (TOf ds) (n + 4)) (op := .eq) (a := .v 1) (b := .call 14 (.cons (.v 0) .nil)) (ro := false) (ρ := [some (.d (meaD nm ts)), some (.d (.tuple xs)), none]) (v_d rfl) (call_1 (fun i z => by cases z) (val_k (v_d rfl)) (c14 h)) (t := PyData.eqv (.tuple xs) (dueOf ts)) (hs.eq hd hp hp')
    rw [evS, iff_f t1, nil_k, SR.then_n, evS, ret_k (fun i z => by cases z) (val_k t3)]
    simp [SR.then, ended, keepE]
end K25
set_option Elab.async false
set_option linter.all false
set_option maxRecDepth 100000
set_option maxHeartbeats 1000000
namespace K25
open PySem PySem.Spec PyProof.Rows L2 Dv
def Lab (l : Str) : Prop := l ∈ (["f", "g", "h"] : List Str)
def Val (o : Option Int) : Prop := ∀ i, o = some i → 0 ≤ i ∧ i < 6
theorem val_at {os : List (Option Int)} (h : ∀ o ∈ os, Val o) (k : Nat) : Val (os.getD k none) := by
  rw [List.getD_eq_getElem?_getD]
  cases e : os[k]? with
  | none => intro i z; cases z
  | some o => exact h o (List.mem_of_getElem? e)
theorem cell_in {ts : List Tb} (h : Ok ts) {c : Ce} (hc : c ∈ cellsOf ts) : Lab c.1 ∧ 0 ≤ c.2.1 ∧ c.2.1 < 6 ∧ Val c.2.2 := by
  obtain ⟨t, ht, hc⟩ := List.mem_flatMap.mp hc
  obtain ⟨h1, ⟨_, _, h2⟩, h3⟩ := h.2 t ht
  rw [cells_range] at hc
  obtain ⟨j, hj, rfl⟩ := List.mem_map.mp hc
  have := List.mem_range.mp hj
  exact ⟨h2, by dsimp only; omega, by dsimp only; omega, val_at (fun o ho => h3 o ho) j⟩
theorem ord_in {f : Option Int → Option Int → Bool} {ts : List Tb} (h : Ok ts) {o : Or} (ho : o ∈ ordersOf f ts) : Lab o.1 ∧ o.2.1 < 6 ∧ o.2.2 < 6 := by
  obtain ⟨t, ht, ho⟩ := List.mem_flatMap.mp ho
  obtain ⟨h1, ⟨_, _, h2⟩, h3⟩ := h.2 t ht
  obtain ⟨v, hv, ho⟩ := List.mem_flatMap.mp ho
  obtain ⟨k, hk, rfl⟩ := List.mem_map.mp ho
  have hv := List.mem_range.mp hv
  have hk := List.mem_range.mp (List.mem_filter.mp hk).1
  exact ⟨h2, by dsimp only; omega, by dsimp only; omega⟩
theorem rise_eq {a : Option Int} {w : Int} (hw : w < 6) : decide (keyI a < w) = better a (some w) := by
  cases a with
  | none => exact decide_eq_false (by simp only [keyI]; omega)
  | some i => rfl
theorem str_eq {a : Option Int} {w : Int} (hw : w < 6) : decide (keyI a ≤ w) = !better (some w) a := by
  cases a with
  | none => exact decide_eq_false (by simp only [keyI]; omega)
  | some i =>
    show decide (i ≤ w) = !decide (w < i)
    by_cases h : w < i
    · rw [decide_eq_true h, decide_eq_false (by omega)]; rfl
    · rw [decide_eq_false h, decide_eq_true (by omega)]; rfl
theorem ord_eq {a b : Option Int} (ha : Val a) (hb : Val b) : kb a b = wo a b := by
  unfold kb wo
  cases b with
  | none =>
    refine decide_eq_false ?_
    cases a with
    | none => simp [keyI]
    | some i => have := ha i rfl; simp only [keyI]; omega
  | some j =>
    cases a with
    | none => exact decide_eq_true (by have := hb j rfl; simp only [keyI]; omega)
    | some i => rfl
theorem risingK_eq {ts : List Tb} (h : Ok ts) : risingK ts = risingOf ts := List.filter_congr fun c hc => rise_eq (cell_in h hc).2.2.1
theorem strictK_eq {ts : List Tb} (h : Ok ts) : strictK ts = strictOf ts := List.filter_congr fun c hc => str_eq (cell_in h hc).2.2.1
theorem orders_eq {ts : List Tb} (h : Ok ts) : ordersOf kb ts = ordersOf wo ts := by
  unfold ordersOf
  have key : ∀ t ∈ ts, ordT kb t = ordT wo t := fun t ht => by
    have h3 := (h.2 t ht).2.2
    unfold ordT
    congr 1
    funext v
    unfold ordV
    congr 1
    exact List.filter_congr fun k _ => ord_eq (val_at (fun o ho => h3 o ho) _) (val_at (fun o ho => h3 o ho) _)
  clear h
  induction ts with
  | nil => rfl
  | cons t r ih => rw [List.flatMap_cons, List.flatMap_cons, key t List.mem_cons_self, ih fun t ht => key t (List.mem_cons_of_mem _ ht)]
theorem strict_rising {ts : List Tb} (h : (strictK ts).isEmpty = true) : (risingK ts).isEmpty = true := by
  rw [List.isEmpty_iff] at h ⊢
  refine List.filter_eq_nil_iff.mpr fun c hc z => ?_
  have := (List.filter_eq_nil_iff.mp h) c hc
  have z' := of_decide_eq_true z
  exact this (decide_eq_true (by omega))
theorem mono_of {g : Nat → Int} {len : Nat} (h : ∀ k, k + 1 < len → ¬ g (k + 1) < g k) : ∀ d v, v + d < len → g v ≤ g (v + d)
  | 0, v, _ => Int.le_refl _
  | d + 1, v, hl => by
    have h1 := mono_of h d v (by omega)
    have h2 := h (v + d) (by omega)
    have e : v + (d + 1) = v + d + 1 := by omega
    rw [e]
    omega
theorem near_orders (ts : List Tb) : (nearOf ts).isEmpty = (ordersOf kb ts).isEmpty := by
  rw [Bool.eq_iff_iff, List.isEmpty_iff, List.isEmpty_iff]
  unfold nearOf ordersOf
  rw [List.flatMap_eq_nil_iff, List.flatMap_eq_nil_iff]
  refine forall_congr' fun t => forall_congr' fun _ => ?_
  unfold nearT ordT
  rw [List.flatMap_eq_nil_iff, List.filter_eq_nil_iff]
  constructor
  · intro h v hv
    have hv := List.mem_range.mp hv
    unfold ordV
    rw [List.map_eq_nil_iff, List.filter_eq_nil_iff]
    intro k hk z
    have hk := List.mem_range.mp hk
    have m := mono_of (g := fun k => keyI (t.2.getD k none)) (len := t.2.length) (fun k hk z => h k (List.mem_range.mpr (by omega)) (decide_eq_true z)) (1 + k) v (by omega)
    have z' := of_decide_eq_true z
    have e : v + (1 + k) = v + 1 + k := by omega
    rw [e] at m
    omega
  · intro h k hk z
    have hk := List.mem_range.mp hk
    have := h k (List.mem_range.mpr (by omega))
    unfold ordV at this
    rw [List.map_eq_nil_iff, List.filter_eq_nil_iff] at this
    exact this 0 (List.mem_range.mpr (by omega)) z
theorem lab_sm {n : Nat} {l : Str} (h : Lab l) : Sm n 10 (.str l) := by
  unfold Lab at h
  simp only [List.mem_cons, List.not_mem_nil, or_false] at h
  rcases h with rfl | rfl | rfl <;> exact Sm.str (by decide +kernel) (by decide +kernel)
theorem mem2 {P : D → Prop} {a b : D} (ha : P a) (hb : P b) : ∀ x ∈ [a, b], P x := fun x hx => by
  simp only [List.mem_cons, List.not_mem_nil, or_false] at hx
  rcases hx with rfl | rfl
  · exact ha
  · exact hb
theorem mem3 {P : D → Prop} {a b c : D} (ha : P a) (hb : P b) (hc : P c) : ∀ x ∈ [a, b, c], P x := fun x hx => by
  simp only [List.mem_cons, List.not_mem_nil, or_false] at hx
  rcases hx with rfl | rfl | rfl
  · exact ha
  · exact hb
  · exact hc
theorem mem4 {P : D → Prop} {a b c d : D} (ha : P a) (hb : P b) (hc : P c) (hd : P d) : ∀ x ∈ [a, b, c, d], P x := fun x hx => by
  simp only [List.mem_cons, List.not_mem_nil, or_false] at hx
  rcases hx with rfl | rfl | rfl | rfl
  · exact ha
  · exact hb
  · exact hc
  · exact hd
theorem ce2_sm {ts : List Tb} (h : Ok ts) {c : Ce} (hc : c ∈ cellsOf ts) : Sm 1 44 (ce2 c) := by
  obtain ⟨h1, h2, h3, _⟩ := cell_in h hc
  exact Sm.tuple (n := 0) (w := 10) (m := 2) (mem2 (lab_sm h1) (Sm.int (by omega) (by omega))) (Nat.le_refl _) (by decide)
theorem or3_sm {f : Option Int → Option Int → Bool} {ts : List Tb} (h : Ok ts) {o : Or} (ho : o ∈ ordersOf f ts) : Sm 1 44 (or3 o) := by
  obtain ⟨h1, h2, h3⟩ := ord_in h ho
  exact Sm.tuple (n := 0) (w := 10) (m := 3) (mem3 (lab_sm h1) (Sm.int (by omega) (by omega)) (Sm.int (by omega) (by omega))) (Nat.le_refl _) (by decide)
/-- an item of a row of faults: looked at, small, a fault by its form -/
structure Gd (x : D) : Prop where
  lk : looked x
  sm : Sm 1 44 x
theorem ft3 {a b : Str} {i : Int} : ft [.str a, .str b, .int i] = true := rfl
theorem ft4 {a b : Str} {i j : Int} : ft [.str a, .str b, .int i, .int j] = true := rfl
theorem gd_tuple {xs : List D} (h : ∀ x ∈ xs, Sm 0 10 x) (hn : ∀ x ∈ xs, nd x = true) (hl : xs.length ≤ 4) : Gd (.tuple xs) :=
  ⟨⟨rfl, fun ys e => by cases e; exact ⟨hn, by omega⟩⟩, Sm.tuple (n := 0) (w := 10) (m := 4) h hl (by decide)⟩
theorem gd_f2 {ts : List Tb} (h : Ok ts) {w : Str} (hw : Sm 0 10 (.str w)) {c : Ce} (hc : c ∈ cellsOf ts) : Gd (.tuple (.str w :: f2 c)) := by
  obtain ⟨h1, h2, h3, _⟩ := cell_in h hc
  exact gd_tuple (mem3 hw (lab_sm h1) (Sm.int (by omega) (by omega))) (mem3 rfl rfl rfl) (by simp [f2])
theorem gd_f3 {f : Option Int → Option Int → Bool} {ts : List Tb} (h : Ok ts) {w : Str} (hw : Sm 0 10 (.str w)) {o : Or} (ho : o ∈ ordersOf f ts) : Gd (.tuple (.str w :: f3 o)) := by
  obtain ⟨h1, h2, h3⟩ := ord_in h ho
  exact gd_tuple (mem4 hw (lab_sm h1) (Sm.int (by omega) (by omega)) (Sm.int (by omega) (by omega))) (mem4 rfl rfl rfl rfl) (by simp [f3])
theorem w_sm : Sm 0 10 (.str "rising") ∧ Sm 0 10 (.str "strict") ∧ Sm 0 10 (.str "orders") := ⟨Sm.str (by decide +kernel) (by decide +kernel), Sm.str (by decide +kernel) (by decide +kernel), Sm.str (by decide +kernel) (by decide +kernel)⟩
def dueL (ts : List Tb) : List D := due (risingOf ts) (strictOf ts) (ordersOf wo ts)
theorem due_in {ts : List Tb} (h : Ok ts) : ∀ x ∈ dueL ts, Gd x ∧ ff x = true := by
  intro x hx
  unfold dueL due at hx
  rw [List.mem_append, List.mem_append] at hx
  rcases hx with (hx | hx) | hx
  · obtain ⟨c, hc, rfl⟩ := List.mem_map.mp hx
    exact ⟨gd_f2 h w_sm.1 (List.mem_filter.mp hc).1, ft3⟩
  · obtain ⟨c, hc, rfl⟩ := List.mem_map.mp hx
    exact ⟨gd_f2 h w_sm.2.1 (List.mem_filter.mp hc).1, ft3⟩
  · obtain ⟨c, hc, rfl⟩ := List.mem_map.mp hx
    exact ⟨gd_f3 h w_sm.2.2 hc, ft4⟩
theorem due_len {ts : List Tb} (h : Ok ts) : (dueL ts).length ≤ 144 := by
  unfold dueL due
  rw [List.length_append, List.length_append, List.length_map, List.length_map, List.length_map]
  have := rising_le h
  have := strict_le h
  have := orders_le (f := wo) h
  omega
theorem tup_sm {xs : List D} (h : ∀ x ∈ xs, Gd x) (hl : xs.length ≤ 300) : Sm 2 13500 (.tuple xs) := Sm.tuple (fun x hx => (h x hx).sm) hl (by decide)
theorem list_sm {xs : List D} (h : ∀ x ∈ xs, Gd x) (hl : xs.length ≤ 300) : Sm 2 13500 (.list xs) := Sm.list (fun x hx => (h x hx).sm) hl (by decide)
theorem due_sm {ts : List Tb} (h : Ok ts) : Sm 2 13500 (dueOf ts) := tup_sm (fun x hx => (due_in h x hx).1) (Nat.le_trans (due_len h) (by decide))
/-- what is asked of a thing -/
def Thing (n : Nat) (nm : D) (ts : List Tb) (d : D) : Prop := Sm 2 13500 d ∧ ∃ b, callF (TOf ds) (n + 5) 16 [.d (meaD nm ts), .d d] = .ok (.d (.bool b)) [none, none] ∧ (PyData.eqv d (dueOf ts) = false → b = false)
theorem thing_t {n : Nat} {nm : D} {ts : List Tb} (h : Ok ts) {xs : List D} (hx : ∀ x ∈ xs, Gd x) (hl : xs.length ≤ 300) : Thing n nm ts (.tuple xs) :=
  ⟨tup_sm hx hl, _, c16 h (by omega) (fun x hm => (hx x hm).lk) (tup_sm hx hl) (by decide) (due_sm h) (by decide), fun e => by rw [e, Bool.and_false]⟩
theorem thing_f {n : Nat} {nm : D} {ts : List Tb} {x : D} (hs : Sm 2 13500 x) (hn : nd x = true) (h2 : ∀ xs, x = .tuple xs → False) : Thing n nm ts x := ⟨hs, false, c16f hn h2, fun _ => rfl⟩
theorem due_due {n : Nat} {nm : D} {ts : List Tb} (h : Ok ts) : callF (TOf ds) (n + 5) 16 [.d (meaD nm ts), .d (dueOf ts)] = .ok (.d (.bool true)) [none, none] := by
  have hl := due_len h
  rw [show dueOf ts = .tuple (dueL ts) from rfl, c16 h (by omega) (fun x hm => (due_in h x hm).1.lk) (due_sm h) (by decide) (due_sm h) (by decide)]
  have e1 : (dueL ts).all ff = true := List.all_eq_true.mpr fun x hx => (due_in h x hx).2
  rw [e1, show PyData.eqv (.tuple (dueL ts)) (dueOf ts) = true from (due_sm h).refl]
  rfl
end K25
set_option Elab.async false
set_option linter.all false
set_option maxRecDepth 100000
set_option maxHeartbeats 1000000
namespace K25
open PySem PySem.Spec PyProof.Rows L2 Dv
abbrev env25 (s : D) (bag lap m r st o f t nm du nr th : Option O) : Dv.Env := [some (.d s), bag, lap, m, r, st, o, f, t, nm, du, nr, th, none, none, none, none]
def rL (ts : List Tb) : List D := (risingOf ts).map ce2
def sL (ts : List Tb) : List D := (strictOf ts).map ce2
def oL (ts : List Tb) : List D := (ordersOf wo ts).map or3
theorem c23' {n : Nat} {nm : D} {ts : List Tb} (h : Ok ts) : callF (TOf ds) (n + 2) 23 [.d (meaD nm ts)] = .ok (.d (.tuple [.list (rL ts), .list (sL ts), .list (oL ts)])) [none] := by
  rw [c23 h, risingK_eq h, strictK_eq h, orders_eq h]
  rfl
theorem rL_sm {ts : List Tb} (h : Ok ts) : (∀ x ∈ rL ts, Sm 1 44 x) ∧ (rL ts).length ≤ 18 := by
  refine ⟨fun x hx => ?_, by unfold rL; rw [List.length_map]; exact rising_le h⟩
  obtain ⟨c, hc, rfl⟩ := List.mem_map.mp hx
  exact ce2_sm h (List.mem_filter.mp hc).1
theorem sL_sm {ts : List Tb} (h : Ok ts) : (∀ x ∈ sL ts, Sm 1 44 x) ∧ (sL ts).length ≤ 18 := by
  refine ⟨fun x hx => ?_, by unfold sL; rw [List.length_map]; exact strict_le h⟩
  obtain ⟨c, hc, rfl⟩ := List.mem_map.mp hx
  exact ce2_sm h (List.mem_filter.mp hc).1
theorem oL_sm {ts : List Tb} (h : Ok ts) : (∀ x ∈ oL ts, Sm 1 44 x) ∧ (oL ts).length ≤ 108 := by
  refine ⟨fun x hx => ?_, by unfold oL; rw [List.length_map]; exact orders_le h⟩
  obtain ⟨c, hc, rfl⟩ := List.mem_map.mp hx
  exact or3_sm h hc
theorem first_sm {xs : List D} (h : ∀ x ∈ xs, Sm 1 44 x) : Sm 1 44 (firstD xs) := by
  cases xs with
  | nil => exact Sm.none
  | cons x r => exact h x List.mem_cons_self
theorem eq_nil {xs : List D} {p w : Nat} (h : Sm p w (.list xs)) (hp : p ≤ 64) : eqD (.list xs) (.list []) = some xs.isEmpty := by
  rw [h.eq (Sm.list (n := 0) (w := 0) (m := 0) (v := 0) (fun x hx => by cases hx) (Nat.le_refl _) (Nat.le_refl _)) hp (by decide)]
  cases xs <;> rfl
theorem val_f {cf : Nat → List O → CR} {i : Nat} {ρ : Dv.Env} {xs : List D} (h : rd ρ i = some (.ls xs)) : asV (.v i) false (evB cf (.v i) false ρ) = .ok (.d (.list xs)) (Dv.st ρ i (some (.d (.list xs)))) := by
  rw [v_k h]
  rfl
section
variable {n : Nat} {s nm : D} {ts : List Tb} {bag lap m r st o f t nms du nr th : Option O}
abbrev firsts25 : E := .lc [13] (.n 13) (.tup (.cons (.v 4) (.cons (.v 5) (.cons (.v 6) .nil)))) .no (.ix (.bin .add (.v 13) (.lst (.cons (.c .none) .nil))) (.c (.int 0)))
def firsts (ts : List Tb) : List D := [firstD (rL ts), firstD (sL ts), firstD (oL ts)]
theorem k3 (h : Ok ts) : evB (callF (TOf ds) (n + 6)) firsts25 false (env25 s bag lap m (some (.d (.list (rL ts)))) (some (.d (.list (sL ts)))) (some (.d (.list (oL ts)))) f t nms du nr th) =
    .ok (false, .ls (firsts ts)) (env25 s bag lap m (some (.d (.list (rL ts)))) (some (.d (.list (sL ts)))) (some (.d (.list (oL ts)))) f t nms du nr th) := by
  have h1 := (rL_sm h).2
  have h2 := (sL_sm h).2
  have h3 := (oL_sm h).2
  have el := lc_plain (cf := callF (TOf ds) (n + 6)) (own := [13]) (g := .n 13) (src := .tup (.cons (.v 4) (.cons (.v 5) (.cons (.v 6) .nil)))) (cond := .no) (elt := .ix (.bin .add (.v 13) (.lst (.cons (.c .none) .nil))) (.c (.int 0))) (ro := false)
    (ρ := env25 s bag lap m (some (.d (.list (rL ts)))) (some (.d (.list (sL ts)))) (some (.d (.list (oL ts)))) f t nms du nr th) (ρ1 := env25 s bag lap m (some (.d (.list (rL ts)))) (some (.d (.list (sL ts)))) (some (.d (.list (oL ts)))) f t nms du nr th)
    (d := fun l : List D => .list l) (c := fun _ => true) (e := fun l => .d (firstD l)) (lent := []) (xs := [rL ts, sL ts, oL ts]) (for_src (fun a b => ⟨nofun, nofun, nofun, nofun⟩) (tup_k (evL_c (val_k (v_d rfl)) (evL_c (val_k (v_d rfl)) (evL_c (val_k (v_d rfl)) evL_n)))) rfl) rfl (by rw [filter_all, sizeLine_eq]; simp) (fun l hl => by
      have hlen : l.length ≤ 108 := by
        simp only [List.mem_cons, List.not_mem_nil, or_false] at hl
        rcases hl with rfl | rfl | rfl <;> omega
      refine ⟨Dv.st (Dv.wipe (env25 s bag lap m (some (.d (.list (rL ts)))) (some (.d (.list (sL ts)))) (some (.d (.list (oL ts)))) f t nms du nr th) [13]) 13 (some (.d (.list l))), by rw [put]; rfl, Dv.st (Dv.wipe (env25 s bag lap m (some (.d (.list (rL ts)))) (some (.d (.list (sL ts)))) (some (.d (.list (oL ts)))) f t nms du nr th) [13]) 13 (some (.d (.list l))), by rw [evT], rfl, fun _ => ⟨_, val_k (ix_k (bin_k (v_d rfl) (lst_k (evL_c (val_k c_k) evL_n)) (o := .ls (l ++ [.none])) ?_) c_k (z := (false, .d (firstD l))) ?_), rfl⟩⟩
      · have hfit : fits (l.length + 1) = true := by
          unfold fits
          refine decide_eq_true ?_
          rw [sizeLine_eq]
          omega
        simp [Dv.bin, addD, addL, asL, mkL, leaves, O.leaf?, guardO, hfit]
      · cases l with
        | nil => simp [item, L2.atI, L2.ixN, firstD]
        | cons x r =>
          have : (0 : Int) < (r.length : Int) + 1 + 1 := by omega
          simp [item, L2.atI, L2.ixN, firstD, this])
  rw [filter_all, mkL_d] at el
  exact el
theorem firsts_sm (h : Ok ts) : Sm 2 200 (.list (firsts ts)) := Sm.list (n := 1) (w := 44) (m := 3) (mem3 (first_sm (rL_sm h).1) (first_sm (sL_sm h).1) (first_sm (oL_sm h).1)) (Nat.le_refl _) (by decide)
abbrev one25 : E := .call 19 (.cons (.lst (.cons (.call 7 (.cons (.v 3) .nil)) (.cons (.call 8 (.cons (.v 3) .nil)) (.cons (.call 9 (.cons (.v 3) .nil)) .nil)))) (.cons (.v 7) .nil))
theorem k4 (h : Ok ts) : evT (callF (TOf ds) (n + 6)) (.not one25) false (env25 s bag lap (some (.d (meaD nm ts))) r st o (some (.ls (firsts ts))) t nms du nr th) = .ok false (env25 s bag lap (some (.d (meaD nm ts))) r st o (some (.d (.list (firsts ts)))) t nms du nr th) :=
  notT_k (t := true) (test_k rfl (call_2 (fun i z => by cases z) (fun i z => by cases z)
    (val_k (lst_k (evL_c (val_k (call_1 (fun i z => by cases z) (val_k (v_d rfl)) (c7 h))) (evL_c (val_k (call_1 (fun i z => by cases z) (val_k (v_d rfl)) (c8 h))) (evL_c (val_k (call_1 (fun i z => by cases z) (val_k (v_d rfl)) (c9 h))) evL_n)))))
    (val_f rfl) (alike (firsts_sm h) (by decide) (by decide) rfl)))
def truths (ts : List Tb) : List D := [.bool (risingOf ts).isEmpty, .bool (strictOf ts).isEmpty, .bool (ordersOf wo ts).isEmpty]
theorem empty_map {α : Type} {g : α → D} {xs : List α} : (xs.map g).isEmpty = xs.isEmpty := by cases xs <;> rfl
abbrev truths25 : E := .lst (.cons (.cmp .eq (.v 4) (.lst .nil)) (.cons (.cmp .eq (.v 5) (.lst .nil)) (.cons (.cmp .eq (.v 6) (.lst .nil)) .nil)))
theorem k5 (h : Ok ts) : evB (callF (TOf ds) (n + 6)) truths25 false (env25 s bag lap m (some (.d (.list (rL ts)))) (some (.d (.list (sL ts)))) (some (.d (.list (oL ts)))) f t nms du nr th) =
    .ok (false, .ls (truths ts)) (env25 s bag lap m (some (.d (.list (rL ts)))) (some (.d (.list (sL ts)))) (some (.d (.list (oL ts)))) f t nms du nr th) := by
  have e1 := eq_nil (Sm.list (v := 13500) (rL_sm h).1 (rL_sm h).2 (by decide)) (by decide)
  have e2 := eq_nil (Sm.list (v := 13500) (sL_sm h).1 (sL_sm h).2 (by decide)) (by decide)
  have e3 := eq_nil (Sm.list (v := 13500) (oL_sm h).1 (oL_sm h).2 (by decide)) (by decide)
  have q := lst_k (cf := callF (TOf ds) (n + 6)) (ro := false) (evL_c (val_k (cmp_k (op := .eq) (v_d (i := 4) (ρ := env25 s bag lap m (some (.d (.list (rL ts)))) (some (.d (.list (sL ts)))) (some (.d (.list (oL ts)))) f t nms du nr th) rfl) (lst_k evL_n) e1)) (evL_c (val_k (cmp_k (op := .eq) (v_d (i := 5) rfl) (lst_k evL_n) e2)) (evL_c (val_k (cmp_k (op := .eq) (v_d (i := 6) rfl) (lst_k evL_n) e3)) evL_n)))
  rw [q]
  unfold truths
  rw [← empty_map (g := ce2) (xs := risingOf ts), ← empty_map (g := ce2) (xs := strictOf ts), ← empty_map (g := or3) (xs := ordersOf wo ts)]
  rfl
theorem truths_sm : Sm 1 100 (.list (truths ts)) := Sm.list (n := 0) (w := 10) (m := 3) (mem3 Sm.bool Sm.bool Sm.bool) (Nat.le_refl _) (by decide)
abbrev two25 : E := .call 19 (.cons (.lst (.cons (.call 10 (.cons (.v 3) .nil)) (.cons (.call 11 (.cons (.v 3) .nil)) (.cons (.call 12 (.cons (.v 3) .nil)) .nil)))) (.cons (.v 8) .nil))
theorem ix_l {cf : Nat → List O → CR} {i : Nat} {k : Int} {xs : List D} {x : D} {ρ : Dv.Env} (h : rd ρ i = some (.d (.list xs))) (hk : L2.atI xs k = some x) : evB cf (.ix (.v i) (.c (.int k))) false ρ = .ok (false, .d x) ρ :=
  ix_k (v_d h) c_k (z := (false, .d x)) (by simp only [item]; rw [hk]; rfl)
theorem k6 (h : Ok ts) : evT (callF (TOf ds) (n + 6)) (.or (.not two25) (.and (.ix (.v 8) (.c (.int 1))) (.not (.ix (.v 8) (.c (.int 0)))))) false (env25 s bag lap (some (.d (meaD nm ts))) r st o f (some (.ls (truths ts))) nms du nr th) = .ok false (env25 s bag lap (some (.d (meaD nm ts))) r st o f (some (.d (.list (truths ts)))) nms du nr th) := by
  have e12 := c12 (n := n + 1) (nm := nm) h
  have e11 := c11 (n := n + 1) (nm := nm) h
  have e10 := c10 (n := n + 1) (nm := nm) h
  rw [none_first (fun _ => rfl)] at e12 e11 e10
  have e0 : evT (callF (TOf ds) (n + 6)) (.or (.not two25) (.and (.ix (.v 8) (.c (.int 1))) (.not (.ix (.v 8) (.c (.int 0)))))) false (env25 s bag lap (some (.d (meaD nm ts))) r st o f (some (.ls (truths ts))) nms du nr th) = evT (callF (TOf ds) (n + 6)) (.and (.ix (.v 8) (.c (.int 1))) (.not (.ix (.v 8) (.c (.int 0))))) false (env25 s bag lap (some (.d (meaD nm ts))) r st o f (some (.d (.list (truths ts)))) nms du nr th) :=
    orT_f (notT_k (t := true) (test_k rfl (call_2 (fun i z => by cases z) (fun i z => by cases z)
    (val_k (lst_k (evL_c (val_k (call_1 (fun i z => by cases z) (val_k (v_d rfl)) e10)) (evL_c (val_k (call_1 (fun i z => by cases z) (val_k (v_d rfl)) e11)) (evL_c (val_k (call_1 (fun i z => by cases z) (val_k (v_d rfl)) e12)) evL_n)))))
    (val_f rfl) (alike (truths_sm (ts := ts)) (by decide) (by decide) rfl))))
  rw [e0]
  have a1 := test_k (cf := callF (TOf ds) (n + 6)) (e := .ix (.v 8) (.c (.int 1))) rfl (ix_l (i := 8) (ρ := env25 s bag lap (some (.d (meaD nm ts))) r st o f (some (.d (.list (truths ts)))) nms du nr th) (xs := truths ts) rfl (k := 1) rfl)
  have a0 := test_k (cf := callF (TOf ds) (n + 6)) (e := .ix (.v 8) (.c (.int 0))) rfl (ix_l (i := 8) (ρ := env25 s bag lap (some (.d (meaD nm ts))) r st o f (some (.d (.list (truths ts)))) nms du nr th) (xs := truths ts) rfl (k := 0) rfl)
  cases hs : (strictOf ts).isEmpty with
  | false =>
    rw [hs] at a1
    exact andT_f a1
  | true =>
    have hr : (risingOf ts).isEmpty = true := by
      rw [← risingK_eq h]
      rw [← strictK_eq h] at hs
      exact strict_rising hs
    rw [hs] at a1
    rw [hr] at a0
    refine (andT_t a1).trans ?_
    exact notT_k (t := true) a0
end
end K25
set_option Elab.async false
set_option linter.all false
set_option maxRecDepth 100000
set_option maxHeartbeats 1000000
namespace K25
open PySem PySem.Spec PyProof.Rows L2 Dv
def named (bo br bs : Bool) : List (Str × Bool) := [("rising", br), ("strict", bs), ("orders", bo)]
theorem sort_k (bo br bs : Bool) : blt .sorted [.ls (((named bo br bs).filter fun p => p.2).map fun p => .str p.1)] = some (.ls (propsD bo br bs)) := by
  have h : leS ("rising" : Str) ("orders" : Str) = false := by decide +kernel
  have h1 : leS ("strict" : Str) ("orders" : Str) = false := by decide +kernel
  have h2 : leS ("rising" : Str) ("strict" : Str) = true := by decide +kernel
  cases bo <;> cases br <;> cases bs <;> (simp [named, propsD, props, Dv.blt, asL, sortD, allInts, allStrs, sortS, sortI, List.mergeSort, List.MergeSort.Internal.splitInTwo, List.merge, h, h1, h2]; done)
theorem zip_k {cf : Nat → List O → CR} {a b : E} {ro : Bool} {x y : O} {xs ys : List D} {ρ ρ1 ρ2 : Dv.Env} (h1 : evB cf a ro ρ = .ok (false, x) ρ1) (h2 : evB cf b (ro || false) ρ1 = .ok (false, y) ρ2) (hx : asQ x = some xs) (hy : asQ y = some ys) : evI cf (.zip a b) ro ρ = .ok ⟨zipD xs ys, []⟩ ρ2 := by
  rw [evI, h1, R.bind_k, h2, R.bind_k]
  dsimp only
  rw [hx, hy]
  rfl
section
variable {n : Nat} {s nm : D} {ts : List Tb} {bag lap m r st o f t nms du nr th : Option O}
abbrev names25 : E := .blt .sorted (.cons (.lc [14, 15] (.tc (.n 14) (.tc (.n 15) .t0)) (.zip (.tup (.cons (.c (.str "rising")) (.cons (.c (.str "strict")) (.cons (.c (.str "orders")) .nil)))) (.v 8)) (.v 15) (.v 14)) .nil)
def namesOf (ts : List Tb) : List D := propsD (ordersOf wo ts).isEmpty (risingOf ts).isEmpty (strictOf ts).isEmpty
theorem k7 : evB (callF (TOf ds) (n + 6)) names25 false (env25 s bag lap m r st o f (some (.d (.list (truths ts)))) nms du nr th) = .ok (false, .ls (namesOf ts)) (env25 s bag lap m r st o f (some (.d (.list (truths ts)))) nms du nr th) := by
  have hz : zipD [.str "rising", .str "strict", .str "orders"] (truths ts) = (named (ordersOf wo ts).isEmpty (risingOf ts).isEmpty (strictOf ts).isEmpty).map tellD := rfl
  have el := lc_plain (cf := callF (TOf ds) (n + 6)) (own := [14, 15]) (g := .tc (.n 14) (.tc (.n 15) .t0)) (src := .zip (.tup (.cons (.c (.str "rising")) (.cons (.c (.str "strict")) (.cons (.c (.str "orders")) .nil)))) (.v 8)) (cond := .v 15) (elt := .v 14) (ro := false)
    (ρ := env25 s bag lap m r st o f (some (.d (.list (truths ts)))) nms du nr th) (ρ1 := env25 s bag lap m r st o f (some (.d (.list (truths ts)))) nms du nr th)
    (d := tellD) (c := fun p => p.2) (e := fun p => .d (.str p.1)) (lent := []) (xs := named (ordersOf wo ts).isEmpty (risingOf ts).isEmpty (strictOf ts).isEmpty) (zip_k (tup_k (evL_c (val_k c_k) (evL_c (val_k c_k) (evL_c (val_k c_k) evL_n)))) (v_d rfl) rfl rfl) hz (by
      rw [sizeLine_eq]
      have := filter_le (p := fun p : Str × Bool => p.2) (show (named (ordersOf wo ts).isEmpty (risingOf ts).isEmpty (strictOf ts).isEmpty).length ≤ 3 from Nat.le_refl _)
      omega) (fun p _ => by
      refine ⟨[some (.d s), bag, lap, m, r, st, o, f, some (.d (.list (truths ts))), nms, du, nr, th, none, some (.d (.str p.1)), some (.d (.bool p.2)), none], by simp [put, puts, tellD, Dv.wipe, Dv.st], [some (.d s), bag, lap, m, r, st, o, f, some (.d (.list (truths ts))), nms, du, nr, th, none, some (.d (.str p.1)), some (.d (.bool p.2)), none], test_k rfl (v_d rfl), rfl, fun _ => ⟨_, val_k (v_d rfl), rfl⟩⟩)
  rw [mkL_d] at el
  exact blt_k (evW_1 el) (sort_k _ _ _)
abbrev due25 : E := .blt .tuple (.cons (.bin .add (.bin .add (.lc [16] (.n 16) (.v 4) .no (.bin .add (.tup (.cons (.c (.str "rising")) .nil)) (.v 16))) (.lc [16] (.n 16) (.v 5) .no (.bin .add (.tup (.cons (.c (.str "strict")) .nil)) (.v 16)))) (.lc [16] (.n 16) (.v 6) .no (.bin .add (.tup (.cons (.c (.str "orders")) .nil)) (.v 16)))) .nil)
theorem k8 (h : Ok ts) : evB (callF (TOf ds) (n + 6)) due25 false (env25 s bag lap m (some (.d (.list (rL ts)))) (some (.d (.list (sL ts)))) (some (.d (.list (oL ts)))) f t nms du nr th) =
    .ok (false, .d (dueOf ts)) (env25 s bag lap m (some (.d (.list (rL ts)))) (some (.d (.list (sL ts)))) (some (.d (.list (oL ts)))) f t nms du nr th) := by
  have l1 := rising_le h
  have l2 := strict_le h
  have l3 := orders_le (f := wo) h
  have a1 := ahead (cf := callF (TOf ds) (n + 6)) (ro := false) (i := 16) (w := "rising") (src := .v 4) (ρ := env25 s bag lap m (some (.d (.list (rL ts)))) (some (.d (.list (sL ts)))) (some (.d (.list (oL ts)))) f t nms du nr th) (f := f2) (xs := risingOf ts) (for_src (fun a b => ⟨nofun, nofun, nofun, nofun⟩) (v_d rfl) rfl) (by omega) (fun _ => by simp [f2]) (fun _ => rfl) (fun _ => rfl)
  have a2 := ahead (cf := callF (TOf ds) (n + 6)) (ro := false) (i := 16) (w := "strict") (src := .v 5) (ρ := env25 s bag lap m (some (.d (.list (rL ts)))) (some (.d (.list (sL ts)))) (some (.d (.list (oL ts)))) f t nms du nr th) (f := f2) (xs := strictOf ts) (for_src (fun a b => ⟨nofun, nofun, nofun, nofun⟩) (v_d rfl) rfl) (by omega) (fun _ => by simp [f2]) (fun _ => rfl) (fun _ => rfl)
  have a3 := ahead (cf := callF (TOf ds) (n + 6)) (ro := false) (i := 16) (w := "orders") (src := .v 6) (ρ := env25 s bag lap m (some (.d (.list (rL ts)))) (some (.d (.list (sL ts)))) (some (.d (.list (oL ts)))) f t nms du nr th) (f := f3) (xs := ordersOf wo ts) (for_src (fun a b => ⟨nofun, nofun, nofun, nofun⟩) (v_d rfl) rfl) (by omega) (fun _ => by simp [f3]) (fun _ => rfl) (fun _ => rfl)
  have b1 := addLs a1 a2 (by rw [List.length_map, List.length_map]; omega)
  have b2 := addLs b1 a3 (by rw [List.length_append, List.length_map, List.length_map, List.length_map]; omega)
  exact blt_k (evW_1 b2) rfl
theorem names_sm : Sm 1 100 (.tuple (namesOf ts)) := by
  refine Sm.tuple (n := 0) (w := 10) (m := 3) (fun x hx => ?_) ?_ (by decide)
  · obtain ⟨p, hp, rfl⟩ := List.mem_map.mp hx
    have hp := (List.mem_filter.mp hp).1
    simp only [props, List.mem_cons, List.not_mem_nil, or_false] at hp
    rcases hp with rfl | rfl | rfl
    · exact w_sm.2.2
    · exact w_sm.1
    · exact w_sm.2.1
  · unfold namesOf propsD
    rw [List.length_map]
    exact filter_le (Nat.le_refl _)
def third (ts : List Tb) : List D := [.tuple (namesOf ts), dueOf ts, .bool true]
theorem third_sm (h : Ok ts) : Sm 3 60000 (.list (third ts)) := Sm.list (n := 2) (w := 13500) (m := 3) (mem3 (names_sm.up (by decide) (by decide)) (due_sm h) Sm.bool) (Nat.le_refl _) (by decide)
abbrev three25 : E := .call 19 (.cons (.lst (.cons (.call 13 (.cons (.v 3) .nil)) (.cons (.call 14 (.cons (.v 3) .nil)) (.cons (.call 16 (.cons (.v 3) (.cons (.v 10) .nil))) .nil)))) (.cons (.lst (.cons (.blt .tuple (.cons (.v 9) .nil)) (.cons (.v 10) (.cons (.c (.bool true)) .nil)))) .nil))
theorem k9 (h : Ok ts) : evT (callF (TOf ds) (n + 6)) (.not three25) false (env25 s bag lap (some (.d (meaD nm ts))) r st o f t (some (.ls (namesOf ts))) (some (.d (dueOf ts))) nr th) = .ok false (env25 s bag lap (some (.d (meaD nm ts))) r st o f t (some (.ls (namesOf ts))) (some (.d (dueOf ts))) nr th) :=
  notT_k (t := true) (test_k rfl (call_2 (fun i z => by cases z) (fun i z => by cases z)
    (val_k (lst_k (evL_c (val_k (call_1 (fun i z => by cases z) (val_k (v_d rfl)) (c13 h))) (evL_c (val_k (call_1 (fun i z => by cases z) (val_k (v_d rfl)) (c14 h))) (evL_c (val_k (call_2 (fun i z => by cases z) (fun i z => by cases z) (val_k (v_d rfl)) (val_k (v_d rfl)) (due_due h))) evL_n)))))
    (val_k (lst_k (evL_c (val_k (blt_k (evW_1 (v_k rfl)) rfl)) (evL_c (val_k (v_d rfl)) (evL_c (val_k c_k) evL_n))))) (alike (third_sm h) (by decide) (by decide) rfl)))
def nearL (ts : List Tb) : List D := (nearOf ts).map fun k : Nat => .int (k : Int)
theorem near_sm (h : Ok ts) : Sm 1 500 (.list (nearL ts)) := by
  have hk : ∀ k ∈ nearOf ts, k < 6 := fun k hk => by
    obtain ⟨t, ht, hk⟩ := List.mem_flatMap.mp hk
    have h1 := List.mem_range.mp (List.mem_filter.mp hk).1
    have h2 := (h.2 t ht).1
    omega
  have hn : (nearOf ts).length ≤ 18 := by
    have q1 := flat_le (f := nearT) (m := 6) (xs := ts) fun t ht => by
      unfold nearT
      refine filter_le ?_
      rw [List.length_range]
      have h2 := (h.2 t ht).1
      omega
    have := h.1
    unfold nearOf
    omega
  refine Sm.list (n := 0) (w := 10) (m := 18) (fun x hx => ?_) (by unfold nearL; rw [List.length_map]; exact hn) (by decide)
  obtain ⟨k, hk', rfl⟩ := List.mem_map.mp hx
  have := hk k hk'
  exact Sm.int (by omega) (by omega)
abbrev four25 : E := .cmp .ne (.cmp .eq (.v 11) (.lst .nil)) (.ix (.v 8) (.c (.int 2)))
theorem eq_b {a : Bool} : eqD (.bool a) (.bool a) = some true := by
  cases a <;> rfl
theorem k11 (h : Ok ts) : evT (callF (TOf ds) (n + 6)) four25 false (env25 s bag lap m r st o f (some (.d (.list (truths ts)))) nms du (some (.ls (nearL ts))) th) = .ok false (env25 s bag lap m r st o f (some (.d (.list (truths ts)))) nms du (some (.ls (nearL ts))) th) := by
  have e1 : eqD (.list (nearL ts)) (.list []) = some (ordersOf wo ts).isEmpty := by
    rw [eq_nil (near_sm h) (by decide), ← orders_eq h, ← near_orders]
    unfold nearL
    rw [empty_map]
  refine cmpT_k (cmp_k (v_k rfl) (lst_k evL_n) e1) (ix_l (xs := truths ts) rfl (k := 2) (x := .bool (ordersOf wo ts).isEmpty) rfl) ?_
  show (eqD (.bool (ordersOf wo ts).isEmpty) (.bool (ordersOf wo ts).isEmpty)).map (!·) = _
  rw [eq_b]
  rfl
abbrev turn25 : S := .seq (.iff (.and (.cmp .ne (.v 12) (.v 10)) (.cmp .isn (.call 16 (.cons (.v 3) (.cons (.v 12) .nil))) (.c (.bool false)))) (.seq (.ret (.c (.bool false))) .nil) .nil) .nil
theorem k12 {d : D} (h : Ok ts) (hd : Thing (n + 1) nm ts d) : evS (callF (TOf ds) (n + 6)) turn25 [] (env25 s bag lap (some (.d (meaD nm ts))) r st o f t nms (some (.d (dueOf ts))) nr (some (.d d))) = .nx (env25 s bag lap (some (.d (meaD nm ts))) r st o f t nms (some (.d (dueOf ts))) nr (some (.d d))) := by
  obtain ⟨h1, b, h2, h3⟩ := hd
  have e1 : evT (callF (TOf ds) (n + 6)) (.cmp .ne (.v 12) (.v 10)) false (env25 s bag lap (some (.d (meaD nm ts))) r st o f t nms (some (.d (dueOf ts))) nr (some (.d d))) = .ok (!PyData.eqv d (dueOf ts)) (env25 s bag lap (some (.d (meaD nm ts))) r st o f t nms (some (.d (dueOf ts))) nr (some (.d d))) :=
    cmpT_k (v_d rfl) (v_d rfl) (by
      show (eqD d (dueOf ts)).map (!·) = _
      rw [h1.eq (due_sm h) (by decide) (by decide)]
      rfl)
  have key : evT (callF (TOf ds) (n + 6)) (.and (.cmp .ne (.v 12) (.v 10)) (.cmp .isn (.call 16 (.cons (.v 3) (.cons (.v 12) .nil))) (.c (.bool false)))) false (env25 s bag lap (some (.d (meaD nm ts))) r st o f t nms (some (.d (dueOf ts))) nr (some (.d d))) = .ok false (env25 s bag lap (some (.d (meaD nm ts))) r st o f t nms (some (.d (dueOf ts))) nr (some (.d d))) := by
    cases hq : PyData.eqv d (dueOf ts) with
    | true =>
      rw [hq] at e1
      exact andT_f e1
    | false =>
      rw [hq] at e1
      have hb := h3 hq
      subst hb
      refine (andT_t e1).trans ?_
      exact cmpT_k (call_2 (fun i z => by cases z) (fun i z => by cases z) (val_k (v_d rfl)) (val_k (v_d rfl)) h2) c_k rfl
  rw [evS, iff_f key, nil_k, SR.then_n, nil_k]
end
end K25
set_option Elab.async false
set_option linter.all false
set_option maxRecDepth 100000
set_option maxHeartbeats 1000000
namespace K25
open PySem PySem.Spec PyProof.Rows L2 Dv
theorem sl_k {cf : Nat → List O → CR} {i : Nat} {xs : List D} {ρ : Dv.Env} {lo hi : E} {l h : Option Int} (hr : rd ρ i = some (.d (.tuple xs))) (h1 : evO cf lo false ρ = .ok l ρ) (h2 : evO cf hi false ρ = .ok h ρ) : evB cf (.sl (.v i) lo hi) false ρ = .ok (false, .d (.tuple (cutL xs l h))) ρ := by
  rw [evB, v_d hr, R.bind_k]
  simp only [Bool.or_false]
  rw [h1, R.bind_k, h2, R.bind_k]
  rfl
theorem evO_m {cf : Nat → List O → CR} {ro : Bool} {i : Int} {ρ : Dv.Env} : evO cf (.neg (.c (.int i))) ro ρ = .ok (some (-i)) ρ := by
  rw [evO, evB, c_k, R.bind_k]
  · rfl
  · nofun
theorem addT {cf : Nat → List O → CR} {a b : E} {ρ ρ1 ρ2 : Dv.Env} {xs ys : List D} {b1 : Bool} (h1 : evB cf a false ρ = .ok (false, .d (.tuple xs)) ρ1) (h2 : evB cf b false ρ1 = .ok (b1, .d (.tuple ys)) ρ2) (hl : xs.length + ys.length ≤ 1000) : evB cf (.bin .add a b) false ρ = .ok (false, .d (.tuple (xs ++ ys))) ρ2 := by
  refine bin_k h1 h2 ?_
  have hfit : fits (xs.length + ys.length) = true := by
    unfold fits
    refine decide_eq_true ?_
    rw [sizeLine_eq]
    omega
  simp [Dv.bin, addD, guardO, hfit]
abbrev oneT (a b : Str) (c : D) : E := .tup (.cons (.tup (.cons (.c (.str a)) (.cons (.c (.str b)) (.cons (.c c) .nil)))) .nil)
abbrev things25 : E := .lst (.cons (.sl (.v 10) (.c (.int 1)) .no) (.cons (.bin .add (.v 10) (.sl (.v 10) (.neg (.c (.int 1))) .no)) (.cons (.rev (.v 10)) (.cons (.blt .list (.cons (.v 10) .nil)) (.cons (.c .none) (.cons (.bin .add (.v 10) (.tup (.cons (.c .none) .nil))) (.cons (.bin .add (.v 10) (oneT "rising" "f" (.bool true))) (.cons (.bin .add (.v 10) (oneT "zoo" "f" (.int 0))) .nil))))))))
def things (ts : List Tb) : List D := [.tuple (cutL (dueL ts) (some 1) none), .tuple (dueL ts ++ cutL (dueL ts) (some (-1)) none), .tuple (dueL ts).reverse, .list (dueL ts), .none, .tuple (dueL ts ++ [.none]),
  .tuple (dueL ts ++ [.tuple [.str "rising", .str "f", .bool true]]), .tuple (dueL ts ++ [.tuple [.str "zoo", .str "f", .int 0]])]
theorem gd_app {xs ys : List D} (h1 : ∀ x ∈ xs, Gd x) (h2 : ∀ x ∈ ys, Gd x) : ∀ x ∈ xs ++ ys, Gd x := fun x hx => (List.mem_append.mp hx).elim (h1 x) (h2 x)
theorem gd_1 {y : D} (h : Gd y) : ∀ x ∈ [y], Gd x := fun x hx => by
  rw [List.mem_singleton] at hx
  subst hx
  exact h
theorem things_ok {n : Nat} {nm : D} {ts : List Tb} (h : Ok ts) : ∀ d ∈ things ts, Thing n nm ts d := by
  have hg : ∀ x ∈ dueL ts, Gd x := fun x hx => (due_in h x hx).1
  have hl := due_len h
  have hr : ∀ a b, ∀ x ∈ cutL (dueL ts) a b, Gd x := fun a b x hx => hg x (cut_mem hx)
  have hc : ∀ a b, (cutL (dueL ts) a b).length ≤ 144 := fun a b => Nat.le_trans cut_le hl
  have gn : Gd .none := ⟨⟨rfl, fun xs z => by cases z⟩, Sm.none⟩
  have sf : Sm 0 10 (.str "f") := Sm.str (by decide +kernel) (by decide +kernel)
  have sz : Sm 0 10 (.str "zoo") := Sm.str (by decide +kernel) (by decide +kernel)
  have g1 : Gd (.tuple [.str "rising", .str "f", .bool true]) := gd_tuple (mem3 w_sm.1 sf Sm.bool) (mem3 rfl rfl rfl) (by simp)
  have g2 : Gd (.tuple [.str "zoo", .str "f", .int 0]) := gd_tuple (mem3 sz sf (Sm.int (by decide) (by decide))) (mem3 rfl rfl rfl) (by simp)
  intro d hd
  simp only [things, List.mem_cons, List.not_mem_nil, or_false] at hd
  rcases hd with rfl | rfl | rfl | rfl | rfl | rfl | rfl | rfl
  · exact thing_t h (hr _ _) (by have := hc (some 1) none; omega)
  · exact thing_t h (gd_app hg (hr _ _)) (by have := hc (some (-1)) none; rw [List.length_append]; omega)
  · exact thing_t h (fun x hx => hg x (List.mem_reverse.mp hx)) (by rw [List.length_reverse]; omega)
  · exact thing_f (list_sm hg (by omega)) rfl (fun xs z => by cases z)
  · exact thing_f Sm.none rfl (fun xs z => by cases z)
  · exact thing_t h (gd_app hg (gd_1 gn)) (by rw [List.length_append, List.length_singleton]; omega)
  · exact thing_t h (gd_app hg (gd_1 g1)) (by rw [List.length_append, List.length_singleton]; omega)
  · exact thing_t h (gd_app hg (gd_1 g2)) (by rw [List.length_append, List.length_singleton]; omega)
section
variable {n : Nat} {s nm : D} {ts : List Tb} {bag lap m r st o f t nms du nr th : Option O}
theorem k12s (h : Ok ts) : evI (callF (TOf ds) (n + 6)) things25 false (env25 s bag lap m r st o f t nms (some (.d (dueOf ts))) nr th) = .ok ⟨things ts, []⟩ (env25 s bag lap m r st o f t nms (some (.d (dueOf ts))) nr th) := by
  have hl := due_len h
  have hc : ∀ a b, (cutL (dueL ts) a b).length ≤ 144 := fun a b => Nat.le_trans cut_le hl
  have h0 : rd (env25 s bag lap m r st o f t nms (some (.d (dueOf ts))) nr th) 10 = some (.d (.tuple (dueL ts))) := rfl
  have q := lst_k (cf := callF (TOf ds) (n + 6)) (ro := false) (evL_c (val_k (sl_k h0 (evO_c (i := 1)) evO_n)) (evL_c (val_k (addT (v_d h0) (sl_k h0 (evO_m (i := 1)) evO_n) (by have := hc (some (-1)) none; omega))) (evL_c (e := .rev (.v 10)) (o := .d (.tuple (dueL ts).reverse)) (val_k (by rw [evB, v_d h0, R.bind_k]; rfl)) (evL_c (val_k (blt_k (b := .list) (evW_1 (v_d h0)) rfl)) (evL_c (val_k (c_k (x := .none)))
    (evL_c (val_k (addT (v_d h0) (tup_k (evL_c (val_k (c_k (x := .none))) evL_n)) (by show (dueL ts).length + 1 ≤ 1000; omega)))
    (evL_c (val_k (addT (v_d h0) (tup_k (evL_c (val_k (tup_k (evL_c (val_k (c_k (x := .str "rising"))) (evL_c (val_k (c_k (x := .str "f"))) (evL_c (val_k (c_k (x := .bool true))) evL_n))))) evL_n)) (by show (dueL ts).length + 1 ≤ 1000; omega)))
    (evL_c (val_k (addT (v_d h0) (tup_k (evL_c (val_k (tup_k (evL_c (val_k (c_k (x := .str "zoo"))) (evL_c (val_k (c_k (x := .str "f"))) (evL_c (val_k (c_k (x := .int 0))) evL_n))))) evL_n)) (by show (dueL ts).length + 1 ≤ 1000; omega))) evL_n))))))))
  rw [evI_plain rfl]
  refine (congrArg (fun r => R.bind r _) q).trans ?_
  rfl
end
abbrev rf : S := .seq (.ret (.c (.bool false))) .nil
abbrev body25 : S := .seq (.set 3 (.call 21 (.cons (.io 1) (.cons (.c (.int 6)) (.cons (.c (.int 3)) .nil))))) (.seq (.unp (.tc (.n 4) (.tc (.n 5) (.tc (.n 6) .t0))) (.call 23 (.cons (.v 3) .nil))) (.seq (.set 7 firsts25) (.seq (.iff (.not one25) rf .nil) (.seq (.set 8 truths25) (.seq (.iff (.or (.not two25) (.and (.ix (.v 8) (.c (.int 1))) (.not (.ix (.v 8) (.c (.int 0)))))) rf .nil)
  (.seq (.set 9 names25) (.seq (.set 10 due25) (.seq (.iff (.not three25) rf .nil) (.seq (.set 11 (.call 24 (.cons (.v 3) .nil))) (.seq (.iff four25 rf .nil) (.seq (.for_ (.n 12) things25 turn25) .nil)))))))))))
theorem skip {cf : Nat → List O → CR} {c : E} {a : S} {io : List Nat} {ρ ρ' : Dv.Env} (h : evT cf c false ρ = .ok false ρ') : evS cf (.iff c a .nil) io ρ = .nx ρ' := by rw [iff_f h, nil_k]
theorem lap25 {n : Nat} {s : D} {a b c : Int} {ys : List Int} {lap m r st o f t nms du nr th : Option O} (hl : ys.length ≤ 63) (hy : ∀ y ∈ ys, 0 ≤ y) (ha : 0 ≤ a) :
    ∃ a' b' c' m' r' st' o' f' t' nms' du' nr' th', 0 ≤ a' ∧ evS (callF (TOf ds) (n + 6)) body25 [] (env25 s (some (bagO a b c ys)) lap m r st o f t nms du nr th) = .nx (env25 s (some (bagO a' b' c' ys)) lap m' r' st' o' f' t' nms' du' nr' th') := by
  obtain ⟨nm, ts, a', b', c', ha', h, e21⟩ := c21 (n := n + 4) (a := a) (b := b) (c := c) hl hy ha
  have s1 : evB (callF (TOf ds) (n + 6)) (.call 21 (.cons (.io 1) (.cons (.c (.int 6)) (.cons (.c (.int 3)) .nil)))) false (env25 s (some (bagO a b c ys)) lap m r st o f t nms du nr th) = .ok (false, .d (meaD nm ts)) (env25 s (some (bagO a' b' c' ys)) lap m r st o f t nms du nr th) := by
    have hA : evA (callF (TOf ds) (n + 6)) (.cons (.io 1) (.cons (.c (.int 6)) (.cons (.c (.int 3)) .nil))) false (env25 s (some (bagO a b c ys)) lap m r st o f t nms du nr th) = .ok [.io 1, .val (.d (.int 6)), .val (.d (.int 3))] (env25 s (some (bagO a b c ys)) lap m r st o f t nms du nr th) := by
      rw [evA]
      simp only [rd]
      rw [evA_v (fun i z => by cases z) (val_k c_k) (evA_v (fun i z => by cases z) (val_k c_k) evA_n), R.bind_k]
      rfl
    rw [evB, hA, R.bind_k]
    simp only [calling, ioSlots, noDup, argsO, argO, rd, O.fr, frz, List.contains_nil, Bool.not_false, Bool.and_self, Bool.true_or, if_true, e21, calld, putBack, Dv.st]
  refine ⟨a', b', c', some (.d (meaD nm ts)), some (.d (.list (rL ts))), some (.d (.list (sL ts))), some (.d (.list (oL ts))), some (.d (.list (firsts ts))), some (.d (.list (truths ts))), some (.ls (namesOf ts)), some (.d (dueOf ts)), some (.ls (nearL ts)), some (.d (.tuple (dueL ts ++ [.tuple [.str "zoo", .str "f", .int 0]]))), ha', ?_⟩
  refine (seq_k (set_k rfl s1)).trans ?_
  have s2 : evS (callF (TOf ds) (n + 6)) (.unp (.tc (.n 4) (.tc (.n 5) (.tc (.n 6) .t0))) (.call 23 (.cons (.v 3) .nil))) [] (env25 s (some (bagO a' b' c' ys)) lap (some (.d (meaD nm ts))) r st o f t nms du nr th) = .nx (env25 s (some (bagO a' b' c' ys)) lap (some (.d (meaD nm ts))) (some (.d (.list (rL ts)))) (some (.d (.list (sL ts)))) (some (.d (.list (oL ts)))) f t nms du nr th) := by
    rw [evS, call_1 (fun i z => by cases z) (val_k (v_d rfl)) (c23' h)]
    simp [slots, R.sr, put, puts, Dv.st]
  refine (seq_k s2).trans ?_
  refine (seq_k (set_k rfl (k3 h))).trans ?_
  refine (seq_k (skip (k4 h))).trans ?_
  refine (seq_k (set_k rfl (k5 h))).trans ?_
  refine (seq_k (skip (k6 h))).trans ?_
  refine (seq_k (set_k rfl k7)).trans ?_
  refine (seq_k (set_k rfl (k8 h))).trans ?_
  refine (seq_k (skip (k9 h))).trans ?_
  refine (seq_k (set_k rfl (call_1 (fun i z => by cases z) (val_k (v_d rfl)) (c24 h)))).trans ?_
  refine (seq_k (skip (k11 h))).trans ?_
  obtain ⟨ρ', e, hI⟩ := for_pre (cf := callF (TOf ds) (n + 6)) (g := .n 12) (src := things25) (io := []) (body := turn25)
    (ρ := env25 s (some (bagO a' b' c' ys)) lap (some (.d (meaD nm ts))) (some (.d (.list (rL ts)))) (some (.d (.list (sL ts)))) (some (.d (.list (oL ts)))) (some (.d (.list (firsts ts)))) (some (.d (.list (truths ts)))) (some (.ls (namesOf ts))) (some (.d (dueOf ts))) (some (.ls (nearL ts))) th)
    (d := fun x : D => x) (xs := things ts)
    (I := fun pre ρ => ∃ th, ρ = env25 s (some (bagO a' b' c' ys)) lap (some (.d (meaD nm ts))) (some (.d (.list (rL ts)))) (some (.d (.list (sL ts)))) (some (.d (.list (oL ts)))) (some (.d (.list (firsts ts)))) (some (.d (.list (truths ts)))) (some (.ls (namesOf ts))) (some (.d (dueOf ts))) (some (.ls (nearL ts))) th ∧ (pre = things ts → th = some (.d (.tuple (dueL ts ++ [.tuple [.str "zoo", .str "f", .int 0]])))))
    (k12s h) (List.map_id _).symm rfl ⟨th, rfl, fun z => by cases z⟩ (fun s ρ ⟨_, q, _⟩ => by rw [q]; rfl) (fun pre d post hsp ρ ⟨th, hρ, _⟩ => by
      have hd : d ∈ things ts := by rw [hsp]; simp
      subst hρ
      refine ⟨env25 s (some (bagO a' b' c' ys)) lap (some (.d (meaD nm ts))) (some (.d (.list (rL ts)))) (some (.d (.list (sL ts)))) (some (.d (.list (oL ts)))) (some (.d (.list (firsts ts)))) (some (.d (.list (truths ts)))) (some (.ls (namesOf ts))) (some (.d (dueOf ts))) (some (.ls (nearL ts))) (some (.d d)), by rw [put]; rfl, _, k12 h (things_ok h d hd), some (.d d), rfl, fun z => ?_⟩
      have e := congrArg List.getLast? z
      rw [List.getLast?_append] at e
      simp [things] at e
      rw [e])
  obtain ⟨th', rfl, hth⟩ := hI
  rw [hth rfl] at e
  exact (seq_k e).trans nil_k
theorem law_any {n : Nat} {zs : List Int} (hl : zs.length ≤ 63) : ∃ π, callF (TOf ds) (n + 7) 25 [.d (.list (zs.map .int))] = .ok (.d (.bool true)) π := by
  obtain ⟨π0, e17⟩ := c17 (n := n + 5) (zs := zs) hl
  have hy : ∀ y ∈ zs.map absI, 0 ≤ y := fun y hy => by
    obtain ⟨z, _, rfl⟩ := List.mem_map.mp hy
    unfold absI
    split <;> omega
  rw [callF_go (fd := d25.fd) rfl rfl]
  obtain ⟨ρ', e, a, b, c, lap, m, r, sx, o, f, t, nms, du, nr, th, hr, ha⟩ := for_pre (cf := callF (TOf ds) (n + 6)) (g := .n 2) (src := .rng1 (.c (.int 6))) (io := []) (body := body25)
    (ρ := env25 (.list (zs.map .int)) (some (bagO 0 1234567891 0 (zs.map absI))) none none none none none none none none none none none) (ρ1 := env25 (.list (zs.map .int)) (some (bagO 0 1234567891 0 (zs.map absI))) none none none none none none none none none none none)
    (d := fun k : Nat => .int (k : Int)) (xs := List.range 6) (os := Dv.range 0 ((6 : Nat) : Int))
    (I := fun pre ρ => ∃ a b c lap m r sx o f t nms du nr th, ρ = env25 (.list (zs.map .int)) (some (bagO a b c (zs.map absI))) lap m r sx o f t nms du nr th ∧ 0 ≤ a)
    (rng1_k c_k (okR (Int.le_refl 0) (by decide) (by decide) (by decide))) (range0 6) rfl ⟨_, _, _, _, _, _, _, _, _, _, _, _, _, _, rfl, Int.le_refl 0⟩ (fun s ρ ⟨_, _, _, _, _, _, _, _, _, _, _, _, _, _, q, _⟩ => by rw [q]; rfl) (fun pre k post hsp ρ ⟨a, b, c, lap, m, r, sx, o, f, t, nms, du, nr, th, hρ, ha⟩ => by
      subst hρ
      obtain ⟨a', b', c', m', r', st', o', f', t', nms', du', nr', th', ha', e⟩ := lap25 (n := n) (s := .list (zs.map .int)) (a := a) (b := b) (c := c) (ys := zs.map absI) (lap := some (.d (.int (k : Int)))) (m := m) (r := r) (st := sx) (o := o) (f := f) (t := t) (nms := nms) (du := du) (nr := nr) (th := th) (by rw [List.length_map]; exact hl) hy ha
      exact ⟨env25 (.list (zs.map .int)) (some (bagO a b c (zs.map absI))) (some (.d (.int (k : Int)))) m r sx o f t nms du nr th, rfl, _, e, a', b', c', _, m', r', st', o', f', t', nms', du', nr', th', rfl, ha'⟩)
  subst hr
  refine ⟨[none], ?_⟩
  show ended 1 [] (evS (callF (TOf ds) (n + 6)) (.seq (.set 1 (.call 17 (.cons (.v 0) .nil))) (.seq (.for_ (.n 2) (.rng1 (.c (.int 6))) body25) (.seq (.ret (.c (.bool true))) .nil))) [] (env25 (.list (zs.map .int)) none none none none none none none none none none none none)) = _
  refine (congrArg (ended 1 []) ((seq_k (set_k rfl (call_1 (fun i z => by cases z) (val_k (v_d rfl)) e17))).trans (seq_k e))).trans ?_
  rw [evS, ret_k (fun i z => by cases z) (val_k c_k)]
  rfl
def room : Nat := 200
theorem law_true : ∀ zs : List Int, zs.length ≤ 63 → (∀ z ∈ zs, Builtin.Int.intBits z ≤ 1048576) → ∃ π, callF (TOf ds) room 25 [.d (.list (zs.map .int))] = .ok (.d (.bool true)) π :=
  fun zs hl _ => law_any (n := 193) hl
end K25
open PySem PySem.W PySem.Calls PyProof.Rows
theorem PySem.Challenge.cw_anymeasure_k25_whole_properties_of_measu_holds : PySem.Challenge.rw_anymeasure_k25_whole_properties_of_measu.Holds := by
  w_on; o_law
  refine HandSHeadRun.head_any (r := OpenLaw.row PySem.Challenge.rw_anymeasure_k25_whole_properties_of_measu) (q := view (OpenLaw.row PySem.Challenge.rw_anymeasure_k25_whole_properties_of_measu).prog [28]) (H := K25.hk) (ob := K25.ob) (M := 3000) (loose := K25.nms) (d := HandSHeadRun.topDef (OpenLaw.row PySem.Challenge.rw_anymeasure_k25_whole_properties_of_measu).prog 28) (kwd := []) K25.ob_eq
    (by kernel_rfl) (fun s => by kernel_rfl) K25.run (by kernel_rfl) (by kernel_rfl) (by kernel_rfl) (by rfl) (by first | assumption | decide +kernel) (by decide +kernel) ⟨rfl, rfl, rfl, rfl, rfl, by decide +kernel⟩ ?hw ?hc
  case hw => w_witness2
  case hc =>
    refine Dv.walk_dv (l := PySem.Challenge.rw_anymeasure_k25_whole_properties_of_measu) (n := 63) (k := K25.room) (f := 25) (x := "script") (nm := "law") (ds := K25.ds) rfl (by decide) (by kernel_rfl) ⟨rfl, by decide, by decide⟩ (by kernel_rfl) (by decide +kernel) (by decide +kernel) ?Y K25.law_true
    intro w mg h Y G
    obtain ⟨K, KX, c⟩ := Y
    exact ⟨K, KX, Dv.lw_of K25.oks K25.bds KX G c⟩
