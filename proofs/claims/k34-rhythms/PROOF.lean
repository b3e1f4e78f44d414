import PyProof.Rows.All
import Wide.All
import OpenK.AllK
import Wide.FinOn
import HandS.ForMost
import HandS.Gcd
import HandS.IsInst
import HandS.TupAny
import HandS.Style
import HandS.Wide
import HandS.Zip
import HandS.Conv
import KE.GoesEnum
import KE.GoesZip
import HandS.Strs
import HandS.SetFor
import HandS.SortInts
import HandS.NoneIn
import PySem.Challenge.RW_sawrounds_k34_whole_rhythms
set_option Elab.async false
set_option linter.all false
set_option maxRecDepth 100000
set_option exponentiation.threshold 3000
section
set_option maxHeartbeats 4000000
/-! # Ev0: an evaluator in plain Lean for the part of Python that the laws use -/
namespace Ev
open PySem

abbrev D := PyData
/-- the state of the law's draws: the cells, what is left of their digits, how many draws there were -/
structure DS where
  cells : List Int
  lefts : List Int
  cnt : Int
inductive Ex where
  | mk (c : Str) (as : List D)
inductive R (α : Type) where
  | ok (a : α) (s : Option DS)
  | exc (x : Ex) (s : Option DS)
  | stuck
abbrev M (α : Type) : Type := Option DS → R α
def ret {α : Type} (a : α) : M α := fun s => .ok a s
def bnd {α β : Type} (m : M α) (f : α → M β) : M β := fun s => match m s with
  | .ok a s' => f a s'
  | .exc x s' => .exc x s'
  | .stuck => .stuck
def stk {α : Type} : M α := fun _ => .stuck
def lft {α : Type} : Option α → M α
  | some a => ret a
  | none => stk
/-- what is wanted of a run: an answer, or an exception that is wanted -/
def wpR {α : Type} (r : R α) (Q : α → Option DS → Prop) : Prop := match r with
  | .ok a s => Q a s
  | .exc _ _ => False
  | .stuck => False
theorem wpR_bnd {α β : Type} {m : M α} {f : α → M β} {s : Option DS} {Q : β → Option DS → Prop} : wpR (bnd m f s) Q ↔ wpR (m s) fun a s' => wpR (f a s') Q := by
  unfold bnd wpR
  cases m s <;> simp
theorem wpR_mono {α : Type} {r : R α} {Q Q' : α → Option DS → Prop} (h : wpR r Q) (i : ∀ a s, Q a s → Q' a s) : wpR r Q' := by
  unfold wpR at *
  cases r <;> simp_all
theorem wpR_lft {α : Type} {o : Option α} {s : Option DS} {Q : α → Option DS → Prop} (h : wpR (lft o s) Q) : ∃ a, o = some a ∧ Q a s := by
  cases o with
  | none => exact h.elim
  | some a => exact ⟨a, rfl, h⟩
theorem wpR_ret {α : Type} {a : α} {s : Option DS} {Q : α → Option DS → Prop} (h : wpR (ret a s) Q) : Q a s := h
theorem wpR_ok {α : Type} {r : R α} {Q : α → Option DS → Prop} (h : wpR r Q) : ∃ a s, r = .ok a s ∧ Q a s := by
  cases r with
  | ok a s => exact ⟨a, s, rfl, h⟩
  | exc x s => exact h.elim
  | stuck => exact h.elim

/-! ### the operations on data -/
inductive Bo where
  | add | sub | mul | fdiv | mod | pow
  deriving DecidableEq
inductive Co where
  | eq | ne | lt | le | gt | ge | is | isnot | isin | notin
  deriving DecidableEq
inductive Bi where
  | abs | gcd | int | len | list | tuple | max2 | min2 | max1 | min1 | sum | repr
  deriving DecidableEq
def mulOk (a b : Int) : Bool := !((decide (Builtin.Int.intBits a > shortFactorBits) && decide (Builtin.Int.intBits b > shortFactorBits) && Builtin.Int.intTooBig (Builtin.Int.intBits a + Builtin.Int.intBits b)))
def divOk (a b : Int) : Bool := !(Builtin.divisionGoesByPylong a b)
def powOk (a b : Int) : Bool := decide (0 ≤ b) && decide (b ≤ 1000000) && decide (a.natAbs < 2 ^ 64)
def lenOk (n : Nat) : Bool := decide (n ≤ sizeLine)
def repOk (n : Nat) (k : Int) : Bool := decide (-(2 ^ 63) ≤ k) && decide (k < 2 ^ 63) && decide (n * k.toNat ≤ sizeLine)
def binD : Bo → D → D → Option D
  | .add, .int a, .int b => some (.int (a + b))
  | .add, .list a, .list b => if lenOk (a.length + b.length) then some (.list (a ++ b)) else none
  | .add, .tuple a, .tuple b => if lenOk (a.length + b.length) then some (.tuple (a ++ b)) else none
  | .sub, .int a, .int b => some (.int (a - b))
  | .mul, .int a, .int b => if mulOk a b then some (.int (a * b)) else none
  | .mul, .list a, .int k => if repOk a.length k then some (.list (List.replicate k.toNat a).flatten) else none
  | .fdiv, .int a, .int b => if b != 0 && divOk a b then some (.int (a.fdiv b)) else none
  | .mod, .int a, .int b => if b != 0 then some (.int (a.fmod b)) else none
  | .pow, .int a, .int b => if powOk a b then some (.int (a ^ b.toNat)) else none
  | _, _, _ => none
def isNone : D → Bool
  | .none => true
  | _ => false
def intsOf : List D → Option (List Int)
  | [] => some []
  | .int i :: r => (intsOf r).map (i :: ·)
  | _ :: _ => none
/-- whether an integer is among some -/
def inD (a : Int) : D → Option Bool
  | .list ds => (intsOf ds).map fun js => decide (a ∈ js)
  | .tuple ds => (intsOf ds).map fun js => decide (a ∈ js)
  | _ => none
def cmpD : Co → D → D → Option Bool
  | .eq, a, b => if SeqAt.shaped a && SeqAt.shaped b then some (PyData.eqv a b) else none
  | .ne, a, b => if SeqAt.shaped a && SeqAt.shaped b then some (!PyData.eqv a b) else none
  | .lt, .int a, .int b => some (decide (a < b))
  | .le, .int a, .int b => some (decide (a ≤ b))
  | .gt, .int a, .int b => some (decide (b < a))
  | .ge, .int a, .int b => some (decide (b ≤ a))
  | .is, a, .none => some (isNone a)
  | .isnot, a, .none => some (!isNone a)
  | .is, .bool a, .bool b => some (decide (a = b))
  | .isnot, .bool a, .bool b => some (!decide (a = b))
  | .isin, .int a, y => inD a y
  | .notin, .int a, y => (inD a y).map (!·)
  | _, _, _ => none
def negD : D → Option D
  | .int i => some (.int (-i))
  | _ => none
def asB : D → Option Bool
  | .bool b => some b
  | _ => none
def asI : D → Option Int
  | .int i => some i
  | _ => none
def asL : D → Option (List D)
  | .list xs => some xs
  | _ => none
def asSeq : D → Option (List D)
  | .list xs => some xs
  | .tuple xs => some xs
  | _ => none
def ixD : D → D → Option D
  | .list xs, .int i => L2.atI xs i
  | .tuple xs, .int i => L2.atI xs i
  | _, _ => none
def cutA {α : Type} (xs : List α) (lo hi : Option Int) : List α := (xs.drop (HT.sIx xs.length 0 lo)).take (HT.sIx xs.length xs.length hi - HT.sIx xs.length 0 lo)
def revD : D → Option D
  | .list xs => some (.list xs.reverse)
  | _ => none
def slD (x : D) (lo hi : Option Int) : Option D := match x with
  | .list xs => some (.list (cutA xs lo hi))
  | .tuple xs => some (.tuple (cutA xs lo hi))
  | _ => none
def insS (x : Int) : List Int → List Int
  | [] => [x]
  | y :: ys => if x < y then x :: y :: ys else if x = y then y :: ys else y :: insS x ys
/-- the integers of a row, each once, the least first -/
def dd : List Int → List Int
  | [] => []
  | x :: xs => insS x (dd xs)
def insL (x : Int) : List Int → List Int
  | [] => [x]
  | y :: ys => if x ≤ y then x :: y :: ys else y :: insL x ys
/-- a row of integers, the least first -/
def srt : List Int → List Int
  | [] => []
  | x :: xs => insL x (srt xs)
def ssetD : D → Option D
  | .tuple xs => (intsOf xs).bind fun ns => if decide (ns.length < 4000) && decide ((dd ns).length < 64) then some (.list ((dd ns).map .int)) else none
  | _ => none
def srtD : D → Option D
  | .list xs => (intsOf xs).map fun ns => .list ((srt ns).map .int)
  | _ => none
/-- the greatest, the least of some integers, the first one given -/
def maxI (x : Int) (xs : List Int) : Int := xs.foldl (fun a b => if a < b then b else a) x
def minI (x : Int) (xs : List Int) : Int := xs.foldl (fun a b => if b < a then b else a) x
def maxD (xs : List D) : Option D := match intsOf xs with
  | some (i :: is) => some (.int (maxI i is))
  | _ => none
def minD (xs : List D) : Option D := match intsOf xs with
  | some (i :: is) => some (.int (minI i is))
  | _ => none
def sumD (xs : List D) : Option D := (intsOf xs).map fun is => .int is.sum
def reprOk (d : D) : Bool := d.showable && !d.hasDict && decide (d.depth ≤ 64) && decide (d.shown.length ≤ sizeLine)
def biD : Bi → List D → Option D
  | .abs, [.int i] => some (.int (if i < 0 then -i else i))
  | .gcd, [.int a, .int b] => some (.int ((Nat.gcd a.natAbs b.natAbs : Nat) : Int))
  | .int, [.int i] => some (.int i)
  | .int, [.bool b] => some (.int (if b then 1 else 0))
  | .len, [.list xs] => some (.int xs.length)
  | .len, [.tuple xs] => some (.int xs.length)
  | .list, [.list xs] => some (.list xs)
  | .list, [.tuple xs] => some (.list xs)
  | .tuple, [.list xs] => some (.tuple xs)
  | .tuple, [.tuple xs] => some (.tuple xs)
  | .max2, [.int i, .int j] => some (.int (if j > i then j else i))
  | .min2, [.int i, .int j] => some (.int (if j < i then j else i))
  | .max1, [.list xs] => maxD xs
  | .max1, [.tuple xs] => maxD xs
  | .min1, [.list xs] => minD xs
  | .min1, [.tuple xs] => minD xs
  | .sum, [.list xs] => sumD xs
  | .sum, [.tuple xs] => sumD xs
  | .repr, [d] => if reprOk d then some (.str d.shown) else none
  | _, _ => none
inductive Ty where
  | int | bool | str | tuple | list
  deriving DecidableEq
/-- an empty dict as a value among others -/
abbrev empD : D := .dict [(.bool true, .none)]
def isEmp : List (D × D) → Bool
  | [(.bool true, .none)] => true
  | _ => false
def isiD : Ty → D → Option Bool
  | _, .dict ps => if isEmp ps then some false else none
  | .int, .int _ => some true
  | .int, .bool _ => some true
  | .bool, .bool _ => some true
  | .str, .str _ => some true
  | .tuple, .tuple _ => some true
  | .list, .list _ => some true
  | _, _ => some false

/-! ### the syntax, without places -/
mutual
inductive Tg where
  | n (i : Nat)
  | t (ts : Tgs)
inductive Tgs where
  | nil
  | cons (t : Tg) (ts : Tgs)
end
mutual
inductive E where
  | v (i : Nat)
  | k (d : D)
  | g (i : Nat)
  | bin (o : Bo) (a b : E)
  | neg (a : E)
  | not (a : E)
  | and (a : E) (es : Es)
  | or (a : E) (es : Es)
  | cmp (c : Co) (a b : E)
  | chain (c c' : Co) (a b e : E)
  | ife (c a b : E)
  | tup (es : Es)
  | lst (es : Es)
  | ix (a i : E)
  | sl (a lo hi : E)
  | no
  | call (j : Nat) (es : Es) (ks : Ks)
  | bi (f : Bi) (es : Es)
  | isi (t : Ty) (a : E)
  | lc (tg : Tg) (it : It) (c e : E)
  | dAt (i : Nat)
  | dLen (i : Nat)
  | dCell (i k : Nat)
  | dLeft (i k : Nat)
  | scr (i : Nat)
  | rev (a : E)
  | emp
  | lrg (a b : E)
  | lrg1 (a : E)
  | callL (j : Nat) (es : Es)
  | sset (a : E)
  | srt (a : E)
inductive Es where
  | nil
  | cons (e : E) (es : Es)
inductive Ks where
  | nil
  | cons (j : Nat) (e : E) (ks : Ks)
inductive It where
  | e (a : E)
  | r1 (a : E)
  | r2 (a b : E)
  | r3 (a b c : E)
  | zip (a b : E)
  | enum (a : E)
end
mutual
inductive S where
  | asg (tg : Tg) (e : E)
  | asgO (i : Nat) (e : E)
  | par (is : List Nat) (bs : List Bool) (es : Es)
  | put (i : Nat) (k e : E)
  | app (i : Nat) (e : E)
  | ext (i : Nat) (e : E)
  | ex (e : E)
  | ret (e : E)
  | ife (c : E) (a b : Ss)
  | whl (c : E) (b : Ss)
  | for_ (tg : Tg) (it : It) (b : Ss)
  | brk
  | raise
  | frz (i : Nat)
  | doc
  | dAt (i : Nat) (e : E)
  | dLeft (i k : Nat) (e : E)
  | dRet (i : Nat) (e : E)
inductive Ss where
  | nil
  | cons (s : S) (ss : Ss)
end

/-! ### what it does -/
def isNo : E → Bool
  | .no => true
  | _ => false
abbrev Env := List (Option D)
def getv (env : Env) (i : Nat) : Option D := match env[i]? with
  | some (some d) => some d
  | _ => none
mutual
def asgT : Tg → D → Env → Option Env
  | .n i, x, env => some (env.set i (some x))
  | .t ts, .tuple xs, env => asgTs ts xs env
  | .t ts, .list xs, env => asgTs ts xs env
  | .t _, _, _ => none
def asgTs : Tgs → List D → Env → Option Env
  | .nil, [], env => some env
  | .cons t ts, x :: xs, env => (asgT t x env).bind (asgTs ts xs)
  | .nil, _ :: _, _ => none
  | .cons _ _, [], _ => none
end
structure Fn where
  name : Str
  ps : List Str
  kws : List (Nat × List Nat)
  m : List D → M D
/-- what a def's body may name: the module's defs, its constants -/
structure Tb where
  fs : List Fn
  cs : List (Str × D)
def kwFind {α : Type} (j : Nat) : List (Nat × α) → Option α
  | [] => none
  | (i, d) :: r => if i = j then some d else kwFind j r
/-- what is given by name, from the place n on -/
def kwRow {α : Type} (kv : List (Nat × α)) : Nat → Nat → Option (List α)
  | _, 0 => some []
  | n, k + 1 => (kwFind n kv).bind fun x => (kwRow kv (n + 1) k).map (x :: ·)
/-- the arguments in the parameters' order -/
def argsOf {α : Type} (n : Nat) (xs : List α) (kv : List (Nat × α)) : Option (List α) :=
  if xs.length + kv.length = n then (kwRow kv xs.length kv.length).map (xs ++ ·) else none
def lcL (f : D → M (Option D)) : List D → M (List D)
  | [] => ret []
  | x :: xs => bnd (f x) fun o => bnd (lcL f xs) fun ys => ret (match o with | some y => y :: ys | none => ys)
def rngOk (i : Int) : Bool := decide (-(2 ^ 62) ≤ i) && decide (i < 2 ^ 62)
def rngD (lo hi : Int) : List D := (List.range (hi - lo).toNat).map fun i => .int (lo + (i : Nat))
def rngDn (hi lo : Int) : List D := (List.range (hi - lo).toNat).map fun i => .int (hi + (i : Nat) * (-1))
def lrgD (x y : D) : Option D := (asI x).bind fun i => (asI y).bind fun j => if rngOk i && rngOk j && lenOk (j - i).toNat then some (.list (rngD i j)) else none
def zipD : List D → List D → List D
  | x :: xs, y :: ys => .tuple [x, y] :: zipD xs ys
  | _, _ => []
def enumD : Nat → List D → List D
  | _, [] => []
  | n, x :: xs => .tuple [.int (n : Nat), x] :: enumD (n + 1) xs
/-- a script, as its token -/
def scrD : List Int → D
  | [] => .dict [(.none, .none)]
  | n :: ns => .dict ((n :: ns).map fun n => (.int n, .none))
def keysI : List (D × D) → Option (List Int)
  | [] => some []
  | (.int n, _) :: r => (keysI r).map (n :: ·)
  | _ :: _ => none
def unscr : D → Option (List Int)
  | .dict [(.none, .none)] => some []
  | .dict ((.int n, _) :: r) => (keysI r).map (n :: ·)
  | _ => none
def onDS {α : Type} (d : Option D) (f : DS → Option α) : M α := fun ds => match d, ds with
  | some (.dict []), some s => (match f s with
    | some a => .ok a (some s)
    | none => .stuck)
  | _, _ => .stuck
def upDS {α : Type} (d : Option D) (a : α) (f : DS → Option DS) : M α := fun ds => match d, ds with
  | some (.dict []), some s => (match f s with
    | some s' => .ok a (some s')
    | none => .stuck)
  | _, _ => .stuck
def mkDS {α : Type} (a : α) (c l : Option (List Int)) : M α := fun ds => match c, l, ds with
  | some c, some l, none => .ok a (some ⟨c, l, 0⟩)
  | _, _, _ => .stuck
def orZero (ns : List Int) : List Int := if ns.isEmpty then [0] else ns
mutual
/-- no list in it -/
def noL : D → Bool
  | .none => true
  | .bool _ => true
  | .int _ => true
  | .str _ => true
  | .tuple ds => noLs ds
  | _ => false
def noLs : List D → Bool
  | [] => true
  | d :: ds => noL d && noLs ds
end
mutual
def evE (ft : Tb) : E → Env → M D
  | .v i, env => lft (getv env i)
  | .k d, _ => ret d
  | .g i, _ => lft ((ft.cs[i]?).map (·.2))
  | .bin o a b, env => bnd (evE ft a env) fun x => bnd (evE ft b env) fun y => lft (binD o x y)
  | .neg a, env => bnd (evE ft a env) fun x => lft (negD x)
  | .not a, env => bnd (evE ft a env) fun x => lft ((asB x).map fun b => .bool (!b))
  | .and a es, env => bnd (evE ft a env) fun x => evAnd ft es x env
  | .or a es, env => bnd (evE ft a env) fun x => evOr ft es x env
  | .cmp c a b, env => bnd (evE ft a env) fun x => bnd (evE ft b env) fun y => lft ((cmpD c x y).map .bool)
  | .chain c c' a b e, env => bnd (evE ft a env) fun x => bnd (evE ft b env) fun y => bnd (lft (cmpD c x y)) fun t => if t then bnd (evE ft e env) fun z => lft ((cmpD c' y z).map .bool) else ret (.bool false)
  | .ife c a b, env => bnd (evE ft c env) fun x => bnd (lft (asB x)) fun t => if t then evE ft a env else evE ft b env
  | .tup es, env => bnd (evEs ft es env) fun xs => lft (if lenOk xs.length then some (.tuple xs) else none)
  | .lst es, env => bnd (evEs ft es env) fun xs => lft (if lenOk xs.length then some (.list xs) else none)
  | .ix a i, env => bnd (evE ft a env) fun x => bnd (evE ft i env) fun y => lft (ixD x y)
  | .sl a lo hi, env => bnd (evE ft a env) fun x => bnd (if isNo lo then ret none else bnd (evE ft lo env) fun y => lft ((asI y).map some)) fun l => bnd (if isNo hi then ret none else bnd (evE ft hi env) fun y => lft ((asI y).map some)) fun h => lft (slD x l h)
  | .rev a, env => bnd (evE ft a env) fun x => lft (revD x)
  | .emp, _ => ret empD
  | .lrg a b, env => bnd (evE ft a env) fun x => bnd (evE ft b env) fun y => lft (lrgD x y)
  | .lrg1 a, env => bnd (evE ft a env) fun x => lft (lrgD (.int 0) x)
  | .callL j es, env => bnd (evEs ft es env) fun xs => match ft.fs[j]? with
    | some f => bnd (bnd (lft (argsOf f.ps.length xs [])) f.m) fun d => lft (if noL d then some d else none)
    | none => stk
  | .sset a, env => bnd (evE ft a env) fun x => lft (ssetD x)
  | .srt a, env => bnd (evE ft a env) fun x => lft (srtD x)
  | .no, _ => stk
  | .call j es ks, env => bnd (evEs ft es env) fun xs => bnd (evKs ft ks env) fun kv => match ft.fs[j]? with
    | some f => bnd (lft (argsOf f.ps.length xs kv)) f.m
    | none => stk
  | .bi f es, env => bnd (evEs ft es env) fun xs => lft (biD f xs)
  | .isi t a, env => bnd (evE ft a env) fun x => lft ((isiD t x).map .bool)
  | .lc tg it c e, env => bnd (evIt ft it env) fun xs => bnd (lcL (fun x => bnd (lft (asgT tg x env)) fun env' => bnd (if isNo c then ret true else bnd (evE ft c env') fun y => lft (asB y)) fun t => if t then bnd (evE ft e env') fun y => ret (some y) else ret none) xs) fun ys => lft (if lenOk xs.length then some (.list ys) else none)
  | .dAt i, env => onDS (getv env i) fun s => some (.int s.cnt)
  | .dLen i, env => onDS (getv env i) fun s => some (.int s.cells.length)
  | .dCell i k, env => bnd (lft ((getv env k).bind asI)) fun n => onDS (getv env i) fun s => (L2.atI s.cells n).map .int
  | .dLeft i k, env => bnd (lft ((getv env k).bind asI)) fun n => onDS (getv env i) fun s => (L2.atI s.lefts n).map .int
  | .scr i, env => lft (((getv env i).bind unscr).map fun ns => .list ((orZero ns).map .int))
def evAnd (ft : Tb) : Es → D → Env → M D
  | .nil, x, _ => ret x
  | .cons e es, x, env => bnd (lft (asB x)) fun t => if t then bnd (evE ft e env) fun y => evAnd ft es y env else ret (.bool false)
def evOr (ft : Tb) : Es → D → Env → M D
  | .nil, x, _ => ret x
  | .cons e es, x, env => bnd (lft (asB x)) fun t => if t then ret (.bool true) else bnd (evE ft e env) fun y => evOr ft es y env
def evEs (ft : Tb) : Es → Env → M (List D)
  | .nil, _ => ret []
  | .cons e es, env => bnd (evE ft e env) fun x => bnd (evEs ft es env) fun xs => ret (x :: xs)
def evKs (ft : Tb) : Ks → Env → M (List (Nat × D))
  | .nil, _ => ret []
  | .cons j e ks, env => bnd (evE ft e env) fun x => bnd (evKs ft ks env) fun xs => ret ((j, x) :: xs)
def evIt (ft : Tb) : It → Env → M (List D)
  | .e a, env => bnd (evE ft a env) fun x => lft (asSeq x)
  | .r1 a, env => bnd (evE ft a env) fun x => bnd (lft (asI x)) fun i => lft (if rngOk i then some (rngD 0 i) else none)
  | .r2 a b, env => bnd (evE ft a env) fun x => bnd (evE ft b env) fun y => bnd (lft (asI x)) fun i => bnd (lft (asI y)) fun j => lft (if rngOk i && rngOk j then some (rngD i j) else none)
  | .r3 a b c, env => bnd (evE ft a env) fun x => bnd (evE ft b env) fun y => bnd (evE ft c env) fun z => bnd (lft (asI x)) fun i => bnd (lft (asI y)) fun j => bnd (lft (asI z)) fun k => lft (if rngOk i && rngOk j && decide (k = -1) then some (rngDn i j) else none)
  | .zip a b, env => bnd (evE ft a env) fun x => bnd (evE ft b env) fun y => match x, y with
    | .list xs, .list ys => ret (zipD xs ys)
    | .tuple xs, .tuple ys => ret (zipD xs ys)
    | .list xs, .tuple ys => ret (zipD xs ys)
    | .tuple xs, .list ys => ret (zipD xs ys)
    | _, _ => stk
  | .enum a, env => bnd (evE ft a env) fun x => bnd (lft (asSeq x)) fun xs => ret (enumD 0 xs)
end
def evT (ft : Tb) (e : E) (env : Env) : M Bool := bnd (evE ft e env) fun x => lft (asB x)

inductive Fl where
  | nx (env : Env)
  | bk (env : Env)
  | rt (d : D)
def whlL (c : Env → M Bool) (b : Env → M Fl) : Nat → Env → M Fl
  | 0, _ => stk
  | n + 1, env => bnd (c env) fun t => if t then bnd (b env) fun f => match f with
    | .nx e => whlL c b n e
    | .bk e => ret (.nx e)
    | .rt d => ret (.rt d) else ret (.nx env)
/-- stores, one after another -/
def stE : List Nat → List D → Env → Env
  | i :: is, x :: xs, env => stE is xs (env.set i (some x))
  | _, _, env => env
def forL (b : D → Env → M Fl) : List D → Env → M Fl
  | [], env => ret (.nx env)
  | x :: xs, env => bnd (b x env) fun f => match f with
    | .nx e => forL b xs e
    | .bk e => ret (.nx e)
    | .rt d => ret (.rt d)
mutual
def evS (ft : Tb) (F : Nat) : S → Env → M Fl
  | .asg tg e, env => bnd (evE ft e env) fun x => bnd (lft (asgT tg x env)) fun env' => ret (.nx env')
  | .asgO i e, env => bnd (evE ft e env) fun x => bnd (lft (asL x)) fun xs => ret (.nx (env.set i (some (.list xs))))
  | .par is _ es, env => bnd (evEs ft es env) fun xs => ret (.nx (stE is xs env))
  | .put i k e, env => bnd (evE ft e env) fun x => bnd (lft ((getv env i).bind asL)) fun xs => bnd (evE ft k env) fun j => lft (((asI j).bind (L2.ixN xs.length)).map fun m => .nx (env.set i (some (.list (xs.set m x)))))
  | .app i e, env => bnd (lft ((getv env i).bind asL)) fun xs => bnd (evE ft e env) fun x => lft (if lenOk (xs.length + 1) then some (.nx (env.set i (some (.list (xs ++ [x]))))) else none)
  | .ext i e, env => bnd (lft ((getv env i).bind asL)) fun xs => bnd (evE ft e env) fun x => bnd (lft (asL x)) fun ys => lft (if lenOk (xs.length + ys.length) then some (.nx (env.set i (some (.list (xs ++ ys))))) else none)
  | .ex e, env => bnd (evE ft e env) fun _ => ret (.nx env)
  | .ret e, env => bnd (evE ft e env) fun x => ret (.rt x)
  | .ife c a b, env => bnd (evT ft c env) fun t => if t then evSs ft F a env else evSs ft F b env
  | .whl c b, env => whlL (evT ft c) (fun env => evSs ft F b env) F env
  | .for_ tg it b, env => bnd (evIt ft it env) fun xs => forL (fun x env => bnd (lft (asgT tg x env)) fun env' => evSs ft F b env') xs env
  | .brk, env => ret (.bk env)
  | .raise, _ => stk
  | .frz _, env => ret (.nx env)
  | .doc, env => ret (.nx env)
  | .dAt i e, env => bnd (evE ft e env) fun x => upDS (getv env i) (.nx env) fun s => (asI x).map fun k => { s with cnt := k }
  | .dLeft i k e, env => bnd (evE ft e env) fun x => bnd (lft ((getv env k).bind asI)) fun n => upDS (getv env i) (.nx env) fun s => (asI x).bind fun y => (L2.ixN s.lefts.length n).map fun m => { s with lefts := s.lefts.set m y }
  | .dRet i e, env => bnd (evE ft e env) fun y => mkDS (.rt (.dict [])) (((getv env i).bind asL).bind intsOf) ((asL y).bind intsOf)
def evSs (ft : Tb) (F : Nat) : Ss → Env → M Fl
  | .nil, env => ret (.nx env)
  | .cons s ss, env => bnd (evS ft F s env) fun f => match f with
    | .nx env' => evSs ft F ss env'
    | .bk env' => ret (.bk env')
    | .rt d => ret (.rt d)
end
def endD : Fl → M D
  | .rt d => ret d
  | .nx _ => ret .none
  | .bk _ => stk
/-- a def: its slots, its body -/
def run (ft : Tb) (F : Nat) (n : Nat) (b : Ss) (args : List D) : M D := bnd (evSs ft F b (args.map some ++ List.replicate (n - args.length) none)) endD
end Ev

end
section
set_option maxHeartbeats 4000000
/-! # Ev1: how the evaluator's data lie in the abstract heap -/
namespace Ev
open PySem PySem.Spec L2

/-- the three objects of the draws -/
structure DA where
  d : Addr
  c : Addr
  l : Addr
def notDA (r : Option DA) (a : Addr) : Prop := ∀ x, r = some x → a ≠ x.d ∧ a ≠ x.c ∧ a ≠ x.l
def DrOk (ds : Option DS) (G : Hp) (r : Option DA) (H : Hp) : Prop := match r, ds with
  | none, none => True
  | some x, some s => H x.d = some (.dK [(.inr "cells", .ref x.c), (.inr "lefts", .ref x.l), (.inr "at", .int s.cnt)]) ∧ H x.c = some (.lst (s.cells.map V.int)) ∧ H x.l = some (.lst (s.lefts.map V.int)) ∧ x.c ≠ x.l ∧ G x.d = none ∧ G x.c = none ∧ G x.l = none
  | _, _ => False
theorem DrOk.apart {ds : Option DS} {G : Hp} {r : Option DA} {H : Hp} (h : DrOk ds G r H) {a : Addr} {o : HO} (e : G a = some o) : notDA r a := by
  intro x hx
  subst hx
  cases ds with
  | none => exact h.elim
  | some s =>
    obtain ⟨_, _, _, _, n1, n2, n3⟩ := h
    exact ⟨ne_of_none e n1, ne_of_none e n2, ne_of_none e n3⟩
theorem DrOk.live {ds : Option DS} {G : Hp} {r : Option DA} {H : Hp} (h : DrOk ds G r H) {a : Addr} (e : ¬ notDA r a) : H a ≠ none := by
  intro z
  apply e
  intro x hx
  subst hx
  cases ds with
  | none => exact h.elim
  | some s =>
    obtain ⟨m1, m2, m3, _⟩ := h
    exact ⟨fun q => (by rw [q, m1] at z; cases z), fun q => (by rw [q, m2] at z; cases z), fun q => (by rw [q, m3] at z; cases z)⟩
theorem DrOk.mono {ds : Option DS} {G G' : Hp} {r : Option DA} {H H' : Hp} (h : DrOk ds G r H) (k : ∀ b o, ¬ notDA r b → H b = some o → H' b = some o) (f : ∀ b, G' b ≠ none → G b ≠ none ∨ H b = none) : DrOk ds G' r H' := by
  cases r with
  | none =>
    cases ds with
    | none => trivial
    | some s => exact h.elim
  | some x =>
    cases ds with
    | none => exact h.elim
    | some s =>
      obtain ⟨m1, m2, m3, ne, n1, n2, n3⟩ := h
      have out : ∀ (a : Addr) (o : HO), H a = some o → G a = none → G' a = none := fun a o e n => by
        cases q : G' a with
        | none => rfl
        | some u =>
          rcases f a (by rw [q]; simp) with z | z
          · exact absurd n z
          · rw [e] at z; cases z
      refine ⟨k _ _ (fun z => (z x rfl).1 rfl) m1, k _ _ (fun z => (z x rfl).2.1 rfl) m2, k _ _ (fun z => (z x rfl).2.2 rfl) m3, ne, out _ _ m1 n1, out _ _ m2 n2, out _ _ m3 n3⟩

mutual
/-- v is the datum d, its objects in the part G of the heap or in the written part -/
inductive Dq (K : PySem.W.Frag) (G : Hp) (r : Option DA) : V → D → Prop
  | non : Dq K G r .non .none
  | bl (b : Bool) : Dq K G r (.bl b) (.bool b)
  | int (i : Int) : Dq K G r (.int i) (.int i)
  | str (x : Str) : Dq K G r (.str x) (.str x)
  | lst {a : Addr} {xs : List V} {ds : List D} : G a = some (.lst xs) → DqAll K G r xs ds → Dq K G r (.ref a) (.list ds)
  | tup {a : Addr} {xs : List V} {ds : List D} : SqT K G a xs → DqAll K G r xs ds → Dq K G r (.ref a) (.tuple ds)
  | drw {x : DA} : r = some x → Dq K G r (.ref x.d) (.dict [])
  | scr {a : Addr} {n : Int} {ns : List Int} : SqL K G a ((n :: ns).map V.int) → Dq K G r (.ref a) (.dict ((n :: ns).map fun n => (.int n, .none)))
  | scr0 {a : Addr} : SqL K G a [] → Dq K G r (.ref a) (.dict [(.none, .none)])
  | emp {a : Addr} : G a = some (.dK []) → Dq K G r (.ref a) (.dict [(.bool true, .none)])
inductive DqAll (K : PySem.W.Frag) (G : Hp) (r : Option DA) : List V → List D → Prop
  | nil : DqAll K G r [] []
  | cons {v : V} {vs : List V} {d : D} {ds : List D} : Dq K G r v d → DqAll K G r vs ds → DqAll K G r (v :: vs) (d :: ds)
end
section
variable {K : PySem.W.Frag} {G G' : Hp} {r r' : Option DA}
theorem SqT.more {a : Addr} {xs : List V} (g : Same G G') (h : SqT K G a xs) : SqT K G' a xs := by
  rcases h with (h | ⟨o, h⟩) | h
  · exact .inl (.inl (g _ _ h))
  · exact .inl (.inr ⟨o, g _ _ h⟩)
  · exact .inr h
mutual
theorem Dq.more (g : Same G G') (e : r = none ∨ r' = r) : ∀ (d : D) (v : V), Dq K G r v d → Dq K G' r' v d
  | .none, _, .non => .non
  | .bool _, _, .bl b => .bl b
  | .int _, _, .int i => .int i
  | .str _, _, .str x => .str x
  | .list ds, _, .lst h t => .lst (g _ _ h) (DqAll.more g e ds _ t)
  | .tuple ds, _, .tup h t => .tup (SqT.more g h) (DqAll.more g e ds _ t)
  | .dict _, _, .drw (x := x) hx => .drw (by
      rcases e with z | z
      · rw [z] at hx; cases hx
      · rw [z]; exact hx)
  | .dict _, _, .scr h => .scr (g.seq h)
  | .dict _, _, .scr0 h => .scr0 (g.seq h)
  | .dict _, _, .emp h => .emp (g _ _ h)
theorem DqAll.more (g : Same G G') (e : r = none ∨ r' = r) : ∀ (ds : List D) (vs : List V), DqAll K G r vs ds → DqAll K G' r' vs ds
  | [], _, .nil => .nil
  | d :: ds, _, .cons h t => .cons (Dq.more g e d _ h) (DqAll.more g e ds _ t)
end
theorem DqAll.length : ∀ {vs : List V} {ds : List D}, DqAll K G r vs ds → vs.length = ds.length
  | _, _, .nil => rfl
  | _, _, .cons _ t => by rw [List.length_cons, List.length_cons, DqAll.length t]
theorem DqAll.get : ∀ {vs : List V} {ds : List D} {i : Nat} {d : D}, DqAll K G r vs ds → ds[i]? = some d → ∃ v, vs[i]? = some v ∧ Dq K G r v d
  | _, _, _, _, .nil, e => by simp at e
  | _, _, 0, _, .cons h t, e => by simp at e; subst e; exact ⟨_, rfl, h⟩
  | _, _, i + 1, d, .cons h t, e => by
    obtain ⟨v, h1, h2⟩ := DqAll.get (i := i) (d := d) t (by simpa using e)
    exact ⟨v, by simpa using h1, h2⟩
theorem DqAll.append : ∀ {vs ws : List V} {ds es : List D}, DqAll K G r vs ds → DqAll K G r ws es → DqAll K G r (vs ++ ws) (ds ++ es)
  | _, _, _, _, .nil, q => q
  | _, _, _, _, .cons h t, q => .cons h (DqAll.append t q)
theorem DqAll.drop : ∀ {vs : List V} {ds : List D} (n : Nat), DqAll K G r vs ds → DqAll K G r (vs.drop n) (ds.drop n)
  | _, _, 0, q => q
  | _, _, _ + 1, .nil => .nil
  | _, _, n + 1, .cons _ t => DqAll.drop n t
theorem DqAll.take : ∀ {vs : List V} {ds : List D} (n : Nat), DqAll K G r vs ds → DqAll K G r (vs.take n) (ds.take n)
  | _, _, 0, _ => .nil
  | _, _, _ + 1, .nil => .nil
  | _, _, n + 1, .cons h t => .cons h (DqAll.take n t)
theorem DqAll.rep {vs : List V} {ds : List D} (q : DqAll K G r vs ds) : ∀ k, DqAll K G r (List.replicate k vs).flatten (List.replicate k ds).flatten
  | 0 => .nil
  | k + 1 => by
    rw [List.replicate_succ, List.replicate_succ, List.flatten_cons, List.flatten_cons]
    exact q.append (q.rep k)
theorem DqAll.rev : ∀ {vs : List V} {ds : List D}, DqAll K G r vs ds → DqAll K G r vs.reverse ds.reverse
  | _, _, .nil => .nil
  | _, _, .cons h t => by
    rw [List.reverse_cons, List.reverse_cons]
    exact (DqAll.rev t).append (.cons h .nil)
theorem DqAll.cut {vs : List V} {ds : List D} (q : DqAll K G r vs ds) (lo hi : Option Int) : DqAll K G r (cutV vs lo hi) (cutA ds lo hi) := by
  unfold cutV cutA
  rw [q.length]
  exact (q.drop _).take _
theorem DqAll.at {vs : List V} {ds : List D} {i : Int} {d : D} (q : DqAll K G r vs ds) (e : atI ds i = some d) : ∃ v, atI vs i = some v ∧ Dq K G r v d := by
  unfold atI at e ⊢
  rw [q.length]
  cases h : ixN ds.length i with
  | none => rw [h] at e; cases e
  | some j =>
    rw [h] at e
    exact q.get e
theorem DqAll.ints : ∀ {vs : List V} {ds : List D} {is : List Int}, DqAll K G r vs ds → intsOf ds = some is → vs = is.map V.int
  | _, _, _, .nil, e => by
    simp [intsOf] at e
    subst e; rfl
  | _, _, is, .cons h t, e => by
    cases h with
    | int i =>
      simp only [intsOf, Option.map_eq_some_iff] at e
      obtain ⟨js, e1, rfl⟩ := e
      rw [DqAll.ints t e1]
      rfl
    | _ => simp [intsOf] at e
end

/-! ### what a run does to the heap -/
structure Nx (G : Hp) (r : Option DA) (H : Hp) (ds' : Option DS) (G' : Hp) (r' : Option DA) (H' : Hp) : Prop where
  g : Same G G'
  e : r = none ∨ r' = r
  h : ∀ b o, notDA r b → H b = some o → H' b = some o
  k : ∀ b, H b ≠ none → H' b ≠ none
  f : ∀ b, G' b ≠ none → G b ≠ none ∨ H b = none
  n : ∀ b, ¬ notDA r' b → ¬ notDA r b ∨ H b = none
  s : Same G' H'
  d : DrOk ds' G' r' H'
section
variable {ds ds1 ds2 : Option DS} {G G1 G2 H H1 H2 : Hp} {r r1 r2 : Option DA}
theorem Nx.refl (s : Same G H) (d : DrOk ds G r H) : Nx G r H ds G r H := ⟨Same.refl G, .inr rfl, fun _ _ _ e => e, fun _ e => e, fun _ e => .inl e, fun _ e => .inl e, s, d⟩
theorem notDA.trans (e : r = none ∨ r1 = r) {b : Addr} (n : ¬ notDA r b) : ¬ notDA r1 b := by
  rcases e with z | z
  · exact absurd (show notDA r b by rw [z]; intro x hx; cases hx) n
  · rw [z]; exact n
theorem Nx.trans (a : Nx G r H ds1 G1 r1 H1) (b : Nx G1 r1 H1 ds2 G2 r2 H2) : Nx G r H ds2 G2 r2 H2 where
  g := a.g.trans b.g
  e := by
    rcases a.e with z | z
    · exact .inl z
    · rcases b.e with y | y
      · exact .inl (by rw [← z]; exact y)
      · exact .inr (y.trans z)
  h := fun c o n e => by
    have e1 := a.h c o n e
    by_cases q : notDA r1 c
    · exact b.h c o q e1
    · rcases a.n c q with z | z
      · exact absurd n z
      · rw [e] at z; cases z
  k := fun c e => b.k c (a.k c e)
  f := fun c e => by
    rcases b.f c e with z | z
    · exact a.f c z
    · by_cases q : H c = none
      · exact .inr q
      · exact absurd z (a.k c q)
  n := fun c e => by
    rcases b.n c e with z | z
    · exact a.n c z
    · by_cases q : H c = none
      · exact .inr q
      · exact absurd z (a.k c q)
  s := b.s
  d := b.d
/-- a new object, taken up among the data -/
theorem Nx.new {p : Addr} {o : HO} (s : Same G H) (d : DrOk ds G r H) (n : H p = none) : Nx G r H ds (upd G p o) r (upd H p o) where
  g := fun b u e => by rw [upd_ne (ne_of_none (s _ _ e) n)]; exact e
  e := .inr rfl
  h := fun b u _ e => by rw [upd_ne (ne_of_none e n)]; exact e
  k := fun b e => by
    by_cases q : b = p
    · subst q; exact absurd n e
    · rw [upd_ne q]; exact e
  f := fun b e => by
    by_cases q : b = p
    · subst q; exact .inr n
    · rw [upd_ne q] at e; exact .inl e
  n := fun b e => .inl e
  s := fun b u e => by
    by_cases q : b = p
    · subst q; rw [upd_same] at e ⊢; exact e
    · rw [upd_ne q] at e ⊢; exact s _ _ e
  d := d.mono (fun b u _ e => by rw [upd_ne (ne_of_none e n)]; exact e) fun b e => by
    by_cases q : b = p
    · subst q; exact .inr n
    · rw [upd_ne q] at e; exact .inl e
/-- a new object that is not taken up -/
theorem Nx.apart {p : Addr} {o : HO} (s : Same G H) (d : DrOk ds G r H) (n : H p = none) : Nx G r H ds G r (upd H p o) where
  g := Same.refl G
  e := .inr rfl
  h := fun b u _ e => by rw [upd_ne (ne_of_none e n)]; exact e
  k := fun b e => by
    by_cases q : b = p
    · subst q; exact absurd n e
    · rw [upd_ne q]; exact e
  f := fun b e => .inl e
  n := fun b e => .inl e
  s := fun b u e => by rw [upd_ne (ne_of_none (s _ _ e) n)]; exact s _ _ e
  d := d.mono (fun b u _ e => by rw [upd_ne (ne_of_none e n)]; exact e) fun b e => .inl e
end

/-- a list's operand: its object may be one's own -/
def DqL (K : PySem.W.Frag) (G : Hp) (r : Option DA) (H : Hp) (v : V) (ds : List D) : Prop := ∃ a xs, v = .ref a ∧ H a = some (.lst xs) ∧ DqAll K G r xs ds ∧ notDA r a
def DqO (K : PySem.W.Frag) (G : Hp) (r : Option DA) (H : Hp) (v : V) (d : D) : Prop := Dq K G r v d ∨ ∃ ds, d = .list ds ∧ DqL K G r H v ds
/-- the state of a def's run: its slots σ are the environment's data; the slots in own hold lists that nobody else holds -/
structure Sim (K : PySem.W.Frag) (O : List Nat) (env : Env) (ds : Option DS) (G : Hp) (r : Option DA) (σ : St) (H : Hp) : Prop where
  sub : Same G H
  len : σ.length = env.length
  var : ∀ i d, i ∉ O → env[i]? = some (some d) → ∃ v, σ[i]? = some (some v) ∧ Dq K G r v d
  own : ∀ i d, i ∈ O → env[i]? = some (some d) → ∃ a xs ds, d = .list ds ∧ σ[i]? = some (some (V.ref a)) ∧ H a = some (.lst xs) ∧ DqAll K G r xs ds ∧ notDA r a ∧ G a = none
  sep : ∀ (i j : Nat) (a : Addr), i ∈ O → j ∈ O → i ≠ j → σ[i]? = some (some (V.ref a)) → σ[j]? = some (some (V.ref a)) → env[i]? = some none ∨ env[j]? = some none
  drw : DrOk ds G r H
section
variable {K : PySem.W.Frag} {own : List Nat} {env : Env} {ds ds1 : Option DS} {G G1 H H1 : Hp} {r r1 : Option DA} {σ : St}
theorem Nx.notDA (a : Nx G r H ds1 G1 r1 H1) {b : Addr} {o : HO} (n : Ev.notDA r b) (e : H b = some o) : Ev.notDA r1 b := by
  refine Classical.byContradiction fun q => ?_
  rcases a.n b q with z | z
  · exact z n
  · rw [e] at z; cases z
theorem Nx.sim (a : Nx G r H ds1 G1 r1 H1) (S : Sim K own env ds G r σ H) : Sim K own env ds1 G1 r1 σ H1 where
  sub := a.s
  len := S.len
  var := fun i d hi e => by
    obtain ⟨v, h1, h2⟩ := S.var i d hi e
    exact ⟨v, h1, h2.more a.g a.e⟩
  own := fun i d hi e => by
    obtain ⟨b, xs, es, e1, e2, e3, e4, e5, e6⟩ := S.own i d hi e
    refine ⟨b, xs, es, e1, e2, a.h b _ e5 e3, e4.more a.g a.e, a.notDA e5 e3, ?_⟩
    cases q : G1 b with
    | none => rfl
    | some u =>
      rcases a.f b (by rw [q]; simp) with z | z
      · exact absurd e6 z
      · rw [e3] at z; cases z
  sep := S.sep
  drw := a.d
theorem DqL.more {v : V} {es : List D} (h : DqL K G r H v es) (a : Nx G r H ds1 G1 r1 H1) : DqL K G1 r1 H1 v es := by
  obtain ⟨b, xs, e1, e2, e3, e4⟩ := h
  exact ⟨b, xs, e1, a.h b _ e4 e2, e3.more a.g a.e, a.notDA e4 e2⟩
theorem DqO.more {v : V} {d : D} (h : DqO K G r H v d) (a : Nx G r H ds1 G1 r1 H1) : DqO K G1 r1 H1 v d := by
  rcases h with h | ⟨es, e, h⟩
  · exact .inl (h.more a.g a.e)
  · exact .inr ⟨es, e, h.more a⟩
theorem DqO.list {v : V} {es : List D} (h : DqO K G r H v (.list es)) (s : Same G H) (d : DrOk ds G r H) : DqL K G r H v es := by
  rcases h with h | ⟨fs, e, h⟩
  · cases h with
    | lst e q => exact ⟨_, _, rfl, s _ _ e, q, d.apart e⟩
  · cases e; exact h
mutual
theorem Dq.dp (s : Same G H) : ∀ (d : D) (v : V), Dq K G r v d → d.hasDict = false → Dp K H v d
  | .none, _, .non, _ => .non
  | .bool _, _, .bl b, _ => .bl b
  | .int _, _, .int i, _ => .int i
  | .str _, _, .str x, _ => .str x
  | .list es, _, .lst h t, n => .lst (.inl (.inl (s _ _ h))) (DqAll.dp s es _ t (by simpa [PyData.hasDict] using n))
  | .tuple es, _, .tup h t, n => .tup (SqT.more s h) (DqAll.dp s es _ t (by simpa [PyData.hasDict] using n))
  | .dict _, _, _, n => by simp [PyData.hasDict] at n
theorem DqAll.dp (s : Same G H) : ∀ (es : List D) (vs : List V), DqAll K G r vs es → PyData.hasDictAll es = false → DpAll K H vs es
  | [], _, .nil, _ => .nil
  | d :: es, _, .cons h t, n => by
    have n' : d.hasDict = false ∧ PyData.hasDictAll es = false := by simpa [PyData.hasDictAll] using n
    exact .cons (Dq.dp s d _ h n'.1) (DqAll.dp s es _ t n'.2)
end
theorem DqO.dp {v : V} {d : D} (h : DqO K G r H v d) (s : Same G H) (n : d.hasDict = false) : Dp K H v d := by
  rcases h with h | ⟨es, e, b, xs, e1, e2, e3, _⟩
  · exact h.dp s d v n
  · subst e e1
    exact .lst (.inl (.inl e2)) (e3.dp s es xs (by simpa [PyData.hasDict] using n))
end
end Ev

end
section
set_option maxHeartbeats 4000000
/-! # Ev2: constructs one by one: what the evaluator answers, the model answers -/
namespace Ev
open PySem PySem.Spec L2

/-! ### what is known of a def's body from its text -/
structure Cz where
  N : List Str
  sc : Scope
  fnn : Str → Bool
  fns : List (Str × List Str × List (Nat × List Nat))
  cns : List Str
  gcd : Bool
  own : List Nat
def vis (C : Cz) (x : Str) : Bool := match C.sc.names.lookup x with
  | some .local => true
  | some .cell => true
  | some .free => true
  | _ => false
def loc (C : Cz) (x : Str) : Bool := match C.sc.names.lookup x with
  | some .local => true
  | some .cell => C.fnn x
  | _ => false
def gl (C : Cz) (x : Str) : Bool := match C.sc.names.lookup x with
  | some .globalImplicit => true
  | _ => false
def dn (x : Str) : Bool := !(x == ("__debug__" : Str)) && !(x == ("__classdict__" : Str))
def nmV (C : Cz) (i : Nat) (x : Str) : Bool := decide (C.N[i]? = some x) && (vis C x && dn x)
def nmL (C : Cz) (i : Nat) (x : Str) : Bool := decide (C.N[i]? = some x) && loc C x
def nst : Expr → Bool
  | .Starred _ _ => false
  | _ => true
def plx : Expr → Bool
  | .Slice _ _ _ _ => false
  | _ => true
/-- a def that may be called -/
structure FnG (P : Program) (w : World) (K : PySem.W.Frag) (mg : Str → Option Value) (base : Heap) (k : Nat) (f : Addr) (fd : FuncData) (fn : Fn) : Prop where
  run : ∀ (A : Around) (outer : List PySem.Env) (s : Shared) (H : Hp) (args : Args) (us : List Value) (vs : List V) (Q : VK) (xs : List D) (ds : Option DS) (G : Hp) (r : Option DA),
    Room k A → A.guards = some [] → Env0 P w K mg base A outer s H → BindsTo s fd args (fn.ps.zip us) → Vals vs us → xs.length = fn.ps.length → Same G H → DrOk ds G r H → DqAll K G r vs xs →
    wpR (fn.m xs ds) (fun d ds' => ∀ v G' r' H', Nx G r H ds' G' r' H' → Dq K G' r' v d → Q v H') →
    codeAny (model P w) A (.call (.ref f) args) (fun res s' => match res with
      | .ok (.ret u) => CE outer P w H s Q u s'
      | _ => False) s
/-- how calls of it bind: by place, by the names that are told -/
structure FnB (K : PySem.W.Frag) (fd : FuncData) (fn : Fn) : Prop where
  pos : ∀ (s : Shared) (us : List Value), us.length = fn.ps.length → BindsTo s fd ⟨us, []⟩ (fn.ps.zip us)
  kw : ∀ (n : Nat) (js : List Nat), (n, js) ∈ fn.kws → ∀ (s : Shared) (us ws as : List Value), us.length = n → ws.length = js.length → argsOf fn.ps.length us (js.zip ws) = some as →
    BindsTo s fd ⟨us, (js.map fun j => fn.ps.getD j "").zip ws⟩ (fn.ps.zip as)
structure FnH (X : Cx) (fn : Fn) : Prop where
  ex : ∃ k f fd, Room k X.A ∧ FnG X.prog X.w X.K X.mg X.base k f fd fn ∧ FnB X.K fd fn ∧ X.mg fn.name = some (.ref f) ∧ PySem.W.keepIn X.K (.ref f) = true
def bnames : List Str := ["abs", "int", "len", "list", "tuple", "max", "min", "sum", "repr", "isinstance", "range", "zip", "enumerate", "bool", "str", "sorted", "set", "super"]
/-- the context is such a def's body, or a comprehension's block within it -/
structure XOk (C : Cz) (T : Tb) (X : Cx) : Prop where
  N : X.N = C.N
  nd : C.N.Nodup
  sc : X.env.scope = C.sc
  calm : X.calm = true
  xe : X.xe = fun _ _ => False
  fnn : ∀ x, C.fnn x = true → X.fn x = true
  grd : X.A.guards = some []
  room : Room 0 X.A
  fns : C.fns = T.fs.map fun f => (f.name, f.ps, f.kws)
  cns : C.cns = T.cs.map (·.1)
  bl : ∀ x ∈ bnames, X.mg x = none
  gcd : C.gcd = true → X.mg "gcd" = some (.builtin "math.gcd")
  cs : ∀ (i : Nat) (x : Str) (d : D), T.cs[i]? = some (x, d) → ∃ u v, X.mg x = some u ∧ RelV v u ∧ ∀ G r, Dq X.K G r v d
  fs : ∀ (j : Nat) (f : Fn), T.fs[j]? = some f → FnH X f

/-! ### judgements -/
section
variable (C : Cz) (X : Cx)
def SE (x : Expr) (f : Env → M D) : Prop := ∃ t : TE, PE X x t ∧ ∀ (env : Env) (ds : Option DS) (G : Hp) (r : Option DA) (σ : St) (H : Hp) (Q : VK), Sim X.K C.own env ds G r σ H →
  wpR (f env ds) (fun d ds' => ∀ v G' r' H', Nx G r H ds' G' r' H' → Dq X.K G' r' v d → Q v H') → t σ H Q
def SO (x : Expr) (f : Env → M D) : Prop := ∃ t : TE, PE X x t ∧ ∀ (env : Env) (ds : Option DS) (G : Hp) (r : Option DA) (σ : St) (H : Hp) (Q : VK), Sim X.K C.own env ds G r σ H →
  wpR (f env ds) (fun d ds' => ∀ v G' r' H', Nx G r H ds' G' r' H' → DqO X.K G' r' H' v d → Q v H') → t σ H Q
/-- a new list -/
def SR (x : Expr) (f : Env → M D) : Prop := ∃ t : TE, PE X x t ∧ ∀ (env : Env) (ds : Option DS) (G : Hp) (r : Option DA) (σ : St) (H : Hp) (Q : VK), Sim X.K C.own env ds G r σ H →
  wpR (f env ds) (fun d ds' => ∃ es, d = .list es ∧ ∀ p ys G' r' H', Nx G r H ds' G' r' H' → H' p = none → DqAll X.K G' r' ys es → Q (.ref p) (upd H' p (.lst ys))) → t σ H Q
def ST (x : Expr) (f : Env → M Bool) : Prop := ∃ t : TT, PT X x t ∧ ∀ (env : Env) (ds : Option DS) (G : Hp) (r : Option DA) (σ : St) (H : Hp) (Q : Bool → Hp → Prop), Sim X.K C.own env ds G r σ H →
  wpR (f env ds) (fun b ds' => ∀ G' r' H', Nx G r H ds' G' r' H' → Q b H') → t σ H Q
def SA (xs : List Expr) (f : Env → M (List D)) : Prop := ∃ t : TA, PA X xs t ∧ ∀ (env : Env) (ds : Option DS) (G : Hp) (r : Option DA) (σ : St) (H : Hp) (Q : List V → Hp → Prop), Sim X.K C.own env ds G r σ H →
  wpR (f env ds) (fun es ds' => ∀ vs G' r' H', Nx G r H ds' G' r' H' → DqAll X.K G' r' vs es → Q vs H') → t σ H Q
inductive DqOs (K : PySem.W.Frag) (G : Hp) (r : Option DA) (H : Hp) : List V → List D → Prop
  | nil : DqOs K G r H [] []
  | cons {v : V} {vs : List V} {d : D} {ds : List D} : DqO K G r H v d → DqOs K G r H vs ds → DqOs K G r H (v :: vs) (d :: ds)
def SAO (xs : List Expr) (f : Env → M (List D)) : Prop := ∃ t : TA, PA X xs t ∧ ∀ (env : Env) (ds : Option DS) (G : Hp) (r : Option DA) (σ : St) (H : Hp) (Q : List V → Hp → Prop), Sim X.K C.own env ds G r σ H →
  wpR (f env ds) (fun es ds' => ∀ vs G' r' H', Nx G r H ds' G' r' H' → DqOs X.K G' r' H' vs es → Q vs H') → t σ H Q
/-- a keyword list: the values in order, with the places that they are for -/
def SK (ks : List Keyword) (js : List Nat) (f : Env → M (List (Nat × D))) : Prop := ∃ t : TA, PK X ks t ∧ ∀ (env : Env) (ds : Option DS) (G : Hp) (r : Option DA) (σ : St) (H : Hp) (Q : List V → Hp → Prop), Sim X.K C.own env ds G r σ H →
  wpR (f env ds) (fun kv ds' => ∃ es, kv = js.zip es ∧ es.length = js.length ∧ ∀ vs G' r' H', Nx G r H ds' G' r' H' → DqAll X.K G' r' vs es → Q vs H') → t σ H Q
end
section
variable {C : Cz} {T : Tb} {X : Cx} {x y z : Expr} {f g h : Env → M D} {pos : Pos}
theorem SE.o (a : SE C X x f) : SO C X x f := by
  obtain ⟨t, p, q⟩ := a
  exact ⟨t, p, fun env ds G r σ H Q S w => q env ds G r σ H Q S (wpR_mono w fun d ds' k v G' r' H' n e => k v G' r' H' n (.inl e))⟩
theorem SR.e (a : SR C X x f) (hf : ∀ env ds, wpR (f env ds) (fun _ _ => True) → wpR (f env ds) fun d _ => ∃ es, d = .list es) : SE C X x f := by
  obtain ⟨t, p, q⟩ := a
  refine ⟨t, p, fun env ds G r σ H Q S w => q env ds G r σ H Q S ?_⟩
  have w2 := hf env ds (wpR_mono w fun _ _ _ => trivial)
  obtain ⟨d, ds', e, k⟩ := wpR_ok w
  rw [e] at w2 ⊢
  obtain ⟨es, rfl⟩ := w2
  refine ⟨es, rfl, fun p ys G' r' H' n hp hq => ?_⟩
  have n2 := Nx.new (o := .lst ys) n.s n.d hp
  exact k _ _ _ _ (n.trans n2) (.lst upd_same (hq.more n2.g n2.e))
theorem getv_some {env : Env} {i : Nat} {d : D} (h : getv env i = some d) : env[i]? = some (some d) := by
  unfold getv at h
  split at h
  · rename_i d' e; rw [e]; cases h; rfl
  · cases h
theorem Sim.get {K : PySem.W.Frag} {O : List Nat} {env : Env} {ds : Option DS} {G H : Hp} {r : Option DA} {σ : St} (S : Sim K O env ds G r σ H) {i : Nat} {d : D} (h : getv env i = some d) : ∃ v, σ[i]? = some (some v) ∧ DqO K G r H v d := by
  have e := getv_some h
  by_cases hi : i ∈ O
  · obtain ⟨a, xs, es, e1, e2, e3, e4, e5, e6⟩ := S.own i d hi e
    exact ⟨.ref a, e2, .inr ⟨es, e1, a, xs, rfl, e3, e4, e5⟩⟩
  · obtain ⟨v, h1, h2⟩ := S.var i d hi e
    exact ⟨v, h1, .inl h2⟩
theorem nmV_ok {i : Nat} {n : Str} (h : XOk C T X) (m : nmV C i n = true) : PE X (.Name n pos) (tVar i) := by
  simp only [nmV, Bool.and_eq_true, decide_eq_true_eq] at m
  obtain ⟨m1, m2, m3⟩ := m
  have hv : Vis X.env.scope n := by
    rw [h.sc]
    unfold vis at m2
    unfold Vis
    split at m2
    · exact .inl (by assumption)
    · exact .inr (.inl (by assumption))
    · exact .inr (.inr (by assumption))
    · cases m2
  simp only [dn, Bool.and_eq_true, Bool.not_eq_true'] at m3
  exact pe_var (by rw [h.N]; exact m1) hv m3.1 m3.2
theorem so_v {i : Nat} {n : Str} (h : XOk C T X) (m : nmV C i n = true) : SO C X (.Name n pos) fun env => lft (getv env i) := by
  refine ⟨tVar i, nmV_ok h m, fun env ds G r σ H Q S w => ?_⟩
  obtain ⟨d, e, k⟩ := wpR_lft w
  obtain ⟨v, h1, h2⟩ := S.get e
  exact ⟨v, h1, k v G r H (Nx.refl S.sub S.drw) h2⟩
theorem se_v {i : Nat} {n : Str} (h : XOk C T X) (m : nmV C i n = true) (o : i ∉ C.own) : SE C X (.Name n pos) fun env => lft (getv env i) := by
  refine ⟨tVar i, nmV_ok h m, fun env ds G r σ H Q S w => ?_⟩
  obtain ⟨d, e, k⟩ := wpR_lft w
  obtain ⟨v, h1, h2⟩ := S.var i d o (getv_some e)
  exact ⟨v, h1, k v G r H (Nx.refl S.sub S.drw) h2⟩
theorem se_k {d : D} {v : V} (p : PE X x (tC v)) (q : ∀ G r, Dq X.K G r v d) : SE C X x fun _ => ret d :=
  ⟨tC v, p, fun env ds G r σ H Q S w => wpR_ret w v G r H (Nx.refl S.sub S.drw) (q G r)⟩
theorem gl_ok {n : Str} (h : XOk C T X) (m : gl C n = true) : Gl X n := by
  unfold gl at m
  show X.env.scope.names.lookup n = _
  rw [h.sc]
  split at m
  · assumption
  · cases m
theorem se_g {i : Nat} {n : Str} (h : XOk C T X) (m : decide (C.cns[i]? = some n) = true) (m2 : gl C n = true) (m3 : dn n = true) : SE C X (.Name n pos) fun _ => lft ((T.cs[i]?).map (·.2)) := by
  have e := of_decide_eq_true m
  rw [h.cns, List.getElem?_map] at e
  cases q : T.cs[i]? with
  | none => rw [q] at e; cases e
  | some p =>
    obtain ⟨a, d⟩ := p
    rw [q] at e
    have ea : a = n := by simpa using e
    subst ea
    obtain ⟨u, v, h1, h2, h3⟩ := h.cs i a d q
    simp only [dn, Bool.and_eq_true, Bool.not_eq_true'] at m3
    exact se_k (pe_glob (gl_ok h m2) h1 h2 m3.1) h3

/-! ### operators -/
abbrev RH (X : Cx) (r2 : R2) (g : D → D → Option D) : Prop := ∀ {a b d : D} {v u : V} {ds : Option DS} {G H : Hp} {r : Option DA} {Q : VK}, Same G H → DrOk ds G r H → DqO X.K G r H v a → DqO X.K G r H u b → g a b = some d →
  (∀ v' G' r' H', Nx G r H ds G' r' H' → Dq X.K G' r' v' d → Q v' H') → r2 v u H Q
theorem seq2 {r2 : R2} {k : D → D → Option D} {ta tb : TE} (hr : RH X r2 k)
    (qa : ∀ (env : Env) (ds : Option DS) (G : Hp) (r : Option DA) (σ : St) (H : Hp) (Q : VK), Sim X.K C.own env ds G r σ H → wpR (f env ds) (fun d ds' => ∀ v G' r' H', Nx G r H ds' G' r' H' → DqO X.K G' r' H' v d → Q v H') → ta σ H Q)
    (qb : ∀ (env : Env) (ds : Option DS) (G : Hp) (r : Option DA) (σ : St) (H : Hp) (Q : VK), Sim X.K C.own env ds G r σ H → wpR (g env ds) (fun d ds' => ∀ v G' r' H', Nx G r H ds' G' r' H' → DqO X.K G' r' H' v d → Q v H') → tb σ H Q)
    (env : Env) (ds : Option DS) (G : Hp) (r : Option DA) (σ : St) (H : Hp) (Q : VK) (S : Sim X.K C.own env ds G r σ H)
    (w : wpR (bnd (f env) (fun a => bnd (g env) fun b => lft (k a b)) ds) (fun d ds' => ∀ v G' r' H', Nx G r H ds' G' r' H' → Dq X.K G' r' v d → Q v H')) : tOp r2 ta tb σ H Q := by
  refine qa env ds G r σ H _ S (wpR_mono (wpR_bnd.mp w) fun a ds1 w1 v G1 r1 H1 n1 h1 => ?_)
  refine qb env ds1 G1 r1 σ H1 _ (n1.sim S) (wpR_mono (wpR_bnd.mp w1) fun b ds2 w2 u G2 r2 H2 n2 h2 => ?_)
  obtain ⟨d, e, w3⟩ := wpR_lft w2
  exact hr n2.s n2.d (h1.more n2) h2 e fun v' G' r' H' n3 h3 => w3 v' G' r' H' ((n1.trans n2).trans n3) h3
theorem se_op {op : Operator} {r2 : R2} {k : D → D → Option D} (ho : OpR X (binaryOp op) r2) (hr : RH X r2 k) (a : SO C X x f) (b : SO C X y g) : SE C X (.BinOp x op y pos) fun env => bnd (f env) fun a => bnd (g env) fun b => lft (k a b) := by
  obtain ⟨ta, pa, qa⟩ := a
  obtain ⟨tb, pb, qb⟩ := b
  exact ⟨tOp r2 ta tb, pe_op ho pa pb, seq2 hr qa qb⟩
theorem se_cmp {op : CmpOp} {r2 : R2} {k : D → D → Option D} (ho : OpR X (compareOp op) r2) (hr : RH X r2 k) (hm : behindInMarks op y = false) (a : SO C X x f) (b : SO C X y g) :
    SE C X (.Compare x [op] [y] pos) fun env => bnd (f env) fun a => bnd (g env) fun b => lft (k a b) := by
  obtain ⟨ta, pa, qa⟩ := a
  obtain ⟨tb, pb, qb⟩ := b
  exact ⟨tOp r2 ta tb, pe_cmpR ho pa pb hm, seq2 hr qa qb⟩
theorem se_ix {r2 : R2} {k : D → D → Option D} (ho : IxR X r2) (hr : RH X r2 k) (hp : PlainIx y) (a : SO C X x f) (b : SO C X y g) : SE C X (.Subscript x y pos) fun env => bnd (f env) fun a => bnd (g env) fun b => lft (k a b) := by
  obtain ⟨ta, pa, qa⟩ := a
  obtain ⟨tb, pb, qb⟩ := b
  exact ⟨tOp r2 ta tb, pe_ix ho pa pb hp, seq2 hr qa qb⟩
end
end Ev

end
section
set_option maxHeartbeats 4000000
/-! # Ev3: operators, comparisons, subscripts, displays -/
namespace Ev
open PySem PySem.Spec L2
section
variable {K : PySem.W.Frag} {G H : Hp} {r : Option DA} {ds : Option DS} {v : V}
theorem DqO.int {i : Int} (h : DqO K G r H v (.int i)) : v = .int i := by
  rcases h with h | ⟨_, e, _⟩
  · cases h; rfl
  · cases e
theorem DqO.bl {b : Bool} (h : DqO K G r H v (.bool b)) : v = .bl b := by
  rcases h with h | ⟨_, e, _⟩
  · cases h; rfl
  · cases e
theorem DqO.str {x : Str} (h : DqO K G r H v (.str x)) : v = .str x := by
  rcases h with h | ⟨_, e, _⟩
  · cases h; rfl
  · cases e
theorem DqO.non (h : DqO K G r H v .none) : v = .non := by
  rcases h with h | ⟨_, e, _⟩
  · cases h; rfl
  · cases e
theorem DqO.tup {es : List D} (h : DqO K G r H v (.tuple es)) : ∃ a xs, v = .ref a ∧ SqT K G a xs ∧ DqAll K G r xs es := by
  rcases h with h | ⟨_, e, _⟩
  · cases h with
    | tup h q => exact ⟨_, _, rfl, h, q⟩
  · cases e
theorem DqO.nonI {d : D} (h : DqO K G r H v d) : decide (v = V.non) = isNone d := by
  rcases h with h | ⟨_, e, a, xs, rfl, _⟩
  · cases h <;> rfl
  · subst e; rfl
/-- a result that a rule hands on: a value without an object, or a new one -/
theorem Nx.lst {p : Addr} {ys : List V} {es : List D} (s : Same G H) (d : DrOk ds G r H) (n : H p = none) (q : DqAll K G r ys es) : Nx G r H ds (upd G p (.lst ys)) r (upd H p (.lst ys)) ∧ Dq K (upd G p (.lst ys)) r (.ref p) (.list es) := by
  have k := Nx.new (o := HO.lst ys) s d n
  exact ⟨k, .lst upd_same (q.more k.g k.e)⟩
theorem Nx.tup {p : Addr} {ys : List V} {es : List D} (s : Same G H) (d : DrOk ds G r H) (n : H p = none) (q : DqAll K G r ys es) : Nx G r H ds (upd G p (.tup ys)) r (upd H p (.tup ys)) ∧ Dq K (upd G p (.tup ys)) r (.ref p) (.tuple es) := by
  have k := Nx.new (o := HO.tup ys) s d n
  exact ⟨k, .tup (.inl (.inl upd_same)) (q.more k.g k.e)⟩
theorem lenOk_of {n : Nat} (h : lenOk n = true) : n ≤ sizeLine := of_decide_eq_true h
end
/-- the raw form: a list that is made -/
abbrev RHR (X : Cx) (r2 : R2) (g : D → D → Option D) : Prop := ∀ {a b : D} {es : List D} {v u : V} {ds : Option DS} {G H : Hp} {r : Option DA} {Q : VK}, Same G H → DrOk ds G r H → DqO X.K G r H v a → DqO X.K G r H u b → g a b = some (.list es) →
  (∀ p ys, H p = none → DqAll X.K G r ys es → Q (.ref p) (upd H p (.lst ys))) → r2 v u H Q

section
variable {X : Cx}
/-! ### binary operators -/
def boOp : Bo → Operator
  | .add => .Add
  | .sub => .Sub
  | .mul => .Mult
  | .fdiv => .FloorDiv
  | .mod => .Mod
  | .pow => .Pow
def rMulM : R2 := rI (fun i j => mulOk i j = true) fun i j => .int (i * j)
def rDivM : R2 := rI (fun i j => j ≠ 0 ∧ divOk i j = true) fun i j => .int (i.fdiv j)
theorem mulOk_fit {i j : Int} (h : mulOk i j = true) : IntMulOk i j := by
  unfold IntMulOk
  unfold mulOk at h
  intro z
  rw [z] at h
  cases h
theorem op_mulM : OpR X (binaryOp .Mult) rMulM := opI fun _ _ _ _ _ _ _ hc q => PyProof.Rows.mul_int q (mulOk_fit hc)
theorem op_divM : OpR X (binaryOp .FloorDiv) rDivM := opI fun i j _ _ _ _ _ hc q => PyProof.Rows.floordiv_int hc.1 q (.inl (by
  have h2 := hc.2
  unfold divOk at h2
  simpa using h2))
def boR (K : PySem.W.Frag) : Bo → R2
  | .add => fun x y H Q => rI0 (fun i j => .int (i + j)) x y H Q ∨ (rCat x y H Q ∨ rCatA K x y H Q)
  | .sub => rI0 fun i j => .int (i - j)
  | .mul => fun x y H Q => rMulM x y H Q ∨ rRep x y H Q
  | .fdiv => rDivM
  | .mod => rI (fun _ j => j ≠ 0) fun i j => .int (i.fmod j)
  | .pow => rI CPow fun i j => .int (i ^ j.toNat)
theorem boR_ok : ∀ o : Bo, OpR X (binaryOp (boOp o)) (boR X.K o)
  | .add => op_add.or (op_cat.or op_catA)
  | .sub => op_sub
  | .mul => op_mulM.or op_rep
  | .fdiv => op_divM
  | .mod => op_modN
  | .pow => op_pow
theorem bo_list (o : Bo) : RHR X (boR X.K o) (binD o) := by
  intro a b es v u ds G H r Q s d ha hb e k
  unfold binD at e
  split at e
  · cases e
  · split at e
    · rename_i xs ys hz
      cases e
      obtain ⟨p, vs, rfl, e1, q1, n1⟩ := ha.list s d
      obtain ⟨p2, ws, rfl, e2, q2, n2⟩ := hb.list s d
      exact .inr (.inl ⟨_, _, vs, ws, rfl, rfl, e1, e2, by rw [q1.length, q2.length]; exact lenOk_of hz, fun p hp => k p _ hp (q1.append q2)⟩)
    · cases e
  · split at e <;> cases e
  · cases e
  · split at e <;> cases e
  · split at e
    · rename_i xs j hz
      cases e
      obtain ⟨p, vs, rfl, e1, q1, n1⟩ := ha.list s d
      cases hb.int
      simp only [repOk, Bool.and_eq_true, decide_eq_true_eq] at hz
      exact .inr ⟨_, _, vs, rfl, rfl, e1, hz.1.1, hz.1.2, by rw [q1.length]; exact hz.2, fun p hp => k p _ hp (q1.rep _)⟩
    · cases e
  · split at e <;> cases e
  · split at e <;> cases e
  · split at e <;> cases e
  · cases e
theorem bo_hr (o : Bo) : RH X (boR X.K o) (binD o) := by
  intro a b z v u ds G H r Q s d ha hb e k
  have key : ∀ es, z = .list es → boR X.K o v u H Q := fun es ez => by
    subst ez
    refine bo_list o s d ha hb e fun p ys hp hq => ?_
    obtain ⟨n, m⟩ := Nx.lst s d hp hq
    exact k _ _ _ _ n m
  have done : ∀ {v' : V}, Dq X.K G r v' z → Q v' H := fun {v'} m => k v' G r H (Nx.refl s d) m
  unfold binD at e
  split at e
  · cases e; cases ha.int; cases hb.int
    exact .inl ⟨_, _, rfl, rfl, done (.int _)⟩
  · split at e
    · cases e; exact key _ rfl
    · cases e
  · split at e
    · rename_i xs ys hz
      cases e
      obtain ⟨p, vs, rfl, e1, q1⟩ := ha.tup
      obtain ⟨p2, ws, rfl, e2, q2⟩ := hb.tup
      refine .inr (.inr ⟨_, _, vs, ws, rfl, rfl, SqT.more s e1, SqT.more s e2, by rw [q1.length, q2.length]; exact lenOk_of hz, fun ez => ?_, fun _ ez => ?_, fun _ _ p hp => ?_⟩)
      · subst ez
        cases q1
        exact done (.tup e2 (by simpa using q2))
      · subst ez
        cases q2
        exact done (.tup e1 (by simpa using q1))
      · obtain ⟨n, m⟩ := Nx.tup s d hp (q1.append q2)
        exact k _ _ _ _ n m
    · cases e
  · cases e; cases ha.int; cases hb.int
    exact ⟨_, _, rfl, rfl, done (.int _)⟩
  · split at e
    · rename_i i j hz
      cases e; cases ha.int; cases hb.int
      exact .inl ⟨_, _, rfl, rfl, hz, done (.int _)⟩
    · cases e
  · split at e
    · cases e; exact key _ rfl
    · cases e
  · split at e
    · rename_i i j hz
      cases e; cases ha.int; cases hb.int
      simp only [Bool.and_eq_true, bne_iff_ne, ne_eq] at hz
      exact ⟨_, _, rfl, rfl, hz, done (.int _)⟩
    · cases e
  · split at e
    · rename_i i j hz
      cases e; cases ha.int; cases hb.int
      simp only [bne_iff_ne, ne_eq] at hz
      exact ⟨_, _, rfl, rfl, hz, done (.int _)⟩
    · cases e
  · split at e
    · rename_i i j hz
      cases e; cases ha.int; cases hb.int
      simp only [powOk, Bool.and_eq_true, decide_eq_true_eq] at hz
      exact ⟨_, _, rfl, rfl, ⟨hz.1.1, hz.1.2, hz.2⟩, done (.int _)⟩
    · cases e
  · cases e

/-! ### comparisons -/
def coOp : Co → CmpOp
  | .eq => .Eq
  | .ne => .NotEq
  | .lt => .Lt
  | .le => .LtE
  | .gt => .Gt
  | .ge => .GtE
  | .is => .Is
  | .isnot => .IsNot
  | .isin => .In
  | .notin => .NotIn
def coR (K : PySem.W.Frag) : Co → R2
  | .eq => rEqD K
  | .ne => rNeD K
  | .lt => rI0 fun i j => .bl (decide (i < j))
  | .le => rI0 fun i j => .bl (decide (i ≤ j))
  | .gt => rI0 fun i j => .bl (decide (j < i))
  | .ge => rI0 fun i j => .bl (decide (j ≤ i))
  | .is => fun x y H Q => (y = .non ∧ Q (.bl (decide (x = .non))) H) ∨ rIsB x y H Q
  | .isnot => fun x y H Q => (y = .non ∧ Q (.bl (!decide (x = .non))) H) ∨ rNotB x y H Q
  | .isin => rIn K false
  | .notin => rIn K true
theorem coR_ok (hu : X.A.units + 64 < cLine) : ∀ o : Co, OpR X (compareOp (coOp o)) (coR X.K o)
  | .eq => op_eqD hu
  | .ne => op_neD hu
  | .lt => op_lt
  | .le => op_le
  | .gt => op_gt
  | .ge => op_ge
  | .is => op_isN.or op_isBl
  | .isnot => op_notN.or op_notBl
  | .isin => op_in_seq
  | .notin => op_notIn_seq
theorem shaped_nd {d : D} (h : SeqAt.shaped d = true) : d.hasDict = false := PyData.hasDict_of_canLay d (SeqAt.canLay_of_shaped h)
theorem flat_ints : ∀ (js : List Int), (js.map V.int).all flatV = true
  | [] => rfl
  | j :: js => by rw [List.map_cons, List.all_cons, flat_ints js]; rfl
theorem inV_ints {i : Int} : ∀ {js : List Int}, inV (.int i) (js.map V.int) = decide (i ∈ js)
  | [] => rfl
  | j :: js => by
    have ih := inV_ints (i := i) (js := js)
    unfold inV at ih ⊢
    rw [List.map_cons, List.any_cons, ih]
    show ((j == i) || _) = _
    by_cases c : i = j
    · subst c; simp
    · have c' : ¬ j = i := fun e => c e.symm
      simp [c, c']
theorem in_raw {i : Int} {b : D} {t : Bool} {u : V} {G H : Hp} {r : Option DA} (s : Same G H) (hb : DqO X.K G r H u b) (e : inD i b = some t) :
    ∃ (p : Addr) (us : List V) (js : List Int), u = .ref p ∧ (SqL X.K H p us ∨ SqT X.K H p us) ∧ us = js.map V.int ∧ decide (i ∈ js) = t := by
  unfold inD at e
  split at e
  · obtain ⟨js, e1, e2⟩ := Option.map_eq_some_iff.mp e
    rcases hb with hb | ⟨ds, ed, p, xs, e3, e4, e5, _⟩
    · cases hb with
      | lst e' ha => exact ⟨_, _, js, rfl, .inl (.inl (.inl (s _ _ e'))), ha.ints e1, e2⟩
    · cases ed
      exact ⟨p, xs, js, e3, .inl (.inl (.inl e4)), e5.ints e1, e2⟩
  · obtain ⟨js, e1, e2⟩ := Option.map_eq_some_iff.mp e
    rcases hb with hb | ⟨ds, ed, _⟩
    · cases hb with
      | tup e' ha => exact ⟨_, _, js, rfl, .inr (SqT.more s e'), ha.ints e1, e2⟩
    · cases ed
  · cases e
/-- a comparison's answer, in any form that it is asked in -/
theorem co_raw (o : Co) {a b : D} {t : Bool} {v u : V} {ds : Option DS} {G H : Hp} {r : Option DA} {Q : VK} (s : Same G H) (ha : DqO X.K G r H v a) (hb : DqO X.K G r H u b) (e : cmpD o a b = some t) (k : Q (.bl t) H) : coR X.K o v u H Q := by
  unfold cmpD at e
  split at e
  · split at e
    · rename_i hz
      cases e
      simp only [Bool.and_eq_true] at hz
      exact ⟨_, _, ha.dp s (shaped_nd hz.1), hb.dp s (shaped_nd hz.2), hz.1, hz.2, k⟩
    · cases e
  · split at e
    · rename_i hz
      cases e
      simp only [Bool.and_eq_true] at hz
      exact ⟨_, _, ha.dp s (shaped_nd hz.1), hb.dp s (shaped_nd hz.2), hz.1, hz.2, k⟩
    · cases e
  · cases e; cases ha.int; cases hb.int; exact ⟨_, _, rfl, rfl, k⟩
  · cases e; cases ha.int; cases hb.int; exact ⟨_, _, rfl, rfl, k⟩
  · cases e; cases ha.int; cases hb.int; exact ⟨_, _, rfl, rfl, k⟩
  · cases e; cases ha.int; cases hb.int; exact ⟨_, _, rfl, rfl, k⟩
  · cases e; cases hb.non; exact .inl ⟨rfl, by rw [ha.nonI]; exact k⟩
  · cases e; cases hb.non; exact .inl ⟨rfl, by rw [ha.nonI]; exact k⟩
  · cases e; cases ha.bl; cases hb.bl; exact .inr ⟨_, _, rfl, rfl, k⟩
  · cases e; cases ha.bl; cases hb.bl; exact .inr ⟨_, _, rfl, rfl, k⟩
  · cases ha.int
    obtain ⟨p, us, js, e1, e2, e3, e4⟩ := in_raw s hb e
    refine ⟨p, us, e1, e2, rfl, by rw [e3]; exact flat_ints js, ?_⟩
    rw [e3, inV_ints, e4]
    exact k
  · cases ha.int
    obtain ⟨t', e0, e5⟩ := Option.map_eq_some_iff.mp e
    obtain ⟨p, us, js, e1, e2, e3, e4⟩ := in_raw s hb e0
    refine ⟨p, us, e1, e2, rfl, by rw [e3]; exact flat_ints js, ?_⟩
    rw [e3, inV_ints, e4]
    subst e5
    exact k
  · cases e
theorem co_hr (o : Co) : RH X (coR X.K o) (fun a b => (cmpD o a b).map .bool) := by
  intro a b z v u ds G H r Q s d ha hb e k
  obtain ⟨t, e1, rfl⟩ := Option.map_eq_some_iff.mp e
  exact co_raw (ds := ds) o s ha hb e1 (k _ G r H (Nx.refl s d) (.bl t))

/-! ### subscripts, slices -/
def ixR (K : PySem.W.Frag) : R2 := fun x y H Q => rIxL K x y H Q ∨ rIxT K x y H Q
theorem ix_hr : RH X (ixR X.K) ixD := by
  intro a b z v u ds G H r Q s d ha hb e k
  unfold ixD at e
  split at e
  · cases hb.int
    obtain ⟨p, vs, rfl, e1, q1, n1⟩ := ha.list s d
    obtain ⟨w, h1, h2⟩ := q1.at e
    exact .inl ⟨_, vs, _, w, rfl, rfl, .inl (.inl e1), h1, k w G r H (Nx.refl s d) h2⟩
  · cases hb.int
    obtain ⟨p, vs, rfl, e1, q1⟩ := ha.tup
    obtain ⟨w, h1, h2⟩ := q1.at e
    exact .inr ⟨_, vs, _, w, rfl, rfl, SqT.more s e1, h1, k w G r H (Nx.refl s d) h2⟩
  · cases e
theorem plx_ok {b : Expr} (h : plx b = true) : PlainIx b := by
  intro o i
  cases b <;> first | rfl | cases h
end
end Ev

end
section
set_option maxHeartbeats 4000000
/-! # Ev4: not, and, or, conditional expressions, displays, slices -/
namespace Ev
open PySem PySem.Spec L2
section
variable {C : Cz} {T : Tb} {X : Cx} {x y z : Expr} {xs : List Expr} {f g h : Env → M D} {pos : Pos}
theorem se_neg (a : SE C X x f) : SE C X (.UnaryOp .USub x pos) fun env => bnd (f env) fun a => lft (negD a) := by
  obtain ⟨t, p, q⟩ := a
  refine ⟨_, pe_un un_neg p, fun env ds G r σ H Q S w => ?_⟩
  refine q env ds G r σ H _ S (wpR_mono (wpR_bnd.mp w) fun a ds1 w1 v G1 r1 H1 n1 h1 => ?_)
  obtain ⟨d, e, w2⟩ := wpR_lft w1
  unfold negD at e
  split at e
  · cases e; cases h1
    exact ⟨_, rfl, w2 _ _ _ _ n1 (.int _)⟩
  · cases e
theorem asB_some {d : D} {b : Bool} (h : asB d = some b) : d = .bool b := by
  unfold asB at h
  split at h
  · cases h; rfl
  · cases h
theorem asI_some {d : D} {b : Int} (h : asI d = some b) : d = .int b := by
  unfold asI at h
  split at h
  · cases h; rfl
  · cases h
theorem asL_some {d : D} {b : List D} (h : asL d = some b) : d = .list b := by
  unfold asL at h
  split at h
  · cases h; rfl
  · cases h
theorem se_not (a : SE C X x f) : SE C X (.UnaryOp .Not x pos) fun env => bnd (f env) fun a => lft ((asB a).map fun b => .bool (!b)) := by
  obtain ⟨t, p, q⟩ := a
  refine ⟨_, pe_not p, fun env ds G r σ H Q S w => ?_⟩
  refine q env ds G r σ H _ S (wpR_mono (wpR_bnd.mp w) fun a ds1 w1 v G1 r1 H1 n1 h1 => ?_)
  obtain ⟨d, e, w2⟩ := wpR_lft w1
  obtain ⟨b, e1, rfl⟩ := Option.map_eq_some_iff.mp e
  cases asB_some e1
  cases h1
  exact ⟨_, rfl, w2 _ _ _ _ n1 (.bl _)⟩

/-! ### tests -/
abbrev asBool (f : Env → M D) : Env → M Bool := fun env => bnd (f env) fun x => lft (asB x)
def leafT : Expr → Bool
  | .UnaryOp .Not _ _ => false
  | .BoolOp _ _ _ => false
  | .IfExp _ _ _ _ => false
  | .Compare _ _ _ _ => false
  | _ => true
theorem leafT_ok (hl : leafT x = true) : ∀ whole, isTrue x X.env whole = (do let v ← whole; standAt x.pos; holding [v] (truthy v)) := by
  intro whole
  cases x with
  | UnaryOp op a p => cases op <;> first | rfl | cases hl
  | BoolOp => cases hl
  | IfExp => cases hl
  | Compare => cases hl
  | _ => rfl
theorem st_leaf (hl : leafT x = true) (a : SE C X x f) : ST C X x (asBool f) := by
  obtain ⟨t, p, q⟩ := a
  refine ⟨_, pt_val p (leafT_ok hl), fun env ds G r σ H Q S w => ?_⟩
  refine q env ds G r σ H _ S (wpR_mono (wpR_bnd.mp w) fun a ds1 w1 v G1 r1 H1 n1 h1 => ?_)
  obtain ⟨b, e, w2⟩ := wpR_lft w1
  cases asB_some e
  cases h1
  exact ⟨_, rfl, w2 _ _ _ n1⟩
theorem st_cmp {o : Co} (hu : X.A.units + 64 < cLine) (hm : behindInMarks (coOp o) y = false) (a : SO C X x f) (b : SO C X y g) :
    ST C X (.Compare x [coOp o] [y] pos) (asBool fun env => bnd (f env) fun a => bnd (g env) fun b => lft ((cmpD o a b).map .bool)) := by
  obtain ⟨ta, pa, qa⟩ := a
  obtain ⟨tb, pb, qb⟩ := b
  refine ⟨_, pt_cmpR (coR_ok hu o) pa pb hm, fun env ds G r σ H Q S w => ?_⟩
  refine qa env ds G r σ H _ S (wpR_mono (wpR_bnd.mp (wpR_bnd.mp w)) fun a ds1 w1 v G1 r1 H1 n1 h1 => ?_)
  refine qb env ds1 G1 r1 σ H1 _ (n1.sim S) (wpR_mono (wpR_bnd.mp w1) fun b ds2 w2 u G2 r2 H2 n2 h2 => ?_)
  obtain ⟨d, e, w3⟩ := wpR_lft w2
  obtain ⟨t, e1, rfl⟩ := Option.map_eq_some_iff.mp e
  obtain ⟨t', e2, w4⟩ := wpR_lft w3
  cases e2
  exact co_raw (ds := ds2) o n2.s (h1.more n2) h2 e1 ⟨_, rfl, w4 _ _ _ (n1.trans n2)⟩
theorem st_not (a : ST C X x (asBool f)) : ST C X (.UnaryOp .Not x pos) (asBool fun env => bnd (f env) fun a => lft ((asB a).map fun b => .bool (!b))) := by
  obtain ⟨t, p, q⟩ := a
  refine ⟨_, pt_not p, fun env ds G r σ H Q S w => ?_⟩
  refine q env ds G r σ H _ S (wpR_bnd.mpr (wpR_mono (wpR_bnd.mp (wpR_bnd.mp w)) fun a ds1 w1 => ?_))
  obtain ⟨d, e, w2⟩ := wpR_lft w1
  obtain ⟨b, e1, rfl⟩ := Option.map_eq_some_iff.mp e
  obtain ⟨b', e2, w3⟩ := wpR_lft w2
  cases e2
  rw [e1]
  exact fun G' r' H' n => w3 G' r' H' n
theorem se_ife (c : ST C X x (asBool f)) (a : SE C X y g) (b : SE C X z h) : SE C X (.IfExp x y z pos) fun env => bnd (f env) fun x => bnd (lft (asB x)) fun t => if t then g env else h env := by
  obtain ⟨tc, pc, qc⟩ := c
  obtain ⟨ta, pa, qa⟩ := a
  obtain ⟨tb, pb, qb⟩ := b
  refine ⟨_, pe_ifExp pc pa pb, fun env ds G r σ H Q S w => ?_⟩
  refine qc env ds G r σ H _ S (wpR_bnd.mpr (wpR_mono (wpR_bnd.mp w) fun d ds1 w1 => ?_))
  obtain ⟨t, ds2, e, w2⟩ := wpR_ok (wpR_bnd.mp w1)
  rw [e]
  intro G1 r1 H1 n1
  cases t with
  | true => exact qa env ds2 G1 r1 σ H1 _ (n1.sim S) (wpR_mono w2 fun d ds3 k v G' r' H' n2 m => k v G' r' H' (n1.trans n2) m)
  | false => exact qb env ds2 G1 r1 σ H1 _ (n1.sim S) (wpR_mono w2 fun d ds3 k v G' r' H' n2 m => k v G' r' H' (n1.trans n2) m)
def tIfT (t : TT) (ta tb : TT) : TT := fun σ H Q => t σ H fun c H1 => if c = true then ta σ H1 Q else tb σ H1 Q
theorem pt_ifE {tc ta tb : TT} (hc : PT X x tc) (ha : PT X y ta) (hb : PT X z tb) : PT X (.IfExp x y z pos) (tIfT tc ta tb) := by
  refine ⟨fun pins s σ H Q I w => ?_⟩
  refine PyProof.Rows.isTrue_IfExp (thn (hc.run pins s σ H _ I w) fun d s1 q => ?_)
  obtain ⟨H1, I1, q1⟩ := q
  cases d with
  | true => exact ha.run pins s1 σ H1 Q I1 q1
  | false => exact hb.run pins s1 σ H1 Q I1 q1
theorem st_ife (c : ST C X x (asBool f)) (a : ST C X y (asBool g)) (b : ST C X z (asBool h)) : ST C X (.IfExp x y z pos) (asBool fun env => bnd (f env) fun x => bnd (lft (asB x)) fun t => if t then g env else h env) := by
  obtain ⟨tc, pc, qc⟩ := c
  obtain ⟨ta, pa, qa⟩ := a
  obtain ⟨tb, pb, qb⟩ := b
  refine ⟨_, pt_ifE pc pa pb, fun env ds G r σ H Q S w => ?_⟩
  refine qc env ds G r σ H _ S (wpR_bnd.mpr (wpR_mono (wpR_bnd.mp (wpR_bnd.mp w)) fun d ds1 w1 => ?_))
  obtain ⟨t, ds2, e, w2⟩ := wpR_ok (wpR_bnd.mp w1)
  rw [e]
  intro G1 r1 H1 n1
  cases t with
  | true => exact qa env ds2 G1 r1 σ H1 _ (n1.sim S) (wpR_bnd.mpr (wpR_mono w2 fun d ds3 k => wpR_mono k fun b ds4 k' G' r' H' n2 => k' G' r' H' (n1.trans n2)))
  | false => exact qb env ds2 G1 r1 σ H1 _ (n1.sim S) (wpR_bnd.mpr (wpR_mono w2 fun d ds3 k => wpR_mono k fun b ds4 k' G' r' H' n2 => k' G' r' H' (n1.trans n2)))

/-! ### and, or -/
theorem se_and1 (a : SE C X x f) : SE C X (.BoolOp .And [x] pos) fun env => bnd (f env) fun a => ret a := by
  obtain ⟨t, p, q⟩ := a
  exact ⟨_, pe_one p, fun env ds G r σ H Q S w => q env ds G r σ H Q S (wpR_mono (wpR_bnd.mp w) fun d ds' k => k)⟩
theorem se_or1 (a : SE C X x f) : SE C X (.BoolOp .Or [x] pos) fun env => bnd (f env) fun a => ret a := by
  obtain ⟨t, p, q⟩ := a
  exact ⟨_, pe_one p, fun env ds G r σ H Q S w => q env ds G r σ H Q S (wpR_mono (wpR_bnd.mp w) fun d ds' k => k)⟩
theorem se_andS (a : SE C X x f) (b : SE C X (.BoolOp .And (y :: xs) pos) g) : SE C X (.BoolOp .And (x :: y :: xs) pos) fun env => bnd (f env) fun a => bnd (lft (asB a)) fun t => if t then g env else ret (.bool false) := by
  obtain ⟨ta, pa, qa⟩ := a
  obtain ⟨tb, pb, qb⟩ := b
  refine ⟨_, pe_and pa pb, fun env ds G r σ H Q S w => ?_⟩
  refine qa env ds G r σ H _ S (wpR_mono (wpR_bnd.mp w) fun d ds1 w1 v G1 r1 H1 n1 h1 => ?_)
  obtain ⟨t, e, w2⟩ := wpR_lft (wpR_bnd.mp w1)
  cases asB_some e
  cases h1
  refine ⟨_, rfl, ?_⟩
  cases t with
  | true => exact qb env ds1 G1 r1 σ H1 _ (n1.sim S) (wpR_mono w2 fun d ds3 k v G' r' H' n2 m => k v G' r' H' (n1.trans n2) m)
  | false => exact wpR_ret w2 _ _ _ _ n1 (.bl _)
theorem se_orS (a : SE C X x f) (b : SE C X (.BoolOp .Or (y :: xs) pos) g) : SE C X (.BoolOp .Or (x :: y :: xs) pos) fun env => bnd (f env) fun a => bnd (lft (asB a)) fun t => if t then ret (.bool true) else g env := by
  obtain ⟨ta, pa, qa⟩ := a
  obtain ⟨tb, pb, qb⟩ := b
  refine ⟨_, pe_or pa pb, fun env ds G r σ H Q S w => ?_⟩
  refine qa env ds G r σ H _ S (wpR_mono (wpR_bnd.mp w) fun d ds1 w1 v G1 r1 H1 n1 h1 => ?_)
  obtain ⟨t, e, w2⟩ := wpR_lft (wpR_bnd.mp w1)
  cases asB_some e
  cases h1
  refine ⟨_, rfl, ?_⟩
  cases t with
  | true => exact wpR_ret w2 _ _ _ _ n1 (.bl _)
  | false => exact qb env ds1 G1 r1 σ H1 _ (n1.sim S) (wpR_mono w2 fun d ds3 k v G' r' H' n2 m => k v G' r' H' (n1.trans n2) m)
def SW (C : Cz) (X : Cx) (x : Expr) (f : Env → M Bool) : Prop := ∃ t : TT, PW X x t ∧ ∀ (env : Env) (ds : Option DS) (G : Hp) (r : Option DA) (σ : St) (H : Hp) (Q : Bool → Hp → Prop), Sim X.K C.own env ds G r σ H →
  wpR (f env ds) (fun b ds' => ∀ G' r' H', Nx G r H ds' G' r' H' → Q b H') → t σ H Q
theorem SW.st {F : Env → M Bool} (a : SW C X x F) : ST C X x F := by
  obtain ⟨t, p, q⟩ := a
  exact ⟨t, p.pt, q⟩
theorem sw_and1 (a : ST C X x (asBool f)) : SW C X (.BoolOp .And [x] pos) (asBool fun env => bnd (f env) fun a => ret a) := by
  obtain ⟨t, p, q⟩ := a
  exact ⟨_, pw_and1 p, fun env ds G r σ H Q S w => q env ds G r σ H Q S (wpR_bnd.mpr (wpR_mono (wpR_bnd.mp (wpR_bnd.mp w)) fun d ds' k => k))⟩
theorem sw_or1 (a : ST C X x (asBool f)) : SW C X (.BoolOp .Or [x] pos) (asBool fun env => bnd (f env) fun a => ret a) := by
  obtain ⟨t, p, q⟩ := a
  exact ⟨_, pw_or1 p, fun env ds G r σ H Q S w => q env ds G r σ H Q S (wpR_bnd.mpr (wpR_mono (wpR_bnd.mp (wpR_bnd.mp w)) fun d ds' k => k))⟩
theorem sw_andS (a : ST C X x (asBool f)) (b : SW C X (.BoolOp .And (y :: xs) pos) (asBool g)) : SW C X (.BoolOp .And (x :: y :: xs) pos) (asBool fun env => bnd (f env) fun a => bnd (lft (asB a)) fun t => if t then g env else ret (.bool false)) := by
  obtain ⟨ta, pa, qa⟩ := a
  obtain ⟨tb, pb, qb⟩ := b
  refine ⟨_, pw_and pa pb, fun env ds G r σ H Q S w => ?_⟩
  refine qa env ds G r σ H _ S (wpR_bnd.mpr (wpR_mono (wpR_bnd.mp (wpR_bnd.mp w)) fun d ds1 w1 => ?_))
  obtain ⟨t, ds2, e, w2⟩ := wpR_ok (wpR_bnd.mp w1)
  rw [e]
  intro G1 r1 H1 n1
  cases t with
  | true => exact qb env ds2 G1 r1 σ H1 _ (n1.sim S) (wpR_bnd.mpr (wpR_mono w2 fun d ds3 k => wpR_mono k fun b ds4 k' G' r' H' n2 => k' G' r' H' (n1.trans n2)))
  | false => exact w2 _ _ _ n1
theorem sw_orS (a : ST C X x (asBool f)) (b : SW C X (.BoolOp .Or (y :: xs) pos) (asBool g)) : SW C X (.BoolOp .Or (x :: y :: xs) pos) (asBool fun env => bnd (f env) fun a => bnd (lft (asB a)) fun t => if t then ret (.bool true) else g env) := by
  obtain ⟨ta, pa, qa⟩ := a
  obtain ⟨tb, pb, qb⟩ := b
  refine ⟨_, pw_or pa pb, fun env ds G r σ H Q S w => ?_⟩
  refine qa env ds G r σ H _ S (wpR_bnd.mpr (wpR_mono (wpR_bnd.mp (wpR_bnd.mp w)) fun d ds1 w1 => ?_))
  obtain ⟨t, ds2, e, w2⟩ := wpR_ok (wpR_bnd.mp w1)
  rw [e]
  intro G1 r1 H1 n1
  cases t with
  | true => exact w2 _ _ _ n1
  | false => exact qb env ds2 G1 r1 σ H1 _ (n1.sim S) (wpR_bnd.mpr (wpR_mono w2 fun d ds3 k => wpR_mono k fun b ds4 k' G' r' H' n2 => k' G' r' H' (n1.trans n2)))

/-! ### chains -/
theorem chain_raw {o o' : Co} {ta tb tc : TE}
    (qa : ∀ (env : Env) (ds : Option DS) (G : Hp) (r : Option DA) (σ : St) (H : Hp) (Q : VK), Sim X.K C.own env ds G r σ H → wpR (f env ds) (fun d ds' => ∀ v G' r' H', Nx G r H ds' G' r' H' → DqO X.K G' r' H' v d → Q v H') → ta σ H Q)
    (qb : ∀ (env : Env) (ds : Option DS) (G : Hp) (r : Option DA) (σ : St) (H : Hp) (Q : VK), Sim X.K C.own env ds G r σ H → wpR (g env ds) (fun d ds' => ∀ v G' r' H', Nx G r H ds' G' r' H' → DqO X.K G' r' H' v d → Q v H') → tb σ H Q)
    (qc : ∀ (env : Env) (ds : Option DS) (G : Hp) (r : Option DA) (σ : St) (H : Hp) (Q : VK), Sim X.K C.own env ds G r σ H → wpR (h env ds) (fun d ds' => ∀ v G' r' H', Nx G r H ds' G' r' H' → DqO X.K G' r' H' v d → Q v H') → tc σ H Q)
    (env : Env) (ds : Option DS) (G : Hp) (r : Option DA) (σ : St) (H : Hp) (Q : VK) (S : Sim X.K C.own env ds G r σ H)
    (w : wpR (bnd (f env) (fun a => bnd (g env) fun b => bnd (lft (cmpD o a b)) fun t => if t then bnd (h env) fun c => lft ((cmpD o' b c).map PyData.bool) else ret (PyData.bool false)) ds)
      (fun d ds' => ∀ b G' r' H', d = PyData.bool b → Nx G r H ds' G' r' H' → Q (.bl b) H')) : tChain (coR X.K o) (coR X.K o') ta tb tc σ H Q := by
  refine qa env ds G r σ H _ S (wpR_mono (wpR_bnd.mp w) fun a ds1 w1 v G1 r1 H1 n1 h1 => ?_)
  refine qb env ds1 G1 r1 σ H1 _ (n1.sim S) (wpR_mono (wpR_bnd.mp w1) fun b ds2 w2 u G2 r2 H2 n2 h2 => ?_)
  obtain ⟨t, e, w3⟩ := wpR_lft (wpR_bnd.mp w2)
  have n12 := n1.trans n2
  refine co_raw (ds := ds2) o n2.s (h1.more n2) h2 e ⟨_, rfl, ?_⟩
  cases t with
  | false => exact wpR_ret w3 _ _ _ _ rfl n12
  | true =>
    refine qc env ds2 G2 r2 σ H2 _ (n12.sim S) (wpR_mono (wpR_bnd.mp w3) fun c ds3 w4 u' G3 r3 H3 n3 h3 => ?_)
    obtain ⟨d, e4, w5⟩ := wpR_lft w4
    obtain ⟨t', e5, rfl⟩ := Option.map_eq_some_iff.mp e4
    exact co_raw (ds := ds3) o' n3.s (h2.more n3) h3 e5 (w5 _ _ _ _ rfl (n12.trans n3))
theorem se_chain {o o' : Co} (hu : X.A.units + 64 < cLine) (hm : lastMarks [coOp o, coOp o'] [y, z] = false) (a : SO C X x f) (b : SO C X y g) (c : SO C X z h) :
    SE C X (.Compare x [coOp o, coOp o'] [y, z] pos) fun env => bnd (f env) fun a => bnd (g env) fun b => bnd (lft (cmpD o a b)) fun t => if t then bnd (h env) fun c => lft ((cmpD o' b c).map .bool) else ret (.bool false) := by
  obtain ⟨ta, pa, qa⟩ := a
  obtain ⟨tb, pb, qb⟩ := b
  obtain ⟨tc, pc, qc⟩ := c
  refine ⟨_, pe_chain (coR_ok hu o) (coR_ok hu o') pa pb pc hm, fun env ds G r σ H Q S w => ?_⟩
  refine chain_raw qa qb qc env ds G r σ H Q S (wpR_mono w fun d ds' k b G' r' H' e n => ?_)
  subst e
  exact k _ _ _ _ n (.bl b)
theorem st_chain {o o' : Co} (hu : X.A.units + 64 < cLine) (hm : lastMarks [coOp o, coOp o'] [y, z] = false) (a : SO C X x f) (b : SO C X y g) (c : SO C X z h) :
    ST C X (.Compare x [coOp o, coOp o'] [y, z] pos) (asBool fun env => bnd (f env) fun a => bnd (g env) fun b => bnd (lft (cmpD o a b)) fun t => if t then bnd (h env) fun c => lft ((cmpD o' b c).map .bool) else ret (.bool false)) := by
  obtain ⟨ta, pa, qa⟩ := a
  obtain ⟨tb, pb, qb⟩ := b
  obtain ⟨tc, pc, qc⟩ := c
  refine ⟨_, pt_chain (coR_ok hu o) (coR_ok hu o') pa pb pc hm, fun env ds G r σ H Q S w => ?_⟩
  refine chain_raw qa qb qc env ds G r σ H _ S (wpR_mono (wpR_bnd.mp w) fun d ds' k b G' r' H' e n => ?_)
  subst e
  obtain ⟨b', e', k'⟩ := wpR_lft k
  cases e'
  exact ⟨_, rfl, k' _ _ _ n⟩
end
end Ev

end
section
set_option maxHeartbeats 4000000
/-! # Ev5: argument lists, displays, slices, calls of built-ins -/
namespace Ev
open PySem PySem.Spec L2
section
variable {C : Cz} {T : Tb} {X : Cx} {x y z : Expr} {xs : List Expr} {f g h : Env → M D} {F : Env → M (List D)} {pos p1 p2 p3 : Pos}
/-! ### argument lists -/
theorem star_ns (e : nst x = true) (es : List Expr) (env : PySem.Env) : starEach (x :: es) env = (false, eval x env) :: starEach es env := by
  cases x <;> first | rfl | cases e
def nsts : List Expr → Bool
  | [] => true
  | x :: xs => nst x && nsts xs
theorem nsts_plain {es : List Expr} (h : nsts es = true) (env : PySem.Env) (pos : Pos) : (backTo pos (starEach es env)).any (·.1) = false := by
  induction es with
  | nil => rfl
  | cons x es ih =>
    simp only [nsts, Bool.and_eq_true] at h
    rw [star_ns h.1]
    have e := ih h.2
    unfold backTo at e ⊢
    simp only [List.map_cons, List.any_cons, Bool.false_or]
    exact e
theorem sa_nil : SA C X [] fun _ => ret [] := ⟨_, pa_nil, fun env ds G r σ H Q S w => wpR_ret w _ _ _ _ (Nx.refl S.sub S.drw) .nil⟩
theorem sa_cons (hn : nst x = true) (a : SE C X x f) (b : SA C X xs F) : SA C X (x :: xs) fun env => bnd (f env) fun d => bnd (F env) fun ds => ret (d :: ds) := by
  obtain ⟨ta, pa, qa⟩ := a
  obtain ⟨tb, pb, qb⟩ := b
  refine ⟨_, pa_cons pa pb (star_ns hn _ _), fun env ds G r σ H Q S w => ?_⟩
  refine qa env ds G r σ H _ S (wpR_mono (wpR_bnd.mp w) fun a ds1 w1 v G1 r1 H1 n1 h1 => ?_)
  refine qb env ds1 G1 r1 σ H1 _ (n1.sim S) (wpR_mono (wpR_bnd.mp w1) fun b ds2 w2 u G2 r2 H2 n2 h2 => ?_)
  exact wpR_ret w2 _ _ _ _ (n1.trans n2) (.cons (h1.more n2.g n2.e) h2)
theorem so_nil : SAO C X [] fun _ => ret [] := ⟨_, pa_nil, fun env ds G r σ H Q S w => wpR_ret w _ _ _ _ (Nx.refl S.sub S.drw) .nil⟩
theorem DqOs.more {K : PySem.W.Frag} {G G1 H H1 : Hp} {r r1 : Option DA} {ds1 : Option DS} {vs : List V} {es : List D} (h : DqOs K G r H vs es) (n : Nx G r H ds1 G1 r1 H1) : DqOs K G1 r1 H1 vs es := by
  induction h with
  | nil => exact .nil
  | cons a _ ih => exact .cons (a.more n) ih
theorem so_cons (hn : nst x = true) (a : SO C X x f) (b : SAO C X xs F) : SAO C X (x :: xs) fun env => bnd (f env) fun d => bnd (F env) fun ds => ret (d :: ds) := by
  obtain ⟨ta, pa, qa⟩ := a
  obtain ⟨tb, pb, qb⟩ := b
  refine ⟨_, pa_cons pa pb (star_ns hn _ _), fun env ds G r σ H Q S w => ?_⟩
  refine qa env ds G r σ H _ S (wpR_mono (wpR_bnd.mp w) fun a ds1 w1 v G1 r1 H1 n1 h1 => ?_)
  refine qb env ds1 G1 r1 σ H1 _ (n1.sim S) (wpR_mono (wpR_bnd.mp w1) fun b ds2 w2 u G2 r2 H2 n2 h2 => ?_)
  exact wpR_ret w2 _ _ _ _ (n1.trans n2) (.cons (h1.more n2) h2)
/-! ### displays -/
theorem se_tup {k : Nat} (a : SA C X xs F) : SE C X (.Tuple xs k pos) fun env => bnd (F env) fun ds => lft (if lenOk ds.length then some (.tuple ds) else none) := by
  obtain ⟨t, p, q⟩ := a
  refine ⟨_, pe_tup p, fun env ds G r σ H Q S w => ?_⟩
  refine q env ds G r σ H _ S (wpR_mono (wpR_bnd.mp w) fun es ds1 w1 vs G1 r1 H1 n1 h1 => ?_)
  obtain ⟨d, e, w2⟩ := wpR_lft w1
  split at e
  · rename_i hz
    cases e
    refine ⟨by rw [h1.length]; exact lenOk_of hz, fun p hp => ?_⟩
    obtain ⟨n, m⟩ := Nx.tup n1.s n1.d hp h1
    exact w2 _ _ _ _ (n1.trans n) m
  · cases e
theorem sr_lst (a : SA C X xs F) : SR C X (.List xs pos) fun env => bnd (F env) fun ds => lft (if lenOk ds.length then some (.list ds) else none) := by
  obtain ⟨t, p, q⟩ := a
  refine ⟨_, pe_lst p, fun env ds G r σ H Q S w => ?_⟩
  refine q env ds G r σ H _ S (wpR_mono (wpR_bnd.mp w) fun es ds1 w1 vs G1 r1 H1 n1 h1 => ?_)
  obtain ⟨d, e, es', e2, k⟩ := wpR_lft w1
  split at e
  · rename_i hz
    cases e
    cases e2
    exact ⟨by rw [h1.length]; exact lenOk_of hz, fun p hp => k p _ _ _ _ n1 hp h1⟩
  · cases e
theorem sr_op {op : Operator} {r2 : R2} {k : D → D → Option D} (ho : OpR X (binaryOp op) r2) (hr : RHR X r2 k) (a : SO C X x f) (b : SO C X y g) : SR C X (.BinOp x op y pos) fun env => bnd (f env) fun a => bnd (g env) fun b => lft (k a b) := by
  obtain ⟨ta, pa, qa⟩ := a
  obtain ⟨tb, pb, qb⟩ := b
  refine ⟨_, pe_op ho pa pb, fun env ds G r σ H Q S w => ?_⟩
  refine qa env ds G r σ H _ S (wpR_mono (wpR_bnd.mp w) fun a ds1 w1 v G1 r1 H1 n1 h1 => ?_)
  refine qb env ds1 G1 r1 σ H1 _ (n1.sim S) (wpR_mono (wpR_bnd.mp w1) fun b ds2 w2 u G2 r2 H2 n2 h2 => ?_)
  obtain ⟨d, e, es, e2, w3⟩ := wpR_lft w2
  subst e2
  exact hr n2.s n2.d (h1.more n2) h2 e fun p ys hp hq => w3 p ys _ _ _ (n1.trans n2) hp hq

/-! ### slices -/
def SP' (C : Cz) (X : Cx) (x : Option Expr) (f : Env → M (Option Int)) : Prop := ∃ t : TO, PO X x t ∧ ∀ (env : Env) (ds : Option DS) (G : Hp) (r : Option DA) (σ : St) (H : Hp) (Q : Option Int → Hp → Prop), Sim X.K C.own env ds G r σ H →
  wpR (f env ds) (fun b ds' => ∀ G' r' H', Nx G r H ds' G' r' H' → Q b H') → t σ H Q
theorem sp_none : SP' C X none fun _ => ret none := ⟨_, po_none, fun env ds G r σ H Q S w => wpR_ret w _ _ _ (Nx.refl S.sub S.drw)⟩
theorem sp_some (a : SE C X x f) : SP' C X (some x) fun env => bnd (f env) fun y => lft ((asI y).map some) := by
  obtain ⟨t, p, q⟩ := a
  refine ⟨_, po_some p, fun env ds G r σ H Q S w => ?_⟩
  refine q env ds G r σ H _ S (wpR_mono (wpR_bnd.mp w) fun a ds1 w1 v G1 r1 H1 n1 h1 => ?_)
  obtain ⟨d, e, w2⟩ := wpR_lft w1
  obtain ⟨i, e1, rfl⟩ := Option.map_eq_some_iff.mp e
  cases asI_some e1
  cases h1
  exact ⟨_, rfl, w2 _ _ _ n1⟩
def slR (K : PySem.W.Frag) : V → Option Int → Option Int → Hp → VK → Prop := fun x lo hi H Q => rSlL K x lo hi H Q ∨ rSlA K x lo hi H Q
theorem slR_ok : SlR X (slR X.K) := sl_list.or sl_tupA
theorem sIx_all {α : Type} (xs : List α) (lo hi : Option Int) (h : HT.sIx xs.length 0 lo = 0 ∧ HT.sIx xs.length xs.length hi = xs.length) : cutA xs lo hi = xs := by
  unfold cutA
  rw [h.1, h.2]
  simp
theorem sl_raw {a b : D} {lo hi : Option Int} {v : V} {ds : Option DS} {G H : Hp} {r : Option DA} {Q : VK} (s : Same G H) (d : DrOk ds G r H) (ha : DqO X.K G r H v a) (e : slD a lo hi = some b)
    (kL : ∀ es, b = .list es → ∀ p ys, H p = none → DqAll X.K G r ys es → Q (.ref p) (upd H p (.lst ys))) (kT : ∀ es, b = .tuple es → ∀ v' G' r' H', Nx G r H ds G' r' H' → Dq X.K G' r' v' b → Q v' H') : slR X.K v lo hi H Q := by
  unfold slD at e
  split at e
  · cases e
    obtain ⟨p, vs, rfl, e1, q1, n1⟩ := ha.list s d
    exact .inl ⟨_, vs, rfl, .inl (.inl e1), fun p hp => kL _ rfl p _ hp (q1.cut lo hi)⟩
  · cases e
    obtain ⟨p, vs, rfl, e1, q1⟩ := ha.tup
    refine .inr ⟨_, vs, rfl, SqT.more s e1, fun z => ?_, fun z p hp => ?_⟩
    · rw [q1.length] at z
      refine kT _ rfl _ _ _ _ (Nx.refl s d) ?_
      rw [sIx_all _ lo hi z]
      exact .tup e1 q1
    · obtain ⟨n, m⟩ := Nx.tup s d hp (q1.cut lo hi)
      exact kT _ rfl _ _ _ _ n m
  · cases e
theorem slD_form {a b : D} {lo hi : Option Int} (e : slD a lo hi = some b) : (∃ es, b = .list es) ∨ ∃ es, b = .tuple es := by
  unfold slD at e
  split at e
  · cases e; exact .inl ⟨_, rfl⟩
  · cases e; exact .inr ⟨_, rfl⟩
  · cases e
section
variable {lo hi : Option Expr} {fl fh : Env → M (Option Int)}
theorem se_sl (a : SO C X x f) (b : SP' C X lo fl) (c : SP' C X hi fh) : SE C X (.Subscript x (.Slice lo hi none p2) pos) fun env => bnd (f env) fun a => bnd (fl env) fun l => bnd (fh env) fun h => lft (slD a l h) := by
  obtain ⟨ta, pa, qa⟩ := a
  obtain ⟨tb, pb, qb⟩ := b
  obtain ⟨tc, pc, qc⟩ := c
  refine ⟨_, pe_slice slR_ok pa pb pc, fun env ds G r σ H Q S w => ?_⟩
  refine qa env ds G r σ H _ S (wpR_mono (wpR_bnd.mp w) fun a ds1 w1 v G1 r1 H1 n1 h1 => ?_)
  refine qb env ds1 G1 r1 σ H1 _ (n1.sim S) (wpR_mono (wpR_bnd.mp w1) fun b ds2 w2 G2 r2 H2 n2 => ?_)
  refine qc env ds2 G2 r2 σ H2 _ ((n1.trans n2).sim S) (wpR_mono (wpR_bnd.mp w2) fun c ds3 w3 G3 r3 H3 n3 => ?_)
  obtain ⟨d, e, w4⟩ := wpR_lft w3
  have n := (n1.trans n2).trans n3
  refine sl_raw n.s n.d ((h1.more n2).more n3) e (fun es ez p ys hp hq => ?_) fun es ez v' G' r' H' n' m => w4 _ _ _ _ (n.trans n') m
  subst ez
  obtain ⟨n', m⟩ := Nx.lst n.s n.d hp hq
  exact w4 _ _ _ _ (n.trans n') m
theorem sr_sl (a : SO C X x f) (b : SP' C X lo fl) (c : SP' C X hi fh) : SR C X (.Subscript x (.Slice lo hi none p2) pos) fun env => bnd (f env) fun a => bnd (fl env) fun l => bnd (fh env) fun h => lft (slD a l h) := by
  obtain ⟨ta, pa, qa⟩ := a
  obtain ⟨tb, pb, qb⟩ := b
  obtain ⟨tc, pc, qc⟩ := c
  refine ⟨_, pe_slice slR_ok pa pb pc, fun env ds G r σ H Q S w => ?_⟩
  refine qa env ds G r σ H _ S (wpR_mono (wpR_bnd.mp w) fun a ds1 w1 v G1 r1 H1 n1 h1 => ?_)
  refine qb env ds1 G1 r1 σ H1 _ (n1.sim S) (wpR_mono (wpR_bnd.mp w1) fun b ds2 w2 G2 r2 H2 n2 => ?_)
  refine qc env ds2 G2 r2 σ H2 _ ((n1.trans n2).sim S) (wpR_mono (wpR_bnd.mp w2) fun c ds3 w3 G3 r3 H3 n3 => ?_)
  obtain ⟨d, e, es, ed, w4⟩ := wpR_lft w3
  have n := (n1.trans n2).trans n3
  subst ed
  refine sl_raw n.s n.d ((h1.more n2).more n3) e (fun es' ez p ys hp hq => ?_) fun es' ez => by cases ez
  cases ez
  exact w4 p ys _ _ _ n hp hq
end
section
variable {k : Nat} {q1 q2 q3 : Pos}
theorem se_rev (a : SO C X x f) : SE C X (.Subscript x (.Slice none none (some (.UnaryOp .USub (.Constant (.int 1) k q1) q2)) q3) pos) fun env => bnd (f env) fun a => lft (revD a) := by
  obtain ⟨ta, pa, qa⟩ := a
  refine ⟨_, pe_revL pa, fun env ds G r σ H Q S w => ?_⟩
  refine qa env ds G r σ H _ S (wpR_mono (wpR_bnd.mp w) fun a ds1 w1 v G1 r1 H1 n1 h1 => ?_)
  obtain ⟨d, e, w4⟩ := wpR_lft w1
  unfold revD at e
  split at e
  · cases e
    obtain ⟨p, vs, rfl, e1, q1, _⟩ := h1.list n1.s n1.d
    refine ⟨_, vs, rfl, .inl (.inl e1), fun p hp => ?_⟩
    obtain ⟨n', m⟩ := Nx.lst n1.s n1.d hp q1.rev
    exact w4 _ _ _ _ (n1.trans n') m
  · cases e
theorem sr_rev (a : SO C X x f) : SR C X (.Subscript x (.Slice none none (some (.UnaryOp .USub (.Constant (.int 1) k q1) q2)) q3) pos) fun env => bnd (f env) fun a => lft (revD a) := by
  obtain ⟨ta, pa, qa⟩ := a
  refine ⟨_, pe_revL pa, fun env ds G r σ H Q S w => ?_⟩
  refine qa env ds G r σ H _ S (wpR_mono (wpR_bnd.mp w) fun a ds1 w1 v G1 r1 H1 n1 h1 => ?_)
  obtain ⟨d, e, es, ed, w4⟩ := wpR_lft w1
  subst ed
  unfold revD at e
  split at e
  · cases e
    obtain ⟨p, vs, rfl, e1, q1, _⟩ := h1.list n1.s n1.d
    exact ⟨_, vs, rfl, .inl (.inl e1), fun p hp => w4 p _ _ _ _ n1 hp q1.rev⟩
  · cases e
end
end
section
variable {C : Cz} {T : Tb} {X : Cx} {x y : Expr} {f g : Env → M D} {p pos p1 p2 : Pos}
theorem se_emp : SE C X (.Dict [] [] pos) fun _ => ret empD := by
  refine ⟨_, pe_dnewK, fun env ds G r σ H Q S w => fun p hp => ?_⟩
  have k := Nx.new (o := HO.dK []) S.sub S.drw hp
  exact wpR_ret w _ _ _ _ k (.emp upd_same)
theorem lrgD_ok {a b d : D} (e : lrgD a b = some d) : ∃ i j : Int, a = .int i ∧ b = .int j ∧ d = .list (rngD i j) ∧ RgOk i j ∧ (j - i).toNat ≤ sizeLine := by
  unfold lrgD at e
  obtain ⟨i, e1, e0⟩ := Option.bind_eq_some_iff.mp e
  obtain ⟨j, e2, e3⟩ := Option.bind_eq_some_iff.mp e0
  cases asI_some e1
  cases asI_some e2
  clear e e0
  split at e3
  · rename_i h
    cases e3
    simp only [Bool.and_eq_true] at h
    obtain ⟨⟨h1, h2⟩, h3⟩ := h
    unfold rngOk at h1 h2
    simp only [Bool.and_eq_true, decide_eq_true_eq] at h1 h2
    have l := lenOk_of h3
    refine ⟨i, j, rfl, rfl, rfl, ⟨h1.1, h1.2, h2.1, h2.2, ?_⟩, l⟩
    rw [sizeLine_eq] at l
    omega
  · cases e3
theorem rg_all {K : PySem.W.Frag} {G : Hp} {r : Option DA} (i j : Int) : DqAll K G r (rgV i j) (rngD i j) := by
  unfold rgV rngD
  generalize List.range (j - i).toNat = l
  induction l with
  | nil => exact .nil
  | cons n l ih => exact .cons (.int _) ih
theorem se_lrg (hc : X.calm = true) (hg : Gl X "list") (hm : X.mg "list" = none) (hg2 : Gl X "range") (hm2 : X.mg "range" = none) (nx : nst x = true) (ny : nst y = true) (a : SE C X x f) (b : SE C X y g) :
    SE C X (.Call (.Name "list" p1) [.Call (.Name "range" p2) [x, y] [] pos] [] p) fun env => bnd (f env) fun x => bnd (g env) fun y => lft (lrgD x y) := by
  obtain ⟨ta, pa, qa⟩ := a
  obtain ⟨tb, pb, qb⟩ := b
  refine ⟨_, pe_listRg hc hg hm (prg_2 hg2 hm2 pa pb (star_ns nx _ _) (star_ns ny _ _) (nsts_plain (es := [y]) (by simp [nsts, ny]) X.env pos)), fun env ds G r σ H Q S w => ?_⟩
  refine qa env ds G r σ H _ S (wpR_mono (wpR_bnd.mp w) fun a ds1 w1 v G1 r1 H1 n1 h1 => ?_)
  refine qb env ds1 G1 r1 σ H1 _ (n1.sim S) (wpR_mono (wpR_bnd.mp w1) fun b ds2 w2 u G2 r2 H2 n2 h2 => ?_)
  obtain ⟨d, e, w3⟩ := wpR_lft w2
  obtain ⟨i, j, rfl, rfl, rfl, ok, _⟩ := lrgD_ok e
  cases h1
  cases h2
  have n := n1.trans n2
  refine ⟨i, j, rfl, rfl, ok, fun q hq => ?_⟩
  obtain ⟨n', m⟩ := Nx.lst n.s n.d hq (rg_all i j)
  exact w3 _ _ _ _ (n.trans n') m
theorem se_lrg1 (hc : X.calm = true) (hg : Gl X "list") (hm : X.mg "list" = none) (hg2 : Gl X "range") (hm2 : X.mg "range" = none) (nx : nst x = true) (a : SE C X x f) :
    SE C X (.Call (.Name "list" p1) [.Call (.Name "range" p2) [x] [] pos] [] p) fun env => bnd (f env) fun x => lft (lrgD (.int 0) x) := by
  obtain ⟨ta, pa, qa⟩ := a
  refine ⟨_, pe_listRg hc hg hm (prg_1 hg2 hm2 pa (star_ns nx _ _)), fun env ds G r σ H Q S w => ?_⟩
  refine qa env ds G r σ H _ S (wpR_mono (wpR_bnd.mp w) fun a ds1 w1 v G1 r1 H1 n1 h1 => ?_)
  obtain ⟨d, e, w3⟩ := wpR_lft w1
  obtain ⟨i, j, e1, rfl, rfl, ok, _⟩ := lrgD_ok e
  cases e1
  cases h1
  refine ⟨j, rfl, ok, fun q hq => ?_⟩
  obtain ⟨n', m⟩ := Nx.lst n1.s n1.d hq (rg_all 0 j)
  exact w3 _ _ _ _ (n1.trans n') m
end
end Ev

end
section
set_option maxHeartbeats 4000000
/-! # Ev6: calls of built-ins by values -/
namespace Ev
open PySem PySem.Spec L2

/-! ### walks over a tuple of integers -/
section
variable {prog : Program} {w : World} {A : Around} {E : Value → Shared → Prop} {s : Shared} {l : Addr} {xs : Array (Int × Tok)}
theorem iter_intTup {Q : Value → Shared → Prop} (hl : s.heap.IsTuple l (intItems xs))
    (h : ∀ s2 : Shared, s2 = { s with heap := s.heap.push { cls := .type "tuple_iterator", data := .fields #[.ref l, .int 0 0] } } → (s2.heap.IsTupleIter s.heap.objs.size l 0 ∧ s2.heap.IsTuple l (intItems xs)) →
      (∀ b ∈ [s.heap.objs.size, l], b < s2.heap.objs.size) → l ≠ s.heap.objs.size → (∀ b o, s.heap.get? b = some o → s2.heap.get? b = some o) → Q (.ref s.heap.objs.size) s2) : wpAny (model prog w) A (pyIter (.ref l)) Q E s := by
  obtain ⟨o, ho, hc, n, hd⟩ := id hl
  have hlt : l < s.heap.objs.size := Heap.lt_size ho
  refine wpAny_pyIter_tuple hl (h _ rfl ⟨⟨_, Heap.get?_push_size _ rfl, rfl, rfl⟩, ⟨o, Heap.get?_push_of_some _ ho, hc, n, hd⟩⟩ (fun b hb => ?_) (Nat.ne_of_lt hlt) fun b o e => Heap.get?_push_of_some _ e)
  have hs : (s.heap.push { cls := .type "tuple_iterator", data := .fields #[.ref l, .int 0 0] }).objs.size = s.heap.objs.size + 1 := Heap.size_push ..
  have hb' : b = s.heap.objs.size ∨ b = l := by simpa using hb
  show b < (s.heap.push { cls := .type "tuple_iterator", data := .fields #[.ref l, .int 0 0] }).objs.size
  rw [hs]
  have hlt' : (l : Nat) < s.heap.objs.size := hlt
  rcases hb' with z | z
  · rw [z]; exact Nat.lt_succ_self _
  · rw [z]; exact Nat.lt_succ_of_lt hlt'
theorem new_kept {h2 h' : Heap} {I : Addr} (k : ∀ b o, s.heap.get? b = some o → h2.get? b = some o) (hI : s.heap.objs.size ≤ I) (hk : ∀ b o, b ∉ [I] → h2.get? b = some o → h'.get? b = some o) : ∀ b o, s.heap.get? b = some o → h'.get? b = some o := fun b o e => by
  refine hk b o (fun hm => ?_) (k b o e)
  have hb : b = I := by simpa using hm
  have := Heap.lt_size e
  rw [hb] at this
  exact absurd (Nat.lt_of_lt_of_le this hI) (Nat.lt_irrefl _)
theorem sum_intTup {Q : Value → Shared → Prop} (hh : A.handled = none) (hl : s.heap.IsTuple l (intItems xs))
    (h : ∀ h' tk t', (∀ b o, s.heap.get? b = some o → h'.get? b = some o) → Q (.int (preSum (numAt xs) xs.size) t') { s with heap := h', toks := tk }) : wpAny (model prog w) A (call (.builtin "sum") [.ref l]) Q E s := by
  refine call_sum_walkG (iter_intTup hl fun s2 e st hfp hlI k => ?_)
  subst e
  refine ⟨_, _, _, _, _, _, numAt xs, rfl, Walks.tuple (A := A.in1) hh _ l hlI (intItems xs), st, hfp, (fun _ _ => intItems_at), fun h' tk t' hk => ?_⟩
  have := h h' tk t' (new_kept k (Nat.le_refl _) hk)
  simpa [intItems] using this
theorem max_intTup {Q : Value → Shared → Prop} (hh : A.handled = none) (hl : s.heap.IsTuple l (intItems xs)) (hne : 0 < xs.size)
    (h : ∀ v h' tk, (intItems xs)[argBest (fun i j => decide (numAt xs i > numAt xs j)) (xs.size - 1)]? = some v → (∀ b o, s.heap.get? b = some o → h'.get? b = some o) → Q v { s with heap := h', toks := tk }) : wpAny (model prog w) A (call (.builtin "max") [.ref l]) Q E s := by
  refine call_max_walk (iter_intTup hl fun s2 e st hfp hlI k => ?_)
  subst e
  refine ⟨_, _, _, _, _, _, _, rfl, Walks.tuple (A := A.in1) hh _ l hlI (intItems xs), st, hfp, by simpa [intItems] using hne, CmpOf.ints_gt (numAt xs) (fun _ _ => intItems_at), fun v h' tk hP hk => ?_⟩
  exact h v h' tk (by simpa [intItems] using hP) (new_kept k (Nat.le_refl _) hk)
theorem min_intTup {Q : Value → Shared → Prop} (hh : A.handled = none) (hl : s.heap.IsTuple l (intItems xs)) (hne : 0 < xs.size)
    (h : ∀ v h' tk, (intItems xs)[argBest (fun i j => decide (numAt xs i < numAt xs j)) (xs.size - 1)]? = some v → (∀ b o, s.heap.get? b = some o → h'.get? b = some o) → Q v { s with heap := h', toks := tk }) : wpAny (model prog w) A (call (.builtin "min") [.ref l]) Q E s := by
  refine call_min_walk (iter_intTup hl fun s2 e st hfp hlI k => ?_)
  subst e
  refine ⟨_, _, _, _, _, _, _, rfl, Walks.tuple (A := A.in1) hh _ l hlI (intItems xs), st, hfp, by simpa [intItems] using hne, CmpOf.ints_lt (numAt xs) (fun _ _ => intItems_at), fun v h' tk hP hk => ?_⟩
  exact h v h' tk (by simpa [intItems] using hP) (new_kept k (Nat.le_refl _) hk)
end
section
variable {X : Cx}
def rSumT (K : PySem.W.Frag) : List V → Hp → VK → Prop := fun vs H Q => ∃ (a : Addr) (ns : List Int), vs = [V.ref a] ∧ SqT K H a (ns.map V.int) ∧ Q (.int ns.sum) H
def rMaxT (K : PySem.W.Frag) : List V → Hp → VK → Prop := fun vs H Q => ∃ (a : Addr) (ns : List Int), vs = [V.ref a] ∧ SqT K H a (ns.map V.int) ∧ 0 < ns.length ∧ ∀ m, m ∈ ns → (∀ y, y ∈ ns → y ≤ m) → Q (.int m) H
def rMinT (K : PySem.W.Frag) : List V → Hp → VK → Prop := fun vs H Q => ∃ (a : Addr) (ns : List Int), vs = [V.ref a] ∧ SqT K H a (ns.map V.int) ∧ 0 < ns.length ∧ ∀ m, m ∈ ns → (∀ y, y ∈ ns → m ≤ y) → Q (.int m) H
theorem cr_sumT (hc : X.calm = true) : CallR X (.builtin "sum") (rSumT X.K) := by
  intro pins s σ H vs us Q I r h
  obtain ⟨a, ns, rfl, hs, q⟩ := h
  obtain ⟨its, rv, hl, _⟩ := I.tuple hs
  rw [Vals.ref1 r]
  have hi := rv.ints
  obtain ⟨xs, e⟩ := hi.allInts.items
  have hn : numsOf (intItems xs).toList = ns := by rw [← e]; exact hi.numsOf
  rw [nums_intItems] at hn
  have hl' : s.heap.IsTuple a its.toArray := hl
  rw [e] at hl'
  refine sum_intTup (I.ok.hd hc) hl' fun h' tk t' hk => ?_
  rw [preSum_eq, List.take_of_length_le (by simp), hn]
  exact ⟨.int _, H, I.kept hk, ⟨_, rfl⟩, q⟩
theorem cr_maxT (hc : X.calm = true) : CallR X (.builtin "max") (rMaxT X.K) := by
  intro pins s σ H vs us Q I r h
  obtain ⟨a, ns, rfl, hs, hne, q⟩ := h
  obtain ⟨its, rv, hl, _⟩ := I.tuple hs
  rw [Vals.ref1 r]
  have hi := rv.ints
  obtain ⟨xs, e⟩ := hi.allInts.items
  have hn : numsOf (intItems xs).toList = ns := by rw [← e]; exact hi.numsOf
  rw [nums_intItems] at hn
  subst hn
  have hl' : s.heap.IsTuple a its.toArray := hl
  rw [e] at hl'
  refine max_intTup (I.ok.hd hc) hl' (by simpa using hne) fun v h' tk hv hk => ?_
  obtain ⟨t, rfl⟩ := intItems_at hv
  obtain ⟨h1, h2⟩ := argBest_gt (numAt xs) (xs.size - 1)
  have hz : 0 < xs.size := by simpa using hne
  refine ⟨.int _, H, I.kept hk, ⟨_, rfl⟩, q _ ?_ fun y hy => ?_⟩
  · rw [numAt_eq]; exact PySem.getD_mem (by rw [List.length_map, Array.length_toList]; omega)
  · obtain ⟨j, hj, rfl⟩ := mem_getD hy
    rw [List.length_map, Array.length_toList] at hj
    rw [← numAt_eq]; exact h2 j (by omega)
theorem cr_minT (hc : X.calm = true) : CallR X (.builtin "min") (rMinT X.K) := by
  intro pins s σ H vs us Q I r h
  obtain ⟨a, ns, rfl, hs, hne, q⟩ := h
  obtain ⟨its, rv, hl, _⟩ := I.tuple hs
  rw [Vals.ref1 r]
  have hi := rv.ints
  obtain ⟨xs, e⟩ := hi.allInts.items
  have hn : numsOf (intItems xs).toList = ns := by rw [← e]; exact hi.numsOf
  rw [nums_intItems] at hn
  subst hn
  have hl' : s.heap.IsTuple a its.toArray := hl
  rw [e] at hl'
  refine min_intTup (I.ok.hd hc) hl' (by simpa using hne) fun v h' tk hv hk => ?_
  obtain ⟨t, rfl⟩ := intItems_at hv
  obtain ⟨h1, h2⟩ := argBest_lt (numAt xs) (xs.size - 1)
  have hz : 0 < xs.size := by simpa using hne
  refine ⟨.int _, H, I.kept hk, ⟨_, rfl⟩, q _ ?_ fun y hy => ?_⟩
  · rw [numAt_eq]; exact PySem.getD_mem (by rw [List.length_map, Array.length_toList]; omega)
  · obtain ⟨j, hj, rfl⟩ := mem_getD hy
    rw [List.length_map, Array.length_toList] at hj
    rw [← numAt_eq]; exact h2 j (by omega)
theorem cr_repr (hg : X.A.guards = some []) (hu : X.A.units + 66 < cLine) : CallR X (.builtin "repr") (fun vs H Q => ∃ v d, vs = [v] ∧ Dp X.K H v d ∧ reprOk d = true ∧ Q (.str d.shown) H) := by
  intro pins s σ H vs us Q I r h
  obtain ⟨v, d, rfl, hd, ok, q⟩ := h
  obtain ⟨u, rfl, ru⟩ := vals1 r
  simp only [reprOk, Bool.and_eq_true, Bool.not_eq_true', decide_eq_true_eq] at ok
  obtain ⟨⟨⟨o1, o2⟩, o3⟩, o4⟩ := ok
  obtain ⟨as, rd⟩ := Dp.reads I d v u hd ru
  cases hd with
  | non => cases ru; exact P.repr_of_none ⟨.str _, H, I.tok _, ⟨_, rfl⟩, q⟩
  | bl b => cases ru; exact P.repr_of_bool ⟨.str _, H, I.tok _, ⟨_, rfl⟩, q⟩
  | int i =>
    obtain ⟨t, rfl⟩ := ru
    exact P.repr_of_int (by simpa [PyData.showable] using o1) ⟨.str _, H, I.tok _, ⟨_, rfl⟩, q⟩
  | str x =>
    obtain ⟨t, rfl⟩ := ru
    exact P.repr_of_str ⟨.str _, H, I.tok _, ⟨_, rfl⟩, q⟩ (by simpa [PyData.shown] using o4)
  | lst hs ha =>
    cases ru
    refine repr_of_reads' rd o1 (PyData.noDict_hsm o2) hg (by omega) (fun _ _ e => e) (fun h' u tk hk => ⟨.str _, H, I.kept hk, ⟨_, rfl⟩, q⟩) o4
  | tup hs ha =>
    cases ru
    refine repr_of_reads' rd o1 (PyData.noDict_hsm o2) hg (by omega) (fun _ _ e => e) (fun h' u tk hk => ⟨.str _, H, I.kept hk, ⟨_, rfl⟩, q⟩) o4
end
end Ev

end
section
set_option maxHeartbeats 4000000
/-! # Ev7: the built-ins of Bi, isinstance, own defs -/
namespace Ev
open PySem PySem.Spec L2
section
variable {X : Cx}
theorem CallR.or {f : Value} {r r' : List V → Hp → VK → Prop} (h : CallR X f r) (h' : CallR X f r') : CallR X f (fun xs H Q => r xs H Q ∨ r' xs H Q) := by
  intro pins s σ H xs us Q I rv q
  rcases q with q | q
  · exact h pins s σ H xs us Q I rv q
  · exact h' pins s σ H xs us Q I rv q
def biN : Bi → Str
  | .abs => "abs"
  | .gcd => "gcd"
  | .int => "int"
  | .len => "len"
  | .list => "list"
  | .tuple => "tuple"
  | .max2 => "max"
  | .min2 => "min"
  | .max1 => "max"
  | .min1 => "min"
  | .sum => "sum"
  | .repr => "repr"
def biV : Bi → Value
  | .abs => .builtin "abs"
  | .gcd => .builtin "math.gcd"
  | .int => .type "int"
  | .len => .builtin "len"
  | .list => .type "list"
  | .tuple => .type "tuple"
  | .max2 => .builtin "max"
  | .min2 => .builtin "min"
  | .max1 => .builtin "max"
  | .min1 => .builtin "min"
  | .sum => .builtin "sum"
  | .repr => .builtin "repr"
def biR (K : PySem.W.Frag) : Bi → List V → Hp → VK → Prop
  | .abs => fun xs H Q => ∃ i, xs = [.int i] ∧ Q (.int (if i < 0 then -i else i)) H
  | .gcd => rGcd
  | .int => fun xs H Q => (∃ i, xs = [.int i] ∧ Q (.int i) H) ∨ ∃ k, xs = [.bl k] ∧ Q (.int (if k then 1 else 0)) H
  | .len => fun xs H Q => ∃ p ys, xs = [.ref p] ∧ (SqL K H p ys ∨ SqT K H p ys) ∧ Q (.int ys.length) H
  | .list => fun xs H Q => ∃ p ys, xs = [.ref p] ∧ (SqL K H p ys ∨ SqT K H p ys) ∧ ∀ l, H l = none → Q (.ref l) (upd H l (.lst ys))
  | .tuple => fun xs H Q => ∃ p ys, xs = [.ref p] ∧ ((SqL K H p ys ∧ ∀ l, H l = none → Q (.ref l) (upd H l (.tup ys))) ∨ (SqT K H p ys ∧ Q (.ref p) H))
  | .max2 => fun xs H Q => ∃ i j, xs = [.int i, .int j] ∧ Q (.int (if j > i then j else i)) H
  | .min2 => fun xs H Q => ∃ i j, xs = [.int i, .int j] ∧ Q (.int (if j < i then j else i)) H
  | .max1 => fun xs H Q => rMax K xs H Q ∨ rMaxT K xs H Q
  | .min1 => fun xs H Q => rMin K xs H Q ∨ rMinT K xs H Q
  | .sum => fun xs H Q => rSum K xs H Q ∨ rSumT K xs H Q
  | .repr => fun vs H Q => ∃ v d, vs = [v] ∧ Dp K H v d ∧ reprOk d = true ∧ Q (.str d.shown) H
theorem biR_ok (hc : X.calm = true) (hg : X.A.guards = some []) (hu : X.A.units + 66 < cLine) : ∀ b : Bi, CallR X (biV b) (biR X.K b)
  | .abs => call_abs
  | .gcd => cr_gcd
  | .int => call_int1
  | .len => call_len_seq
  | .list => call_list_of
  | .tuple => call_tuple_of
  | .max2 => call_max2 hc
  | .min2 => call_min2 hc
  | .max1 => (cr_max hc).or (cr_maxT hc)
  | .min1 => (cr_min hc).or (cr_minT hc)
  | .sum => (cr_sum hc).or (cr_sumT hc)
  | .repr => cr_repr hg hu
/-! ### least and greatest by folds -/
theorem maxI_ge : ∀ (xs : List Int) (x : Int), x ≤ maxI x xs ∧ (maxI x xs = x ∨ maxI x xs ∈ xs) ∧ ∀ y ∈ xs, y ≤ maxI x xs
  | [], x => ⟨Int.le_refl x, .inl rfl, fun y hy => by cases hy⟩
  | z :: zs, x => by
    have h := maxI_ge zs (if x < z then z else x)
    have e : maxI x (z :: zs) = maxI (if x < z then z else x) zs := rfl
    rw [e]
    obtain ⟨h1, h2, h3⟩ := h
    by_cases c : x < z
    · rw [if_pos c] at *
      refine ⟨by omega, ?_, fun y hy => ?_⟩
      · rcases h2 with q | q
        · exact .inr (by rw [q]; exact List.mem_cons_self)
        · exact .inr (List.mem_cons_of_mem _ q)
      · rcases List.mem_cons.mp hy with q | q
        · rw [q]; exact h1
        · exact h3 y q
    · rw [if_neg c] at *
      refine ⟨h1, ?_, fun y hy => ?_⟩
      · rcases h2 with q | q
        · exact .inl q
        · exact .inr (List.mem_cons_of_mem _ q)
      · rcases List.mem_cons.mp hy with q | q
        · rw [q]; omega
        · exact h3 y q
theorem minI_le : ∀ (xs : List Int) (x : Int), minI x xs ≤ x ∧ (minI x xs = x ∨ minI x xs ∈ xs) ∧ ∀ y ∈ xs, minI x xs ≤ y
  | [], x => ⟨Int.le_refl x, .inl rfl, fun y hy => by cases hy⟩
  | z :: zs, x => by
    have h := minI_le zs (if z < x then z else x)
    have e : minI x (z :: zs) = minI (if z < x then z else x) zs := rfl
    rw [e]
    obtain ⟨h1, h2, h3⟩ := h
    by_cases c : z < x
    · rw [if_pos c] at *
      refine ⟨by omega, ?_, fun y hy => ?_⟩
      · rcases h2 with q | q
        · exact .inr (by rw [q]; exact List.mem_cons_self)
        · exact .inr (List.mem_cons_of_mem _ q)
      · rcases List.mem_cons.mp hy with q | q
        · rw [q]; exact h1
        · exact h3 y q
    · rw [if_neg c] at *
      refine ⟨h1, ?_, fun y hy => ?_⟩
      · rcases h2 with q | q
        · exact .inl q
        · exact .inr (List.mem_cons_of_mem _ q)
      · rcases List.mem_cons.mp hy with q | q
        · rw [q]; omega
        · exact h3 y q
theorem max_is {ns : List Int} {x m : Int} {xs : List Int} (e : ns = x :: xs) (h1 : m ∈ ns) (h2 : ∀ y, y ∈ ns → y ≤ m) : m = maxI x xs := by
  subst e
  obtain ⟨a, b, c⟩ := maxI_ge xs x
  have l : m ≤ maxI x xs := by
    rcases List.mem_cons.mp h1 with q | q
    · rw [q]; exact a
    · exact c m q
  have u : maxI x xs ≤ m := by
    rcases b with q | q
    · rw [q]; exact h2 x List.mem_cons_self
    · exact h2 _ (List.mem_cons_of_mem _ q)
  omega
theorem min_is {ns : List Int} {x m : Int} {xs : List Int} (e : ns = x :: xs) (h1 : m ∈ ns) (h2 : ∀ y, y ∈ ns → m ≤ y) : m = minI x xs := by
  subst e
  obtain ⟨a, b, c⟩ := minI_le xs x
  have l : minI x xs ≤ m := by
    rcases List.mem_cons.mp h1 with q | q
    · rw [q]; exact a
    · exact c m q
  have u : m ≤ minI x xs := by
    rcases b with q | q
    · rw [q]; exact h2 x List.mem_cons_self
    · exact h2 _ (List.mem_cons_of_mem _ q)
  omega
section
variable {K : PySem.W.Frag} {G H : Hp} {r : Option DA} {ds : Option DS} {vs : List V}
theorem DqOs.one {d : D} (h : DqOs K G r H vs [d]) : ∃ v, vs = [v] ∧ DqO K G r H v d := by
  cases h with
  | cons a b => cases b; exact ⟨_, rfl, a⟩
theorem DqOs.two {d e : D} (h : DqOs K G r H vs [d, e]) : ∃ v u, vs = [v, u] ∧ DqO K G r H v d ∧ DqO K G r H u e := by
  cases h with
  | cons a b =>
    obtain ⟨u, rfl, q⟩ := b.one
    exact ⟨_, u, rfl, a, q⟩
end
/-- what a built-in answers -/
theorem bi_raw (b : Bi) {es : List D} {d : D} {vs : List V} {ds : Option DS} {G H : Hp} {r : Option DA} {Q : VK} (s : Same G H) (dr : DrOk ds G r H) (ha : DqOs X.K G r H vs es) (e : biD b es = some d)
    (kL : ∀ fs, b = .list → d = .list fs → ∀ p ys, H p = none → DqAll X.K G r ys fs → Q (.ref p) (upd H p (.lst ys))) (k : b ≠ .list → ∀ v' G' r' H', Nx G r H ds G' r' H' → Dq X.K G' r' v' d → Q v' H') : biR X.K b vs H Q := by
  have done : ∀ {v' : V}, b ≠ .list → Dq X.K G r v' d → Q v' H := fun {v'} n m => k n v' G r H (Nx.refl s dr) m
  unfold biD at e
  split at e
  · cases e; obtain ⟨v, rfl, q⟩ := ha.one; cases q.int
    exact ⟨_, rfl, done (by decide) (.int _)⟩
  · cases e; obtain ⟨v, u, rfl, q, q2⟩ := ha.two; cases q.int; cases q2.int
    exact ⟨_, _, rfl, done (by decide) (.int _)⟩
  · cases e; obtain ⟨v, rfl, q⟩ := ha.one; cases q.int
    exact .inl ⟨_, rfl, done (by decide) (.int _)⟩
  · cases e; obtain ⟨v, rfl, q⟩ := ha.one; cases q.bl
    exact .inr ⟨_, rfl, done (by decide) (.int _)⟩
  · cases e; obtain ⟨v, rfl, q⟩ := ha.one; obtain ⟨p, ws, rfl, e1, q1, n1⟩ := q.list s dr
    exact ⟨_, ws, rfl, .inl (.inl (.inl e1)), by rw [q1.length]; exact done (by decide) (.int _)⟩
  · cases e; obtain ⟨v, rfl, q⟩ := ha.one; obtain ⟨p, ws, rfl, e1, q1⟩ := q.tup
    exact ⟨_, ws, rfl, .inr (SqT.more s e1), by rw [q1.length]; exact done (by decide) (.int _)⟩
  · cases e; obtain ⟨v, rfl, q⟩ := ha.one; obtain ⟨p, ws, rfl, e1, q1, n1⟩ := q.list s dr
    exact ⟨_, ws, rfl, .inl (.inl (.inl e1)), fun l hl => kL _ rfl rfl l _ hl q1⟩
  · cases e; obtain ⟨v, rfl, q⟩ := ha.one; obtain ⟨p, ws, rfl, e1, q1⟩ := q.tup
    exact ⟨_, ws, rfl, .inr (SqT.more s e1), fun l hl => kL _ rfl rfl l _ hl q1⟩
  · cases e; obtain ⟨v, rfl, q⟩ := ha.one; obtain ⟨p, ws, rfl, e1, q1, n1⟩ := q.list s dr
    refine ⟨_, ws, rfl, .inl ⟨.inl (.inl e1), fun l hl => ?_⟩⟩
    obtain ⟨n, m⟩ := Nx.tup s dr hl q1
    exact k (by decide) _ _ _ _ n m
  · cases e; obtain ⟨v, rfl, q⟩ := ha.one; obtain ⟨p, ws, rfl, e1, q1⟩ := q.tup
    exact ⟨_, ws, rfl, .inr ⟨SqT.more s e1, done (by decide) (.tup e1 q1)⟩⟩
  · cases e; obtain ⟨v, u, rfl, q, q2⟩ := ha.two; cases q.int; cases q2.int
    exact ⟨_, _, rfl, done (by decide) (.int _)⟩
  · cases e; obtain ⟨v, u, rfl, q, q2⟩ := ha.two; cases q.int; cases q2.int
    exact ⟨_, _, rfl, done (by decide) (.int _)⟩
  · obtain ⟨v, rfl, q⟩ := ha.one; obtain ⟨p, ws, rfl, e1, q1, n1⟩ := q.list s dr
    unfold maxD at e
    split at e
    · rename_i i is ez
      cases e
      have ew := q1.ints ez
      subst ew
      refine .inl ⟨_, _, rfl, .inl (.inl e1), by simp, fun m h1 h2 => ?_⟩
      rw [max_is rfl h1 h2]
      exact done (by decide) (.int _)
    · cases e
  · obtain ⟨v, rfl, q⟩ := ha.one; obtain ⟨p, ws, rfl, e1, q1⟩ := q.tup
    unfold maxD at e
    split at e
    · rename_i i is ez
      cases e
      have ew := q1.ints ez
      subst ew
      refine .inr ⟨_, _, rfl, SqT.more s e1, by simp, fun m h1 h2 => ?_⟩
      rw [max_is rfl h1 h2]
      exact done (by decide) (.int _)
    · cases e
  · obtain ⟨v, rfl, q⟩ := ha.one; obtain ⟨p, ws, rfl, e1, q1, n1⟩ := q.list s dr
    unfold minD at e
    split at e
    · rename_i i is ez
      cases e
      have ew := q1.ints ez
      subst ew
      refine .inl ⟨_, _, rfl, .inl (.inl e1), by simp, fun m h1 h2 => ?_⟩
      rw [min_is rfl h1 h2]
      exact done (by decide) (.int _)
    · cases e
  · obtain ⟨v, rfl, q⟩ := ha.one; obtain ⟨p, ws, rfl, e1, q1⟩ := q.tup
    unfold minD at e
    split at e
    · rename_i i is ez
      cases e
      have ew := q1.ints ez
      subst ew
      refine .inr ⟨_, _, rfl, SqT.more s e1, by simp, fun m h1 h2 => ?_⟩
      rw [min_is rfl h1 h2]
      exact done (by decide) (.int _)
    · cases e
  · obtain ⟨v, rfl, q⟩ := ha.one; obtain ⟨p, ws, rfl, e1, q1, n1⟩ := q.list s dr
    unfold sumD at e
    obtain ⟨is, ez, rfl⟩ := Option.map_eq_some_iff.mp e
    have ew := q1.ints ez
    subst ew
    exact .inl ⟨_, _, rfl, .inl (.inl e1), done (by decide) (.int _)⟩
  · obtain ⟨v, rfl, q⟩ := ha.one; obtain ⟨p, ws, rfl, e1, q1⟩ := q.tup
    unfold sumD at e
    obtain ⟨is, ez, rfl⟩ := Option.map_eq_some_iff.mp e
    have ew := q1.ints ez
    subst ew
    exact .inr ⟨_, _, rfl, SqT.more s e1, done (by decide) (.int _)⟩
  · obtain ⟨v, rfl, q⟩ := ha.one
    split at e
    · rename_i ok
      cases e
      have ok' := ok
      simp only [reprOk, Bool.and_eq_true, Bool.not_eq_true', decide_eq_true_eq] at ok'
      have nd := ok'.1.1.2
      exact ⟨_, _, rfl, q.dp s nd, ok, done (by decide) (.str _)⟩
    · cases e
  · cases e
end
section
variable {C : Cz} {T : Tb} {X : Cx} {x : Expr} {xs : List Expr} {F : Env → M (List D)} {pos p : Pos}
theorem bi_boot : ∀ b : Bi, b ≠ .gcd → biN b ∈ bnames ∧ bootBuiltins (biN b) = some (biV b) ∧ biN b ≠ "__name__" ∧ (biN b == ("__debug__" : Str)) = false := by
  intro b hb
  cases b <;> first | exact absurd rfl hb | decide +kernel
theorem pe_bi (h : XOk C T X) (b : Bi) (hq : b = .gcd → C.gcd = true) (hg : gl C (biN b) = true) (hn : nsts (x :: xs) = true) {t : TA} (pa : PA X (x :: xs) t) : PE X (.Call (.Name (biN b) p) (x :: xs) [] pos) (tCB (biR X.K b) t) := by
  have hu : X.A.units + 66 < cLine := by have := h.room.un; omega
  have hc := biR_ok (X := X) h.calm h.grd hu b
  have hn2 : nst x = true ∧ nsts xs = true := by simpa [nsts] using hn
  have he := star_ns hn2.1 xs X.env
  have hpl := nsts_plain hn2.2 X.env pos
  by_cases hb : b = .gcd
  · subst hb
    exact pe_callBfun hc (gl_ok h hg) (h.gcd (hq rfl)) pa (by decide +kernel) he hpl
  · obtain ⟨h1, h2, h3, h4⟩ := bi_boot b hb
    have hm := h.bl _ h1
    cases b with
    | gcd => exact absurd rfl hb
    | int => exact pe_callTy hc (gl_ok h hg) hm h2 pa h3 h4 he hpl
    | list => exact pe_callTy hc (gl_ok h hg) hm h2 pa h3 h4 he hpl
    | tuple => exact pe_callTy hc (gl_ok h hg) hm h2 pa h3 h4 he hpl
    | _ => exact pe_callB hc (gl_ok h hg) hm h2 pa h3 h4 he hpl
theorem se_bi (h : XOk C T X) (b : Bi) (hq : b = .gcd → C.gcd = true) (hb : b ≠ .list) (hg : gl C (biN b) = true) (hn : nsts (x :: xs) = true) (a : SAO C X (x :: xs) F) : SE C X (.Call (.Name (biN b) p) (x :: xs) [] pos) fun env => bnd (F env) fun es => lft (biD b es) := by
  obtain ⟨t, pa, q⟩ := a
  refine ⟨_, pe_bi h b hq hg hn pa, fun env ds G r σ H Q S w => ?_⟩
  refine q env ds G r σ H _ S (wpR_mono (wpR_bnd.mp w) fun es ds1 w1 vs G1 r1 H1 n1 h1 => ?_)
  obtain ⟨d, e, w2⟩ := wpR_lft w1
  exact bi_raw b n1.s n1.d h1 e (fun fs hb' => absurd hb' hb) fun _ v' G' r' H' n m => w2 v' G' r' H' (n1.trans n) m
theorem sr_bi (h : XOk C T X) (hg : gl C (biN .list) = true) (hn : nsts (x :: xs) = true) (a : SAO C X (x :: xs) F) : SR C X (.Call (.Name (biN .list) p) (x :: xs) [] pos) fun env => bnd (F env) fun es => lft (biD .list es) := by
  obtain ⟨t, pa, q⟩ := a
  refine ⟨_, pe_bi h .list (fun z => by cases z) hg hn pa, fun env ds G r σ H Q S w => ?_⟩
  refine q env ds G r σ H _ S (wpR_mono (wpR_bnd.mp w) fun es ds1 w1 vs G1 r1 H1 n1 h1 => ?_)
  obtain ⟨d, e, fs, ed, w2⟩ := wpR_lft w1
  exact bi_raw .list n1.s n1.d h1 e (fun fs' _ ed' p ys hp hq => by
    rw [ed] at ed'
    cases ed'
    exact w2 p ys _ _ _ n1 hp hq) fun hb => absurd rfl hb
end
end Ev

end
section
set_option maxHeartbeats 4000000
/-! # Ev8: isinstance; calls of own defs, by place and by name -/
namespace Ev
open PySem PySem.Spec L2
def tyN : Ty → String
  | .int => "int"
  | .bool => "bool"
  | .str => "str"
  | .tuple => "tuple"
  | .list => "list"
/-- the name of a datum's type -/
def dTy : D → Option String
  | .none => some "NoneType"
  | .bool _ => some "bool"
  | .int _ => some "int"
  | .str _ => some "str"
  | .list _ => some "list"
  | .tuple _ => some "tuple"
  | .dict ps => if isEmp ps then some "dict" else none
theorem isiD_kit {t : Ty} {d : D} {b : Bool} (e : isiD t d = some b) : ∃ n, dTy d = some n ∧ kitB n (tyN t) = some b := by
  cases d with
  | dict ps =>
    have e' : (if isEmp ps then some false else none) = some b := e
    have f' : dTy (.dict ps) = if isEmp ps then some "dict" else none := rfl
    by_cases z : isEmp ps = true
    · rw [if_pos z] at e' f'
      cases e'
      refine ⟨_, f', ?_⟩
      cases t <;> decide +kernel
    · rw [if_neg z] at e'
      cases e'
  | _ => cases t <;> (cases e <;> exact ⟨_, rfl, by decide +kernel⟩)
section
variable {K : PySem.W.Frag} {G H : Hp} {r : Option DA}
theorem DqO.tyx {v : V} {d : D} {n : String} (h : DqO K G r H v d) (s : Same G H) (e : dTy d = some n) : TyX K H v (.type n) := by
  cases d with
  | none => cases e; cases h.non; exact .base .non
  | bool b => cases e; cases h.bl; exact .base (.bl b)
  | int i => cases e; cases h.int; exact .base (.int i)
  | str x => cases e; cases h.str; exact .base (.str x)
  | list es =>
    cases e
    rcases h with h | ⟨fs, ef, a, xs, rfl, e2, _⟩
    · cases h with
      | lst e q => exact .base (.lst (s _ _ e))
    · exact .base (.lst e2)
  | tuple es =>
    cases e
    obtain ⟨a, xs, rfl, h1, h2⟩ := h.tup
    rcases h1 with (h1 | ⟨o, h1⟩) | ⟨o, its, m, h1, h2, _⟩
    · exact .base (.tup (s _ _ h1))
    · exact .fTuple (s _ _ h1)
    · exact .kTuple h1 h2
  | dict ps =>
    have e' : (if isEmp ps then some "dict" else none) = some n := e
    by_cases z : isEmp ps = true
    · rw [if_pos z] at e'
      cases e'
      rcases h with h | ⟨es, z2, _⟩
      · cases h with
        | emp q => exact .base (.dK (s _ _ q))
        | drw => exact absurd z (by decide)
        | scr0 => exact absurd z (by decide)
        | scr => exact absurd z (by
            intro y
            unfold isEmp at y
            split at y
            · rename_i w
              simp at w
            · cases y)
      · cases z2
    · rw [if_neg z] at e'
      cases e'
end
section
variable {C : Cz} {T : Tb} {X : Cx} {x : Expr} {xs : List Expr} {f : Env → M D} {F : Env → M (List D)} {pos p p2 : Pos}
theorem ty_boot : ∀ t : Ty, (Str.ofString (tyN t)) ∈ bnames ∧ bootBuiltins (Str.ofString (tyN t)) = some (.type (tyN t)) ∧ Str.ofString (tyN t) ≠ "__name__" ∧ (Str.ofString (tyN t) == ("__debug__" : Str)) = false := by
  intro t
  cases t <;> decide +kernel
theorem isi_raw {t : Ty} (h : XOk C T X) (hg : gl C "isinstance" = true) (hg2 : gl C (Str.ofString (tyN t)) = true) (hn : nst x = true) {ta : TE} (pa : PE X x ta) :
    PE X (.Call (.Name "isinstance" p) [x, .Name (Str.ofString (tyN t)) p2] [] pos) (tCB (rIsi X.K) (tCons ta (tCons (tC (.ty (tyN t))) tNil))) := by
  obtain ⟨h1, h2, h3, h4⟩ := ty_boot t
  have pt : PE X (.Name (Str.ofString (tyN t)) p2) (tC (.ty (tyN t))) := pe_bltn (gl_ok h hg2) (h.bl _ h1) h2 rfl h3 h4
  exact pe_callB call_isi (gl_ok h hg) (h.bl _ (by decide +kernel)) (by decide +kernel) (pa_cons pa (pa_cons pt pa_nil) (star_ns hn _ _)) (by decide +kernel) (by decide +kernel) (star_ns hn _ _) (nsts_plain (es := [.Name (Str.ofString (tyN t)) p2]) rfl X.env pos)
theorem se_isi {t : Ty} (h : XOk C T X) (hg : gl C "isinstance" = true) (hg2 : gl C (Str.ofString (tyN t)) = true) (hn : nst x = true) (a : SO C X x f) :
    SE C X (.Call (.Name "isinstance" p) [x, .Name (Str.ofString (tyN t)) p2] [] pos) fun env => bnd (f env) fun x => lft ((isiD t x).map .bool) := by
  obtain ⟨ta, pa, q⟩ := a
  refine ⟨_, isi_raw h hg hg2 hn pa, fun env ds G r σ H Q S w => ?_⟩
  refine q env ds G r σ H _ S (wpR_mono (wpR_bnd.mp w) fun a ds1 w1 v G1 r1 H1 n1 h1 => ?_)
  obtain ⟨d, e, w2⟩ := wpR_lft w1
  obtain ⟨b, e1, rfl⟩ := Option.map_eq_some_iff.mp e
  obtain ⟨n, e2, e3⟩ := isiD_kit e1
  exact ⟨v, .ty (tyN t), .type n, .type (tyN t), b, rfl, .ty _, h1.tyx n1.s e2, kit_ty e3, w2 _ _ _ _ n1 (.bl b)⟩

/-! ### own defs -/
/-- what a call hands over -/
def spG (K : PySem.W.Frag) (fn : Fn) (vs : List V) (H : Hp) (Q : VK) : Prop := ∃ (xs : List D) (ds : Option DS) (G : Hp) (r : Option DA), xs.length = fn.ps.length ∧ Same G H ∧ DrOk ds G r H ∧ DqAll K G r vs xs ∧
  wpR (fn.m xs ds) (fun d ds' => ∀ v G' r' H', Nx G r H ds' G' r' H' → Dq K G' r' v d → Q v H')
theorem fn_run {k : Nat} {a : Addr} {fd : FuncData} {fn : Fn} {pins : List (Addr × Obj)} {s : Shared} {σ : St} {H : Hp} {Q : VK} {args : Args} {us : List Value} {vs : List V} (grd : X.A.guards = some []) (room : Room k X.A)
    (g : FnG X.prog X.w X.K X.mg X.base k a fd fn) (b : BindsTo s fd args (fn.ps.zip us)) (rv : Vals vs us) (I : L2.Inv X pins σ H s) (sp : spG X.K fn vs H Q) :
    wpAny (model X.prog X.w) X.A (call (.ref a) args.pos args.kw) (EP X pins σ Q) X.xe s := by
  obtain ⟨xs, ds, G, r, l, sm, dr, q, w⟩ := sp
  refine wpAny_call (codeAny_mono (g.run X.A X.stack s H args us vs Q xs ds G r room grd I.env0 b rv l sm dr q w) fun res s' hq => ?_)
  match res, hq with
  | .ok (.ret u), hq => exact I.after hq
def tCallG (K : PySem.W.Frag) (fn : Fn) (t : TA) : TE := fun σ H Q => t σ H fun vs H1 => spG K fn vs H1 Q
theorem pe_callG {fn : Fn} {t : TA} {n : Str} (h : XOk C T X) (hf : FnH X fn) (en : n = fn.name) (hg : gl C n = true) (hd : (n == ("__debug__" : Str)) = false) (hn : nsts (x :: xs) = true) (pa : PA X (x :: xs) t) : PE X (.Call (.Name n p) (x :: xs) [] pos) (tCallG X.K fn t) := by
  subst en
  obtain ⟨k, a, fd, room, g, b, m, kp⟩ := hf.ex
  refine ⟨fun pins s σ H Q I w => wpAny_Call_Name_kw (ld_glob I (gl_ok h hg) m ?_ hd)⟩
  have fin : ∀ {us : List Value} {vs : List V} {s1 : Shared} {H1 : Hp}, L2.Inv X pins σ H1 s1 → Vals vs us → spG X.K fn vs H1 Q → wpAny (model X.prog X.w) X.A (call (.ref a) us) (EP X pins σ Q) X.xe s1 := fun {us vs s1 H1} I1 rv sp => by
    have l : us.length = fn.ps.length := by
      obtain ⟨ys, _, _, _, l, _, _, q, _⟩ := id sp
      rw [← rv.length, q.length, l]
    exact fn_run (args := ⟨us, []⟩) h.grd room g (b.pos s1 us l) rv I1 sp
  have hn2 : nst x = true ∧ nsts xs = true := by simpa [nsts] using hn
  refine PySem.W.callWith_K (h₀ := X.base) I.ok.mod.kin kp ?_ (star_ns hn2.1 xs X.env) (nsts_plain hn2.2 X.env pos)
  exact thn (pa.run pos pins s σ H _ I w) fun us s1 q => by
    obtain ⟨vs, H1, I1, rv, sp⟩ := q
    exact ⟨I1.kIn, fin I1 rv sp⟩
theorem pe_callG0 {fn : Fn} {n : Str} (h : XOk C T X) (hf : FnH X fn) (en : n = fn.name) (hg : gl C n = true) (hd : (n == ("__debug__" : Str)) = false) : PE X (.Call (.Name n p) [] [] pos) fun _ H Q => spG X.K fn [] H Q := by
  subst en
  obtain ⟨k, a, fd, room, g, b, m, kp⟩ := hf.ex
  refine ⟨fun pins s σ H Q I sp => wpAny_Call_Name_kw (ld_glob I (gl_ok h hg) m ?_ hd)⟩
  refine PySem.W.callWith_K0 I.kIn kp ?_
  have l : ([] : List Value).length = fn.ps.length := by
    obtain ⟨ys, _, _, _, l, _, _, q, _⟩ := id sp
    have := q.length
    simp at this ⊢
    omega
  exact fn_run (args := ⟨[], []⟩) h.grd room g (b.pos s [] l) .nil I sp
theorem argsOf_nil {α : Type} {n : Nat} {xs as : List α} (e : argsOf n xs [] = some as) : as = xs ∧ xs.length = n := by
  unfold argsOf at e
  split at e
  · rename_i h
    simp [kwRow] at e
    exact ⟨e.symm, by simpa using h⟩
  · cases e
/-- f(e, ..) -/
theorem se_call {fn : Fn} {n : Str} (h : XOk C T X) (hf : FnH X fn) (en : n = fn.name) (hg : gl C n = true) (hd : (n == ("__debug__" : Str)) = false) (hn : nsts (x :: xs) = true) (a : SA C X (x :: xs) F) :
    SE C X (.Call (.Name n p) (x :: xs) [] pos) fun env => bnd (F env) fun ys => bnd (ret []) fun kv => bnd (lft (argsOf fn.ps.length ys kv)) fn.m := by
  obtain ⟨t, pa, q⟩ := a
  refine ⟨_, pe_callG h hf en hg hd hn pa, fun env ds G r σ H Q S w => ?_⟩
  refine q env ds G r σ H _ S (wpR_mono (wpR_bnd.mp w) fun es ds1 w1 vs G1 r1 H1 n1 h1 => ?_)
  obtain ⟨as, e, w2⟩ := wpR_lft (wpR_bnd.mp w1)
  obtain ⟨rfl, l⟩ := argsOf_nil e
  exact ⟨as, ds1, G1, r1, l, n1.s, n1.d, h1, wpR_mono w2 fun d ds' k v G' r' H' n2 m => k v G' r' H' (n1.trans n2) m⟩

/-! ### a call to which one's own lists are lent -/
theorem SqT.less {K : PySem.W.Frag} {G G3 : Hp} {a : Addr} {xs : List V} (k : ∀ b, G3 b = G b ∨ ∃ ys, G b = some (.lst ys)) (h : SqT K G a xs) : SqT K G3 a xs := by
  have at_ : ∀ b o, G b = some o → (∀ ys, o ≠ .lst ys) → G3 b = some o := fun b o e n => by
    rcases k b with z | ⟨ys, z⟩
    · rw [z]; exact e
    · rw [z] at e; cases e; exact absurd rfl (n ys)
  rcases h with (h | ⟨o, h⟩) | h
  · exact .inl (.inl (at_ _ _ h fun ys z => by cases z))
  · exact .inl (.inr ⟨o, at_ _ _ h fun ys z => by cases z⟩)
  · exact .inr h
mutual
theorem Dq.less {K : PySem.W.Frag} {G G3 : Hp} {r : Option DA} (k : ∀ b, G3 b = G b ∨ ∃ ys, G b = some (.lst ys)) : ∀ (d : D) (v : V), Dq K G r v d → noL d = true → Dq K G3 r v d
  | .none, _, .non, _ => .non
  | .bool _, _, .bl b, _ => .bl b
  | .int _, _, .int i, _ => .int i
  | .str _, _, .str x, _ => .str x
  | .list ds, _, .lst h t, n => by simp [noL] at n
  | .tuple ds, _, .tup h t, n => .tup (SqT.less k h) (DqAll.less k ds _ t (by simpa [noL] using n))
  | .dict _, _, _, n => by simp [noL] at n
theorem DqAll.less {K : PySem.W.Frag} {G G3 : Hp} {r : Option DA} (k : ∀ b, G3 b = G b ∨ ∃ ys, G b = some (.lst ys)) : ∀ (ds : List D) (vs : List V), DqAll K G r vs ds → noLs ds = true → DqAll K G3 r vs ds
  | [], _, .nil, _ => .nil
  | d :: ds, _, .cons h t, n => by
    have n' : noL d = true ∧ noLs ds = true := by simpa [noLs] using n
    exact .cons (Dq.less k d _ h n'.1) (DqAll.less k ds _ t n'.2)
end
/-- the part of the heap in which the lent lists are data -/
structure Lent (K : PySem.W.Frag) (G : Hp) (r : Option DA) (H : Hp) (vs : List V) (ds : List D) (G2 : Hp) : Prop where
  q : DqAll K G2 r vs ds
  g : Same G G2
  s : Same G2 H
  l : ∀ b, G b = none → G2 b ≠ none → (∃ ys, H b = some (.lst ys)) ∧ notDA r b
theorem DqOs.lent {K : PySem.W.Frag} {G H : Hp} {r : Option DA} {vs : List V} {ds : List D} (h : DqOs K G r H vs ds) (s : Same G H) : ∃ G2, Lent K G r H vs ds G2 := by
  induction h with
  | nil => exact ⟨G, .nil, Same.refl G, s, fun b e n => absurd e n⟩
  | @cons v vs d ds a _ ih =>
    obtain ⟨G2, L⟩ := ih
    rcases a with a | ⟨es, rfl, p, xs, rfl, e2, e3, e4⟩
    · exact ⟨G2, .cons (a.more L.g (.inr rfl)) L.q, L.g, L.s, L.l⟩
    · have g3 : Same G2 (upd G2 p (.lst xs)) := fun b o e => by
        by_cases z : b = p
        · subst z
          have := L.s _ _ e
          rw [e2] at this
          cases this
          exact upd_same
        · rw [upd_ne z]; exact e
      refine ⟨upd G2 p (.lst xs), .cons (.lst upd_same (e3.more (L.g.trans g3) (.inr rfl))) (L.q.more g3 (.inr rfl)), L.g.trans g3, fun b o e => ?_, fun b e n => ?_⟩
      · by_cases z : b = p
        · subst z; rw [upd_same] at e; cases e; exact e2
        · rw [upd_ne z] at e; exact L.s _ _ e
      · by_cases z : b = p
        · subst z; exact ⟨⟨xs, e2⟩, e4⟩
        · rw [upd_ne z] at n; exact L.l b e n
theorem Lent.drw {K : PySem.W.Frag} {G H G2 : Hp} {r : Option DA} {vs : List V} {es : List D} {ds : Option DS} (L : Lent K G r H vs es G2) (d : DrOk ds G r H) : DrOk ds G2 r H := by
  cases r with
  | none =>
    cases ds with
    | none => trivial
    | some s => exact d.elim
  | some x =>
    cases ds with
    | none => exact d.elim
    | some s =>
      obtain ⟨m1, m2, m3, ne, n1, n2, n3⟩ := d
      have out : ∀ a, G a = none → ¬ notDA (some x) a → G2 a = none := fun a e n => by
        cases q : G2 a with
        | none => rfl
        | some o => exact absurd (L.l a e (by rw [q]; simp)).2 n
      exact ⟨m1, m2, m3, ne, out _ n1 fun z => (z x rfl).1 rfl, out _ n2 fun z => (z x rfl).2.1 rfl, out _ n3 fun z => (z x rfl).2.2 rfl⟩
open Classical in
/-- the lent lists taken back -/
noncomputable def back (G G2 G' : Hp) : Hp := fun b => if G b = none ∧ G2 b ≠ none then none else G' b
theorem Lent.back {K : PySem.W.Frag} {G H G2 G' H' : Hp} {r r' : Option DA} {vs : List V} {es : List D} {ds' : Option DS} (L : Lent K G r H vs es G2) (n : Nx G2 r H ds' G' r' H') : Nx G r H ds' (Ev.back G G2 G') r' H' := by
  have sub : ∀ b o, Ev.back G G2 G' b = some o → G' b = some o := fun b o e => by
    unfold Ev.back at e
    split at e
    · cases e
    · exact e
  refine ⟨fun b o e => ?_, n.e, n.h, n.k, fun b e => ?_, n.n, fun b o e => n.s _ _ (sub b o e), ?_⟩
  · unfold Ev.back
    rw [if_neg fun z => by rw [e] at z; cases z.1]
    exact n.g _ _ (L.g _ _ e)
  · unfold Ev.back at e
    split at e
    · exact absurd rfl e
    · rename_i c
      rcases n.f b e with z | z
      · by_cases w : G b = none
        · exact absurd ⟨w, z⟩ c
        · exact .inl w
      · exact .inr z
  · have d := n.d
    have none_ : ∀ a, G' a = none → Ev.back G G2 G' a = none := fun a e => by
      unfold Ev.back
      split
      · rfl
      · exact e
    cases r' with
    | none =>
      cases ds' with
      | none => trivial
      | some s => exact d.elim
    | some x =>
      cases ds' with
      | none => exact d.elim
      | some s =>
        obtain ⟨m1, m2, m3, ne, n1, n2, n3⟩ := d
        exact ⟨m1, m2, m3, ne, none_ _ n1, none_ _ n2, none_ _ n3⟩
theorem Lent.less {K : PySem.W.Frag} {G H G2 G' H' : Hp} {r r' : Option DA} {vs : List V} {es : List D} {ds' : Option DS} (L : Lent K G r H vs es G2) (n : Nx G2 r H ds' G' r' H') (b : Addr) : Ev.back G G2 G' b = G' b ∨ ∃ ys, G' b = some (.lst ys) := by
  unfold Ev.back
  split
  · rename_i c
    obtain ⟨⟨ys, e⟩, _⟩ := L.l b c.1 c.2
    cases q : G2 b with
    | none => exact absurd q c.2
    | some o =>
      have := L.s _ _ q
      rw [e] at this
      cases this
      exact .inr ⟨ys, n.g _ _ q⟩
  · exact .inl rfl
theorem se_callL {fn : Fn} {n : Str} (h : XOk C T X) (hf : FnH X fn) (en : n = fn.name) (hg : gl C n = true) (hd : (n == ("__debug__" : Str)) = false) (hn : nsts (x :: xs) = true) (a : SAO C X (x :: xs) F) :
    SE C X (.Call (.Name n p) (x :: xs) [] pos) fun env => bnd (F env) fun ys => bnd (bnd (lft (argsOf fn.ps.length ys [])) fn.m) fun d => lft (if noL d then some d else none) := by
  obtain ⟨t, pa, q⟩ := a
  refine ⟨_, pe_callG h hf en hg hd hn pa, fun env ds G r σ H Q S w => ?_⟩
  refine q env ds G r σ H _ S (wpR_mono (wpR_bnd.mp w) fun es ds1 w1 vs G1 r1 H1 n1 h1 => ?_)
  obtain ⟨as, e, w2⟩ := wpR_lft (wpR_bnd.mp (wpR_bnd.mp w1))
  obtain ⟨rfl, l⟩ := argsOf_nil e
  obtain ⟨G2, L⟩ := h1.lent n1.s
  refine ⟨as, ds1, G2, r1, l, L.s, L.drw n1.d, L.q, wpR_mono w2 fun d ds' k v G' r' H' n2 m => ?_⟩
  obtain ⟨d', e', k'⟩ := wpR_lft k
  split at e'
  · rename_i hz
    cases e'
    exact k' v _ r' H' (n1.trans (L.back n2)) (Dq.less (L.less n2) d v m hz)
  · cases e'
theorem se_call0 {fn : Fn} {n : Str} (h : XOk C T X) (hf : FnH X fn) (en : n = fn.name) (hg : gl C n = true) (hd : (n == ("__debug__" : Str)) = false) :
    SE C X (.Call (.Name n p) [] [] pos) fun env => bnd (ret []) fun ys => bnd (ret []) fun kv => bnd (lft (argsOf fn.ps.length ys kv)) fn.m := by
  refine ⟨_, pe_callG0 h hf en hg hd, fun env ds G r σ H Q S w => ?_⟩
  have w1 : wpR (bnd (lft (argsOf fn.ps.length [] [])) fn.m ds) _ := w
  obtain ⟨as, e, w2⟩ := wpR_lft (wpR_bnd.mp w1)
  obtain ⟨rfl, l⟩ := argsOf_nil e
  exact ⟨[], ds, G, r, l, S.sub, S.drw, .nil, wpR_mono w2 fun d ds' k v G' r' H' n2 m => k v G' r' H' n2 m⟩
/-! ### by name -/
theorem sk_nil : SK C X [] [] fun _ => ret [] := ⟨_, pk_nil, fun env ds G r σ H Q S w => by
  obtain ⟨es, _, l, k⟩ := wpR_ret w
  cases es with
  | nil => exact k _ _ _ _ (Nx.refl S.sub S.drw) .nil
  | cons => cases l⟩
theorem sk_cons {ks : List Keyword} {js : List Nat} {j : Nat} {nm : Option Str} {kp : Pos} {g : Env → M (List (Nat × D))} (a : SE C X x f) (b : SK C X ks js g) : SK C X (⟨nm, x, kp⟩ :: ks) (j :: js) fun env => bnd (f env) fun d => bnd (g env) fun kv => ret ((j, d) :: kv) := by
  obtain ⟨ta, pa, qa⟩ := a
  obtain ⟨tb, pb, qb⟩ := b
  refine ⟨_, pk_cons pa pb, fun env ds G r σ H Q S w => ?_⟩
  refine qa env ds G r σ H _ S (wpR_mono (wpR_bnd.mp w) fun d ds1 w1 v G1 r1 H1 n1 h1 => ?_)
  refine qb env ds1 G1 r1 σ H1 _ (n1.sim S) (wpR_mono (wpR_bnd.mp w1) fun kv ds2 w2 => ?_)
  obtain ⟨es, ek, l, k⟩ := wpR_ret w2
  cases es with
  | nil => cases l
  | cons e es =>
    have ek' : (j, d) = (j, e) ∧ kv = js.zip es := by simpa [List.zip_cons_cons] using ek
    obtain ⟨e1, e2⟩ := ek'
    cases e1
    exact ⟨es, e2, by simpa using l, fun vs G' r' H' n2 h2 => k _ _ _ _ (n1.trans n2) (.cons (h1.more n2.g n2.e) h2)⟩
section
variable {α β : Type} {Rl : α → β → Prop}
theorem kwFind_rel {j : Nat} : ∀ {js : List Nat} {zs : List α} {es : List β} {e : β}, Paired Rl zs es → kwFind j (js.zip es) = some e → ∃ z, kwFind j (js.zip zs) = some z ∧ Rl z e
  | [], _, _, _, _, h => by simp [kwFind] at h
  | _ :: _, _, _, _, .nil, h => by simp [kwFind] at h
  | i :: js, z :: zs, e :: es, e', .cons q t, h => by
    simp only [List.zip_cons_cons, kwFind] at h ⊢
    by_cases c : i = j
    · rw [if_pos c] at h ⊢
      cases h
      exact ⟨z, rfl, q⟩
    · rw [if_neg c] at h ⊢
      exact kwFind_rel t h
theorem kwRow_rel {js : List Nat} {zs : List α} {es : List β} (q : Paired Rl zs es) : ∀ (k n : Nat) {as : List β}, kwRow (js.zip es) n k = some as → ∃ bs, kwRow (js.zip zs) n k = some bs ∧ Paired Rl bs as
  | 0, n, as, h => by
    simp [kwRow] at h
    subst h
    exact ⟨[], rfl, .nil⟩
  | k + 1, n, as, h => by
    simp only [kwRow, Option.bind_eq_some_iff, Option.map_eq_some_iff] at h
    obtain ⟨e, h1, r, h2, rfl⟩ := h
    obtain ⟨z, h3, h4⟩ := kwFind_rel q h1
    obtain ⟨bs, h5, h6⟩ := kwRow_rel q k (n + 1) h2
    refine ⟨z :: bs, ?_, .cons h4 h6⟩
    simp [kwRow, h3, h5]
theorem Paired.app {xs : List α} {ys : List β} {xs' : List α} {ys' : List β} (a : Paired Rl xs ys) (b : Paired Rl xs' ys') : Paired Rl (xs ++ xs') (ys ++ ys') := by
  induction a with
  | nil => exact b
  | cons q _ ih => exact .cons q ih
theorem argsOf_rel {n : Nat} {js : List Nat} {xs : List α} {ys : List β} {zs : List α} {es as : List β} (q : Paired Rl xs ys) (q2 : Paired Rl zs es) (e : argsOf n ys (js.zip es) = some as) : ∃ bs, argsOf n xs (js.zip zs) = some bs ∧ Paired Rl bs as := by
  unfold argsOf at e ⊢
  have l1 := Paired.length q
  have l2 := Paired.length q2
  have l3 : (js.zip zs).length = (js.zip es).length := by rw [List.length_zip, List.length_zip, l2]
  rw [l1, l3]
  split at e
  · obtain ⟨r, e1, rfl⟩ := Option.map_eq_some_iff.mp e
    obtain ⟨bs, h1, h2⟩ := kwRow_rel q2 _ _ e1
    rename_i hc
    rw [if_pos hc]
    refine ⟨xs ++ bs, ?_, Paired.app q h2⟩
    rw [h1]
    rfl
  · cases e
theorem argsOf_len {n : Nat} {xs as : List α} {kv : List (Nat × α)} (e : argsOf n xs kv = some as) : as.length = n := by
  unfold argsOf at e
  split at e
  · rename_i hc
    obtain ⟨r, e1, rfl⟩ := Option.map_eq_some_iff.mp e
    have : ∀ (k n : Nat) (r : List α), kwRow kv n k = some r → r.length = k := fun k => by
      induction k with
      | zero => intro n r h; simp [kwRow] at h; subst h; rfl
      | succ k ih =>
        intro n r h
        simp only [kwRow, Option.bind_eq_some_iff, Option.map_eq_some_iff] at h
        obtain ⟨e, _, r', h2, rfl⟩ := h
        rw [List.length_cons, ih _ _ h2]
    rw [List.length_append, this _ _ _ e1]
    exact hc
  · cases e
end
theorem dqP {K : PySem.W.Frag} {G : Hp} {r : Option DA} {vs : List V} {es : List D} : DqAll K G r vs es ↔ Paired (Dq K G r) vs es := by
  constructor
  · intro h
    induction es generalizing vs with
    | nil => cases h; exact .nil
    | cons e es ih =>
      cases h with
      | cons a b => exact .cons a (ih b)
  · intro h
    induction h with
    | nil => exact .nil
    | cons a _ ih => exact .cons a ih
def tCallKG (K : PySem.W.Frag) (fn : Fn) (n : Nat) (js : List Nat) (t tk : TA) : TE := fun σ H Q => t σ H fun vs H1 => tk σ H1 fun zs H2 => vs.length = n ∧ zs.length = js.length ∧ ∃ bs, argsOf fn.ps.length vs (js.zip zs) = some bs ∧ spG K fn bs H2 Q
def kwN (ks : List Keyword) : Option (List Str) := match ks with
  | [] => some []
  | ⟨some n, _, _⟩ :: ks => (kwN ks).map (n :: ·)
  | ⟨none, _, _⟩ :: _ => none
theorem kwN_ok {env : PySem.Env} {pos : Pos} : ∀ {ks : List Keyword} {ns : List Str}, kwN ks = some ns → (backToKw pos (keywordEach ks env)).all (·.1.isSome) = true ∧ (backToKw pos (keywordEach ks env)).filterMap (·.1) = ns ∧ (backToKw pos (keywordEach ks env)).any (·.1.isNone) = false
  | [], ns, h => by simp [kwN] at h; subst h; exact ⟨rfl, rfl, rfl⟩
  | ⟨none, _, _⟩ :: _, ns, h => by simp [kwN] at h
  | ⟨some n, e, q⟩ :: ks, ns, h => by
    simp only [kwN, Option.map_eq_some_iff] at h
    obtain ⟨ms, h1, rfl⟩ := h
    obtain ⟨a, b, c⟩ := kwN_ok (env := env) (pos := pos) h1
    have ek : backToKw pos (keywordEach (⟨some n, e, q⟩ :: ks) env) = (some n, do let v ← eval e env; standAt pos; pure v) :: backToKw pos (keywordEach ks env) := rfl
    rw [ek]
    refine ⟨?_, ?_, ?_⟩
    · simp only [List.all_cons, Option.isSome_some, Bool.true_and]; exact a
    · simp only [List.filterMap_cons]; rw [b]
    · simp only [List.any_cons, Option.isNone_some, Bool.false_or]; exact c
theorem pe_callKG {fn : Fn} {t tk : TA} {n : Str} {ks : List Keyword} {m : Nat} {js : List Nat} (h : XOk C T X) (hf : FnH X fn) (en : n = fn.name) (hg : gl C n = true) (hd : (n == ("__debug__" : Str)) = false) (hn : nsts xs = true) (hm : (m, js) ∈ fn.kws)
    (hks : kwN ks = some (js.map fun j => fn.ps.getD j "")) (hxs : xs = [] → t = tNil) (pa : PA X xs t) (pk : PK X ks tk) : PE X (.Call (.Name n p) xs ks pos) (tCallKG X.K fn m js t tk) := by
  subst en
  obtain ⟨k, a, fd, room, g, b, mg, kp⟩ := hf.ex
  obtain ⟨k1, k2, k3⟩ := kwN_ok (env := X.env) (pos := pos) hks
  refine ⟨fun pins s σ H Q I w => wpAny_Call_Name_kw (ld_glob I (gl_ok h hg) mg ?_ hd)⟩
  have fin : ∀ {us ws : List Value} {vs zs : List V} {s1 : Shared} {H1 : Hp}, L2.Inv X pins σ H1 s1 → Vals vs us → Vals zs ws → (vs.length = m ∧ zs.length = js.length ∧ ∃ bs, argsOf fn.ps.length vs (js.zip zs) = some bs ∧ spG X.K fn bs H1 Q) →
      wpAny (model X.prog X.w) X.A (call (.ref a) us (((backToKw pos (keywordEach ks X.env)).filterMap (·.1)).zip ws)) (EP X pins σ Q) X.xe s1 := fun {us ws vs zs s1 H1} I1 rv rz sp => by
    obtain ⟨l1, l2, bs, e, sp⟩ := sp
    have sym : ∀ {xs : List V} {ys : List Value}, Paired RelV xs ys → Paired (fun u v => RelV v u) ys xs := fun {xs ys} z => by
      induction z with
      | nil => exact .nil
      | cons a _ ih => exact .cons a ih
    have sym2 : ∀ {xs : List V} {ys : List Value}, Paired (fun u v => RelV v u) ys xs → Paired RelV xs ys := fun {xs ys} z => by
      induction z with
      | nil => exact .nil
      | cons a _ ih => exact .cons a ih
    obtain ⟨as, e2, ra⟩ := argsOf_rel (Rl := fun u v => RelV v u) (sym rv) (sym rz) e
    have lu : us.length = m := by rw [← rv.length]; exact l1
    have lw : ws.length = js.length := by rw [← rz.length]; exact l2
    rw [k2]
    exact fn_run (args := ⟨us, (js.map fun j => fn.ps.getD j "").zip ws⟩) h.grd room g (b.kw m js hm s1 us ws as lu lw e2) (sym2 ra) I1 sp
  cases xs with
  | nil =>
    cases hxs rfl
    refine PySem.W.callWith_KW0 (h₀ := X.base) I.ok.mod.kin kp k1 ?_ (by rw [k3]; rfl)
    exact thn (pk.run pos pins s σ H _ I w) fun ws s2 q => by
      obtain ⟨zs, H2, I2, rz, sp⟩ := q
      exact ⟨I2.kIn, fin (us := []) (vs := []) I2 .nil rz sp⟩
  | cons x xs =>
    have hn2 : nst x = true ∧ nsts xs = true := by simpa [nsts] using hn
    refine PySem.W.callWith_KW (h₀ := X.base) I.ok.mod.kin kp k1 ?_ (by rw [k3, nsts_plain hn X.env pos]; rfl) (star_ns hn2.1 xs X.env)
    refine thn (pa.run pos pins s σ H _ I w) fun us s1 q => ?_
    obtain ⟨vs, H1, I1, rv, w1⟩ := q
    exact thn (pk.run pos pins s1 σ H1 _ I1 w1) fun ws s2 q => by
      obtain ⟨zs, H2, I2, rz, sp⟩ := q
      exact ⟨I2.kIn, fin I2 rv rz sp⟩
theorem se_callK {fn : Fn} {n : Str} {ks : List Keyword} {m : Nat} {js : List Nat} {gk : Env → M (List (Nat × D))} (h : XOk C T X) (hf : FnH X fn) (en : n = fn.name) (hg : gl C n = true) (hd : (n == ("__debug__" : Str)) = false) (hn : nsts xs = true) (hm : (m, js) ∈ fn.kws)
    (hks : kwN ks = some (js.map fun j => fn.ps.getD j "")) (hl : ∀ env ds, wpR (F env ds) (fun _ _ => True) → wpR (F env ds) fun ys _ => ys.length = m) (hl2 : ∀ env ds, wpR (gk env ds) (fun _ _ => True) → wpR (gk env ds) fun kv _ => ∃ es, kv = js.zip es ∧ es.length = js.length)
    (a : xs ≠ [] → SA C X xs F) (a0 : xs = [] → F = fun _ => ret []) (b : SK C X ks js gk) :
    SE C X (.Call (.Name n p) xs ks pos) fun env => bnd (F env) fun ys => bnd (gk env) fun kv => bnd (lft (argsOf fn.ps.length ys kv)) fn.m := by
  have a' : ∃ t : TA, (xs = [] → t = tNil) ∧ PA X xs t ∧ ∀ (env : Env) (ds : Option DS) (G : Hp) (r : Option DA) (σ : St) (H : Hp) (Q : List V → Hp → Prop), Sim X.K C.own env ds G r σ H →
      wpR (F env ds) (fun es ds' => ∀ vs G' r' H', Nx G r H ds' G' r' H' → DqAll X.K G' r' vs es → Q vs H') → t σ H Q := by
    by_cases c : xs = []
    · subst c
      rw [a0 rfl]
      exact ⟨tNil, fun _ => rfl, pa_nil, fun env ds G r σ H Q S w => wpR_ret w _ _ _ _ (Nx.refl S.sub S.drw) .nil⟩
    · obtain ⟨t, pa, q⟩ := a c
      exact ⟨t, fun z => absurd z c, pa, q⟩
  obtain ⟨t, ht, pa, q⟩ := a'
  obtain ⟨tk, pk, qk⟩ := b
  refine ⟨_, pe_callKG h hf en hg hd hn hm hks ht pa pk, fun env ds G r σ H Q S w => ?_⟩
  have w0 := wpR_bnd.mp w
  obtain ⟨ys, ds1, e1, w1⟩ := wpR_ok w0
  have l1 := hl env ds (by rw [e1]; trivial)
  rw [e1] at l1
  refine q env ds G r σ H _ S ?_
  rw [e1]
  intro vs G1 r1 H1 n1 h1
  obtain ⟨kv, ds2, e2, w2⟩ := wpR_ok (wpR_bnd.mp w1)
  have l2 := hl2 env ds1 (by rw [e2]; trivial)
  rw [e2] at l2
  obtain ⟨es, rfl, le⟩ := l2
  refine qk env ds1 G1 r1 σ H1 _ (n1.sim S) ?_
  rw [e2]
  refine ⟨es, rfl, le, fun zs G2 r2 H2 n2 h2 => ?_⟩
  obtain ⟨as, ea, w3⟩ := wpR_lft (wpR_bnd.mp w2)
  have h1' := h1.more n2.g n2.e
  obtain ⟨bs, eb, hb⟩ := argsOf_rel (dqP.mp h1') (dqP.mp h2) ea
  refine ⟨by rw [h1.length]; exact l1, by rw [h2.length]; exact le, bs, eb, as, ds2, G2, r2, argsOf_len ea, n2.s, n2.d, dqP.mpr hb, ?_⟩
  exact wpR_mono w3 fun d ds' k v G' r' H' n3 m => k v G' r' H' ((n1.trans n2).trans n3) m
end
end Ev

end
section
set_option maxHeartbeats 4000000
/-! # EvI: enumerate over a tuple -/
namespace Ev
open PySem PySem.Spec L2
theorem meets_enum1 {v : Value} {o : Obj} {H : Heap → Prop} (B : Begins v o H) :
    Meets (Builtin.«enumerate.__new__» ⟨[.type "enumerate", v], []⟩) (fun _ R s => H s.heap ∧
      R (.ok (.ret (.ref (s.heap.push o).objs.size))) { s with heap := (s.heap.push o).push { cls := .type "enumerate", data := .fields #[.none, .bool false, .ref s.heap.objs.size, rawInt 0, .none, .none] } }) :=
  .of_wp fun prog w A R s h => by
    obtain ⟨hp, g, d, tk, os⟩ := s
    obtain ⟨hv, h⟩ := h
    have sub := sub_enumerate
    have it : ∀ {A' : Around} {E : Value → Shared → Prop} {Q : Value → Shared → Prop}, Q (.ref hp.objs.size) ⟨hp.push o, g, d, tk, os⟩ → wpAny (model prog w) A' (pyIter v) Q E ⟨hp, g, d, tk, os⟩ := fun q => B.iter prog w _ _ ⟨hp, g, d, tk, os⟩ _ hv q
    wp_walk
    refine wpAny_stack_any fun st => wpAny_pure ?_
    split
    · rename_i c _ _ _ _ _
      cases (c == Value.type "enumerate")
      · wp_walk using it
        exact ⟨_, rfl, h⟩
      · wp_walk using it
        exact ⟨_, rfl, h⟩
    · wp_walk using it
      exact ⟨_, rfl, h⟩
section
variable {prog : Program} {w : World} {A : Around} {E : Value → Shared → Prop} {s : Shared}
theorem enum1 {v : Value} {o : Obj} {H : Heap → Prop} {Q : Value → Shared → Prop} (B : Begins v o H) (hv : H s.heap)
    (k : ∀ h', IsEnum h' (s.heap.objs.size + 1) s.heap.objs.size 0 .none → h'.get? s.heap.objs.size = some o → (∀ b u, s.heap.get? b = some u → h'.get? b = some u) → Q (.ref (s.heap.objs.size + 1)) { s with heap := h' }) :
    wpAny (model prog w) A (call (.type "enumerate") [v]) Q E s := by
  refine callType_new F.called_enumerate (by decide) (F.typeCall_enumerate_1 _) (F.newCall_enumerate_1 _) (fun obj => F.args_object_init_2 obj _) F.entry_enumerate_new (meets_enum1 B) ⟨hv, ?_⟩
  have sz : (s.heap.push o).objs.size = s.heap.objs.size + 1 := Heap.size_push ..
  show _ ∧ _
  rw [sz]
  have en : IsEnum ((s.heap.push o).push { cls := .type "enumerate", data := .fields #[.none, .bool false, .ref s.heap.objs.size, rawInt 0, .none, .none] }) (s.heap.objs.size + 1) s.heap.objs.size 0 .none := by
    have z := Heap.get?_push_size (s.heap.push o) (o := { cls := .type "enumerate", data := .fields #[.none, .bool false, .ref s.heap.objs.size, rawInt 0, .none, .none] }) rfl
    rw [sz] at z
    exact z
  exact ⟨⟨_, en, rfl⟩, k _ en (Heap.get?_push_of_some _ (Heap.get?_push_size _ B.free)) fun b u x => Heap.get?_push_of_some _ (Heap.get?_push_of_some _ x)⟩
end
section
variable {prog : Program} {w : World} {A : Around} {E : Value → Shared → Prop} {s : Shared}
theorem next_end {e it l : Addr} {i : Nat} {items : Array Value} {old : Value} {Q : Option Value → Shared → Prop} (hh : A.handled = none) (he : IsEnum s.heap e it i old) (hit : s.heap.IsTupleIter it l i) (hl : s.heap.IsTuple l items) (hx : items[i]? = none)
    (k : ∀ h', Heap.ExtBut it s.heap h' → Q none { s with heap := h' }) : wpAny (model prog w) A (pyNext (.ref e)) Q E s := by
  have ty : s.TypeIs (.ref e) "enumerate" := ⟨_, he, rfl⟩
  unfold pyNext
  refine wpAny_bind (wpAny_attempt (wpAny_callSpecial?_slot (name := Str.ofString "__next__") ty F.slot_enumerate_next (wpAny_call_entry F.slot_enumerate_next ty F.entry_enumerate_next ?_ (F.args_enumerate_next_1 _))))
  show wpAny _ _ (field (.ref e) 2 >>= _) _ _ _
  refine wpAny_bind (wpAny_field he rfl (x := .ref it) rfl ?_)
  refine wpAny_bind (wpAny_nextOf_tuple_end hh hit hl hx fun h' x eb hx' => ?_)
  obtain ⟨o, ho, hcl⟩ := hx'
  exact wpAny_bind (wpAny_isInstance (T := "StopIteration") (b := true) ⟨o, ho, hcl⟩ isSubtype_stop (wpAny_pure (k _ eb)))
end
/-- the tuple at a, each item in a new pair -/
def IteT (K : PySem.W.Frag) (a : Addr) : L2.It :=
  ⟨fun i H => ∃ (xs : List V) (x : V), SqT K H a xs ∧ xs[i]? = some x, fun i H v H' => ∃ p x, v = .ref p ∧ H p = none ∧ H' = upd H p (.tup [.int (i : Nat), x]) ∧ ∀ xs, SqT K H a xs → xs[i]? = some x, fun i H => ∃ xs : List V, SqT K H a xs ∧ xs.length ≤ i⟩
theorem turn_enumT {P : Program} {w : World} {K : PySem.W.Frag} {elts : List Expr} {kk : Nat} {tpos : Pos} (a e it : Addr) :
    Turn P w K (.Tuple elts kk tpos) (IteT K a) [e, it] e (fun i h => (∃ old, IsEnum h e it ((i : Nat) : Int) old) ∧ h.IsTupleIter it a i ∧ e ≠ it) where
  mem := by simp
  obj := by
    rintro i h ⟨⟨old, he⟩, ⟨o, ho, hc, hd⟩, _⟩ b hb
    rcases (show b = e ∨ b = it by simpa using hb) with rfl | rfl
    · exact ⟨_, he, fun v q => nomatch q⟩
    · exact ⟨o, ho, fun v q => by rw [hd] at q; cases q⟩
  keep := by
    rintro i h h' ⟨⟨old, he⟩, hi, ne⟩ k
    exact ⟨⟨old, k e (by simp) _ he⟩, hi.at fun o q => k it (by simp) o q, ne⟩
  item := by
    intro X hP hw hK hc i pins s σ H E I hf st hg
    subst hP hw hK
    obtain ⟨⟨old, he⟩, hit, ne⟩ := st
    obtain ⟨xs, x, hq, hx⟩ := hg
    obtain ⟨its, rv, p, hz⟩ := I.tuple hq
    obtain ⟨u, hu, ru⟩ := rv.get hx
    have lte : e < s.heap.objs.size := Heap.lt_size he
    have lti : it < s.heap.objs.size := by obtain ⟨_, q, _⟩ := hit; exact Heap.lt_size q
    have pa : s.heap.IsTuple a its.toArray := p
    have nea : e ≠ a := by
      rintro rfl
      obtain ⟨o, ho, hcl, _⟩ := pa
      have he' : s.heap.get? e = some _ := he
      rw [ho] at he'
      cases he'
      have z : Value.type "enumerate" = Value.type "tuple" := hcl
      simp at z
    have nia : a ≠ it := by
      rintro rfl
      obtain ⟨o, ho, hcl, _⟩ := pa
      obtain ⟨o2, ho2, hcl2, _⟩ := hit
      rw [ho] at ho2
      cases ho2
      rw [hcl] at hcl2
      simp at hcl2
    have hlt : i < its.toArray.size := by
      have := (List.getElem?_eq_some_iff.mp hu).1
      simpa using this
    refine wpAny_pyNext_enum_itemD (Draws.tuple (A := X.A.in1) (I.ok.hd hc) it a nia its.toArray) he ⟨hit, pa⟩ hlt ne (by simp [ne, nea]) fun y h' tk hy ho st' hT hsz hk => ?_
    have ey : y = u := by
      have hy' : its.toArray[i]? = some y := hy
      have hu' : its.toArray[i]? = some u := by simpa using hu
      rw [hu'] at hy'
      exact (Option.some.inj hy').symm
    subst ey
    refine ⟨_, rfl, wpAny_letOwnedTupleGo_enum (s := { s with heap := h', toks := tk + 1 }) ho fun h'' he' sb => ?_⟩
    have hT2 : h''.get? s.heap.objs.size = some { cls := .type "tuple", data := .seq #[.int i tk, y] } := (sb.2 _ (Nat.ne_of_gt lte)).trans hT
    have new : ObjOk X.prog X.w (upd H s.heap.objs.size (.tup [.int (i : Nat), x])) h'' s.heap.objs.size (.tup [.int (i : Nat), x]) :=
      ⟨by show 2 ≤ sizeLine; decide, [.int i tk, y], .cons ⟨_, rfl⟩ (.cons ru .nil), ⟨_, hT2, rfl, _, rfl⟩⟩
    have I1 : L2.Inv X pins σ (upd H s.heap.objs.size (.tup [.int (i : Nat), x])) { s with heap := h'', toks := tk + 1 } :=
      I.turnedNew (ch := [e, it]) (fun b ob hb q => (sb.2 b (fun z => hb (by simp [z]))).trans (hk b ob (fun z => hb (by simp [z])) (fun z => hb (by simp [z])) q)) hf (Nat.le_refl _) new
    refine ⟨.ref s.heap.objs.size, _, I1, rfl, ⟨_, x, rfl, I.hok.fresh (Nat.le_refl _), rfl, fun ys hy => by rw [I.tuple_inj hy hq]; exact hx⟩, ⟨⟨y, ?_⟩, st'.1.at fun o q => (sb.2 it (Ne.symm ne)).trans q, ne⟩, fun b hb => ?_⟩
    · have e1 : ((i + 1 : Nat) : Int) = (i : Int) + 1 := by omega
      rw [e1]; exact he'
    · have lb : b < s.heap.objs.size := by
        rcases (show b = e ∨ b = it by simpa using hb) with rfl | rfl
        · exact lte
        · exact lti
      rw [upd_ne (Nat.ne_of_lt lb)]
      exact (hf b hb).1
  done := by
    intro X hP hw hK hc i pins s σ H E I hf st hg
    subst hP hw hK
    obtain ⟨⟨old, he⟩, hit, ne⟩ := st
    obtain ⟨xs, hq, hx⟩ := hg
    obtain ⟨its, rv, p, hz⟩ := I.tuple hq
    obtain ⟨f0, f1, f2, f3, f4, f5⟩ := hf it (by simp)
    have hl := rv.length
    refine next_end (I.ok.hd hc) he hit (show s.heap.IsTuple a its.toArray from p) (by simp; omega) fun h' eb => ⟨rfl, I.turned (t' := s.toks) (fun b o hb q => eb b o hb q) f0 f1 f3 f4 f5⟩
  self := fun A i s Q E st h => let ⟨⟨_, he⟩, _⟩ := st; wpAny_pyIter_enum he h
def iEnumT (K : PySem.W.Frag) (ta : TA) : TI := fun σ H R => ta σ H fun vs H1 => ∃ a xs, vs = [.ref a] ∧ SqT K H1 a xs ∧ R (IteT K a) H1
theorem pi_enumT {X : Cx} {e : Expr} {ta : TA} {p pos tpos : Pos} {elts : List Expr} {kk : Nat} (hg : Gl X "enumerate") (hm : X.mg "enumerate" = none) (ha : PA X [e] ta) (hs : starEach [e] X.env = [(false, eval e X.env)]) :
    PI X (.Tuple elts kk tpos) (.Call (.Name "enumerate" p) [e] [] pos) (iEnumT X.K ta) := by
  refine ⟨fun pins s σ H R I h => ?_⟩
  refine PyProof.Rows.Call_ (ld_blt I hg hm (by decide +kernel) (PyProof.Rows.callWith_type1 (T := "enumerate") (thn (ha.run pos pins s σ H _ I h) fun us s1 ⟨vs, H1, I1, r1, q1⟩ => ?_) hs rfl))
  obtain ⟨a, xs, rfl, hq, q⟩ := q1
  cases r1 with
  | cons r rr =>
    cases rr
    cases r
    obtain ⟨its, rv, p', hz⟩ := I1.tuple hq
    refine enum1 (begins_tuple a its.toArray) (show s1.heap.IsTuple a its.toArray from p') fun h' he ho hk => wpAny_pyIter_enum he ?_
    have I2 : L2.Inv X pins σ H1 { s1 with heap := h' } := I1.kept (t' := s1.toks) hk
    refine ⟨s1.heap.objs.size + 1, [s1.heap.objs.size + 1, s1.heap.objs.size], _, _, H1, rfl, I2, turn_enumT a (s1.heap.objs.size + 1) s1.heap.objs.size, ⟨⟨.none, he⟩, ⟨_, ho, rfl, rfl⟩, Nat.succ_ne_self _⟩, fun b hb => ?_, q⟩
    have le : s1.heap.objs.size ≤ b := by
      rcases (show b = s1.heap.objs.size + 1 ∨ b = s1.heap.objs.size by simpa using hb) with rfl | rfl
      · exact Nat.le_add_right _ _
      · exact Nat.le_refl _
    exact I1.fpOk le (I1.hok.fresh le)
end Ev

end
section
set_option maxHeartbeats 4000000
/-! # EvZ: zip over a list and a tuple -/
namespace Ev
open PySem PySem.Spec L2
def SqB (p : Bool) (K : PySem.W.Frag) (H : Hp) (a : Addr) (xs : List V) : Prop := match p with
  | true => SqT K H a xs
  | false => SqL K H a xs
def HqB (p : Bool) (h : Heap) (a : Addr) (its : Array Value) : Prop := match p with
  | true => h.IsTuple a its
  | false => h.IsList a its
def StB (p : Bool) (h : Heap) (i a : Addr) (k : Nat) : Prop := match p with
  | true => h.IsTupleIter i a k
  | false => h.IsListIter i a k
def objB (p : Bool) (a : Addr) : Obj := match p with
  | true => { cls := .type "tuple_iterator", data := .fields #[.ref a, .int 0 0] }
  | false => { cls := .type "list_iterator", data := .fields #[.ref a, .int 0 0] }
theorem begB (p : Bool) (a : Addr) (its : Array Value) : Begins (.ref a) (objB p a) (fun h => HqB p h a its) := by
  cases p
  · exact begins_list a its
  · exact begins_tuple a its
theorem drwB {prog : Program} {w : World} {A : Around} (hd : A.handled = none) (p : Bool) (i a : Addr) (ne : a ≠ i) (its : Array Value) :
    PySem.Draws prog w A i [i, a] its.size (fun k v => its[k]? = some v) (fun k h => StB p h i a k ∧ HqB p h a its) := by
  cases p
  · exact Draws.list hd i a ne its
  · exact Draws.tuple hd i a ne its
theorem StB.live {p : Bool} {h : Heap} {i a : Addr} {k : Nat} (s : StB p h i a k) : ∃ o, h.get? i = some o ∧ ∀ v : Option Value, o.data ≠ .cell v := by
  cases p
  · obtain ⟨o, ho, hc, hd⟩ := s
    exact ⟨o, ho, fun v q => by rw [hd] at q; cases q⟩
  · obtain ⟨o, ho, hc, hd⟩ := s
    exact ⟨o, ho, fun v q => by rw [hd] at q; cases q⟩
theorem StB.at {p : Bool} {h h' : Heap} {i a : Addr} {k : Nat} (s : StB p h i a k) (e : ∀ o, h.get? i = some o → h'.get? i = some o) : StB p h' i a k := by
  cases p
  · obtain ⟨o, ho, hc, hd⟩ := s
    exact ⟨o, e _ ho, hc, hd⟩
  · obtain ⟨o, ho, hc, hd⟩ := s
    exact ⟨o, e _ ho, hc, hd⟩
theorem SqB.read {X : Cx} {pins : List (Addr × Obj)} {σ : St} {H : Hp} {s : Shared} (I : L2.Inv X pins σ H s) {p : Bool} {a : Addr} {xs : List V} (h : SqB p X.K H a xs) :
    ∃ its : List Value, Vals xs its ∧ HqB p s.heap a its.toArray ∧ xs.length ≤ sizeLine := by
  cases p
  · obtain ⟨its, rv, q, hz⟩ := I.list h
    exact ⟨its, rv, q.isList, hz⟩
  · obtain ⟨its, rv, q, hz⟩ := I.tuple h
    exact ⟨its, rv, q, hz⟩
theorem SqB.inj {X : Cx} {pins : List (Addr × Obj)} {σ : St} {H : Hp} {s : Shared} (I : L2.Inv X pins σ H s) {p : Bool} {a : Addr} {xs ys : List V} (h : SqB p X.K H a xs) (h' : SqB p X.K H a ys) : xs = ys := by
  cases p
  · exact I.list_inj h h'
  · exact I.tuple_inj h h'
theorem HqB.lt {p : Bool} {h : Heap} {a : Addr} {its : Array Value} (q : HqB p h a its) : a < h.objs.size := by
  cases p
  · obtain ⟨o, ho, _⟩ := q; exact Heap.lt_size ho
  · obtain ⟨o, ho, _⟩ := q; exact Heap.lt_size ho
theorem ad (x y : Nat) (h : x ≠ y) : x ≠ y := h
theorem nm2 (x y z : Nat) (h1 : x ≠ y) (h2 : x ≠ z) : ¬ x ∈ [y, z] := by simp [h1, h2]
theorem zsep (a b n : Nat) (la : a < n) (lb : b < n) : ZipSep2 (n + 4) (n + 2) (n + 3) n (n + 1) [n, a] [n + 1, b] where
  TIz := Nat.ne_of_lt (by omega)
  TOz := Nat.ne_of_lt (by omega)
  TITO := Nat.ne_of_lt (by omega)
  TIi1 := Nat.ne_of_gt (by omega)
  mem1 := by simp
  zf1 := nm2 _ _ _ (by omega) (by omega)
  Tf1 := nm2 _ _ _ (by omega) (by omega)
  TIi2 := Nat.ne_of_gt (by omega)
  mem2 := by simp
  zf2 := nm2 _ _ _ (by omega) (by omega)
  Tf2 := nm2 _ _ _ (by omega) (by omega)
  sep1_2 := nm2 _ _ _ (by omega) (by omega)
  sep2_1 := nm2 _ _ _ (by omega) (by omega)
/-- two rows walked side by side, each item in a new pair -/
def ItM (K : PySem.W.Frag) (p q : Bool) (a b : Addr) : L2.It :=
  ⟨fun i H => ∃ xs ys x y, SqB p K H a xs ∧ SqB q K H b ys ∧ xs[i]? = some x ∧ ys[i]? = some y,
   fun i H v H' => ∃ T x y, v = .ref T ∧ H T = none ∧ H' = upd H T (.tup [x, y]) ∧ (∀ xs, SqB p K H a xs → xs[i]? = some x) ∧ ∀ ys, SqB q K H b ys → ys[i]? = some y,
   fun i H => ∃ xs ys : List V, SqB p K H a xs ∧ SqB q K H b ys ∧ i ≤ xs.length ∧ i ≤ ys.length ∧ (i = xs.length ∨ i = ys.length)⟩
theorem turn_zipM {P : Program} {w : World} {K : PySem.W.Frag} {elts : List Expr} {kk : Nat} {tpos : Pos} (p q : Bool) (a b n : Nat) (la : a < n) (lb : b < n) :
    Turn P w K (.Tuple elts kk tpos) (ItM K p q a b) [n + 4, n + 2, n + 3, n, n + 1] (n + 4) (fun i h => IsZip h (n + 4) (n + 2) (n + 3) .none ∧ IsTupOf2 h (n + 2) (.ref n) (.ref (n + 1)) ∧ (∃ x y, IsTupOf2 h (n + 3) x y) ∧ StB p h n a i ∧ StB q h (n + 1) b i) where
  mem := by simp
  obj := by
    rintro i h ⟨hz, hp, ⟨x, y, ho⟩, s1, s2⟩ c hc
    rcases (show c = n + 4 ∨ c = n + 2 ∨ c = n + 3 ∨ c = n ∨ c = n + 1 by simpa using hc) with rfl | rfl | rfl | rfl | rfl
    · exact ⟨_, hz, fun v q => nomatch q⟩
    · exact ⟨_, hp, fun v q => nomatch q⟩
    · exact ⟨_, ho, fun v q => nomatch q⟩
    · exact s1.live
    · exact s2.live
  keep := by
    rintro i h h' ⟨hz, hp, ⟨x, y, ho⟩, s1, s2⟩ k
    exact ⟨k _ (by simp) _ hz, k _ (by simp) _ hp, ⟨x, y, k _ (by simp) _ ho⟩, s1.at fun o e => k _ (by simp) o e, s2.at fun o e => k _ (by simp) o e⟩
  item := by
    intro X hP hw hK hc i pins s σ H E I hf st hg
    subst hP hw hK
    obtain ⟨hz, hp, ⟨x0, y0, ho⟩, s1, s2⟩ := st
    obtain ⟨xs, ys, x, y, hq1, hq2, hx, hy⟩ := hg
    obtain ⟨its, rv, p1, z1⟩ := hq1.read I
    obtain ⟨jts, rw', p2, z2⟩ := hq2.read I
    obtain ⟨u, hu, ru⟩ := rv.get hx
    obtain ⟨v, hv, rw2⟩ := rw'.get hy
    have l1 : i < its.toArray.size := by
      have := (List.getElem?_eq_some_iff.mp hu).1
      simpa using this
    have l2 : i < jts.toArray.size := by
      have := (List.getElem?_eq_some_iff.mp hv).1
      simpa using this
    have lz : n + 4 < s.heap.objs.size := Heap.lt_size hz
    have sep := zsep a b n la lb
    refine wpAny_pyNext_zipD2_item sep (drwB (A := X.A.in1) (I.ok.hd hc) p n a (Nat.ne_of_lt la) its.toArray) (drwB (A := X.A.in1) (I.ok.hd hc) q (n + 1) b (Nat.ne_of_lt (Nat.lt_succ_of_lt lb)) jts.toArray) hz hp ho ⟨s1, p1⟩ ⟨s2, p2⟩ l1 l2 fun x1 x2 h' tk e1 e2 hz' ho' t1 t2 hT hsz hk => ?_
    have f1 : x1 = u := by
      have : its.toArray[i]? = some u := by simpa using hu
      rw [this] at e1
      exact (Option.some.inj e1).symm
    have f2 : x2 = v := by
      have : jts.toArray[i]? = some v := by simpa using hv
      rw [this] at e2
      exact (Option.some.inj e2).symm
    subst f1 f2
    refine ⟨_, rfl, wpAny_letOwnedTupleGo_zip (s := { s with heap := h', toks := tk }) hz' fun h'' hz'' sb => ?_⟩
    have hT2 : h''.get? s.heap.objs.size = some { cls := .type "tuple", data := .seq #[x1, x2] } := (sb.2 _ (Nat.ne_of_gt lz)).trans hT
    have new : ObjOk X.prog X.w (upd H s.heap.objs.size (.tup [x, y])) h'' s.heap.objs.size (.tup [x, y]) :=
      ⟨by show 2 ≤ sizeLine; decide, [x1, x2], .cons ru (.cons rw2 .nil), ⟨_, hT2, rfl, _, rfl⟩⟩
    have I1 : L2.Inv X pins σ (upd H s.heap.objs.size (.tup [x, y])) { s with heap := h'', toks := tk } :=
      I.turnedNew (ch := [n + 4, n + 2, n + 3, n, n + 1]) (fun c ob hb e => (sb.2 c (fun z => hb (by simp [z]))).trans (hk c ob (fun z => hb (by simp [z])) (fun z => hb (by simp [z])) (fun z => hb (by simp [z])) (fun z => hb (by simp [z])) e)) hf (Nat.le_refl _) new
    have hp' : IsTupOf2 h'' (n + 2) (.ref n) (.ref (n + 1)) := (sb.2 _ (ad _ _ (by omega))).trans (hk _ _ (ad _ _ (by omega)) (ad _ _ (by omega)) (ad _ _ (by omega)) (ad _ _ (by omega)) hp)
    refine ⟨.ref s.heap.objs.size, _, I1, rfl, ⟨_, x, y, rfl, I.hok.fresh (Nat.le_refl _), rfl, fun zs h => by rw [SqB.inj I h hq1]; exact hx, fun zs h => by rw [SqB.inj I h hq2]; exact hy⟩, ⟨hz'', hp', ⟨x1, x2, (sb.2 _ (ad _ _ (by omega))).trans ho'⟩, t1.1.at fun o e => (sb.2 _ (ad _ _ (by omega))).trans e, t2.1.at fun o e => (sb.2 _ (ad _ _ (by omega))).trans e⟩, fun c hc => ?_⟩
    have lc : c < s.heap.objs.size := by
      rcases (show c = n + 4 ∨ c = n + 2 ∨ c = n + 3 ∨ c = n ∨ c = n + 1 by simpa using hc) with rfl | rfl | rfl | rfl | rfl <;> exact Nat.lt_of_le_of_lt (by omega) lz
    rw [upd_ne (Nat.ne_of_lt lc)]
    exact (hf c hc).1
  done := by
    intro X hP hw hK hc i pins s σ H E I hf st hg
    subst hP hw hK
    obtain ⟨hz, hp, ⟨x0, y0, ho⟩, s1, s2⟩ := st
    obtain ⟨xs, ys, hq1, hq2, b1, b2, b3⟩ := hg
    obtain ⟨its, rv, p1, z1⟩ := hq1.read I
    obtain ⟨jts, rw', p2, z2⟩ := hq2.read I
    have g1 := rv.length
    have g2 := rw'.length
    have sep := zsep a b n la lb
    refine wpAny_pyNext_zipD2_end sep (drwB (A := X.A.in1) (I.ok.hd hc) p n a (Nat.ne_of_lt la) its.toArray) (drwB (A := X.A.in1) (I.ok.hd hc) q (n + 1) b (Nat.ne_of_lt (Nat.lt_succ_of_lt lb)) jts.toArray) hz hp ho ⟨s1, p1⟩ ⟨s2, p2⟩ (by simp; omega) (by simp; omega) (by simp; omega) fun h' tk hk => ⟨rfl, I.turnedL (ch := [n + 4, n + 2, n + 3, n, n + 1]) (fun c o hb e => hk c o (fun z => hb (by simp [z])) (fun z => hb (by simp [z])) (fun z => hb (by simp [z])) (fun z => hb (by simp [z])) e) hf⟩
  self := fun A i s Q E st h => wpAny_pyIter_zip st.1 h
theorem call_zipM {prog : Program} {w : World} {A : Around} {E : Value → Shared → Prop} {s : Shared} {p q : Bool} {a b : Addr} {xs ys : Array Value} {Q : Value → Shared → Prop} (h1 : HqB p s.heap a xs) (h2 : HqB q s.heap b ys)
    (k : ∀ h', IsZip h' (s.heap.objs.size + 4) (s.heap.objs.size + 2) (s.heap.objs.size + 3) .none → IsTupOf2 h' (s.heap.objs.size + 2) (.ref s.heap.objs.size) (.ref (s.heap.objs.size + 1)) → IsTupOf2 h' (s.heap.objs.size + 3) .none .none →
      StB p h' s.heap.objs.size a 0 → StB q h' (s.heap.objs.size + 1) b 0 → (∀ c o, s.heap.get? c = some o → h'.get? c = some o) → Q (.ref (s.heap.objs.size + 4)) { s with heap := h' }) :
    wpAny (model prog w) A (call (.type "zip") [.ref a, .ref b]) Q E s := by
  refine callType_new F.called_zip (by decide) (F.typeCall_zip_2 _ _) (F.newCall_zip_2 _ _) (fun obj => F.args_object_init_3 obj _ _) F.entry_zip_new (meets_zip_newB2 (begB p a xs) (begB q b ys)) ⟨⟨h1, h2⟩, ?_⟩
  have f1 : (objB p a).isFreed = false := (begB p a xs).free
  have f2 : (objB q b).isFreed = false := (begB q b ys).free
  generalize e1 : objB p a = o1 at *
  generalize e2 : objB q b = o2 at *
  have z1 : (s.heap.push o1).objs.size = s.heap.objs.size + 1 := Heap.size_push ..
  have z2 : ((s.heap.push o1).push o2).objs.size = s.heap.objs.size + 2 := by rw [Heap.size_push, z1]
  have z3 : (gzT2 s.heap o1 o2).objs.size = s.heap.objs.size + 3 := by unfold gzT2; rw [Heap.size_push, z2]
  have z4 : (gzO2 s.heap o1 o2).objs.size = s.heap.objs.size + 4 := by unfold gzO2; rw [Heap.size_push, z3]
  have g4 : (gzZ2 s.heap o1 o2).get? (s.heap.objs.size + 4) = some { cls := .type "zip", data := .fields #[.none, .bool false, .bool false, .ref (s.heap.objs.size + 2), .ref (s.heap.objs.size + 3)] } := by
    have := Heap.get?_push_size (gzO2 s.heap o1 o2) (o := { cls := .type "zip", data := .fields #[.none, .bool false, .bool false, .ref ((s.heap.push o1).push o2).objs.size, .ref (gzT2 s.heap o1 o2).objs.size] }) rfl
    rw [z4, z2, z3] at this
    unfold gzZ2
    rw [z2, z3]
    exact this
  have g3 : (gzO2 s.heap o1 o2).get? (s.heap.objs.size + 3) = some { cls := .type "tuple", data := .seq #[.none, .none] } := by
    have := Heap.get?_push_size (gzT2 s.heap o1 o2) (o := { cls := .type "tuple", data := .seq #[.none, .none] }) rfl
    rw [z3] at this
    exact this
  have g2 : (gzT2 s.heap o1 o2).get? (s.heap.objs.size + 2) = some { cls := .type "tuple", data := .seq #[.ref s.heap.objs.size, .ref (s.heap.objs.size + 1)] } := by
    have := Heap.get?_push_size ((s.heap.push o1).push o2) (o := { cls := .type "tuple", data := .seq #[.ref s.heap.objs.size, .ref (s.heap.push o1).objs.size] }) rfl
    rw [z2, z1] at this
    unfold gzT2
    rw [z1]
    exact this
  have g1 : ((s.heap.push o1).push o2).get? (s.heap.objs.size + 1) = some o2 := by
    have := Heap.get?_push_size (s.heap.push o1) (o := o2) f2
    rw [z1] at this
    exact this
  have g0 : (s.heap.push o1).get? s.heap.objs.size = some o1 := Heap.get?_push_size _ f1
  have k3 : ∀ c o, (gzO2 s.heap o1 o2).get? c = some o → (gzZ2 s.heap o1 o2).get? c = some o := fun c o e => Heap.get?_push_of_some _ e
  have k2 : ∀ c o, (gzT2 s.heap o1 o2).get? c = some o → (gzZ2 s.heap o1 o2).get? c = some o := fun c o e => k3 c o (Heap.get?_push_of_some _ e)
  have k1 : ∀ c o, ((s.heap.push o1).push o2).get? c = some o → (gzZ2 s.heap o1 o2).get? c = some o := fun c o e => k2 c o (Heap.get?_push_of_some _ e)
  have k0 : ∀ c o, s.heap.get? c = some o → (gzZ2 s.heap o1 o2).get? c = some o := fun c o e => k1 c o (Heap.get?_push_of_some _ (Heap.get?_push_of_some _ e))
  have s1 : StB p (gzZ2 s.heap o1 o2) s.heap.objs.size a 0 := by
    have := k1 _ _ (Heap.get?_push_of_some o2 g0)
    subst e1
    cases p
    · exact ⟨_, this, rfl, rfl⟩
    · exact ⟨_, this, rfl, rfl⟩
  have s2 : StB q (gzZ2 s.heap o1 o2) (s.heap.objs.size + 1) b 0 := by
    have := k1 _ _ g1
    subst e2
    cases q
    · exact ⟨_, this, rfl, rfl⟩
    · exact ⟨_, this, rfl, rfl⟩
  show _ ∧ _
  rw [z4]
  exact ⟨⟨_, g4, rfl⟩, k _ g4 (k2 _ _ g2) (k3 _ _ g3) s1 s2 k0⟩
def iZipM (K : PySem.W.Frag) (ta : TA) : TI := fun σ H R => ta σ H fun vs H1 => ∃ a b p q xs ys, vs = [.ref a, .ref b] ∧ SqB p K H1 a xs ∧ SqB q K H1 b ys ∧ R (ItM K p q a b) H1
theorem pi_zipM {X : Cx} {e e2 : Expr} {ta : TA} {p pos tpos : Pos} {elts : List Expr} {kk : Nat} (hg : Gl X "zip") (hm : X.mg "zip" = none) (ha : PA X [e, e2] ta)
    (hs : starEach [e, e2] X.env = (false, eval e X.env) :: starEach [e2] X.env) (hs2 : ((backTo pos (starEach [e2] X.env)).any fun x => x.1) = false) :
    PI X (.Tuple elts kk tpos) (.Call (.Name "zip" p) [e, e2] [] pos) (iZipM X.K ta) := by
  refine ⟨fun pins s σ H R I h => ?_⟩
  refine PyProof.Rows.Call_ (ld_blt I hg hm (by decide +kernel) (PyProof.Rows.callWith_type1 (T := "zip") (thn (ha.run pos pins s σ H _ I h) fun us s1 ⟨vs, H1, I1, r1, q1⟩ => ?_) hs hs2))
  obtain ⟨a, b, p, q, xs, ys, rfl, h1, h2, qq⟩ := q1
  cases r1 with
  | cons r rr =>
    cases rr with
    | cons r' rr =>
      cases rr
      cases r
      cases r'
      obtain ⟨its, rv, p1, hz⟩ := h1.read I1
      obtain ⟨jts, rw', p2, hz'⟩ := h2.read I1
      refine call_zipM p1 p2 fun h' hz hT hO t1 t2 hk => wpAny_pyIter_zip hz ?_
      have I2 : L2.Inv X pins σ H1 { s1 with heap := h' } := I1.kept (t' := s1.toks) hk
      refine ⟨s1.heap.objs.size + 4, [s1.heap.objs.size + 4, s1.heap.objs.size + 2, s1.heap.objs.size + 3, s1.heap.objs.size, s1.heap.objs.size + 1], _, _, H1, rfl, I2, turn_zipM p q a b s1.heap.objs.size p1.lt p2.lt, ⟨hz, hT, ⟨_, _, hO⟩, t1, t2⟩, fun c hc => ?_, qq⟩
      have le : s1.heap.objs.size ≤ c := by
        rcases (show c = s1.heap.objs.size + 4 ∨ c = s1.heap.objs.size + 2 ∨ c = s1.heap.objs.size + 3 ∨ c = s1.heap.objs.size ∨ c = s1.heap.objs.size + 1 by simpa using hc) with rfl | rfl | rfl | rfl | rfl
        · exact Nat.le_add_right _ _
        · exact Nat.le_add_right _ _
        · exact Nat.le_add_right _ _
        · exact Nat.le_refl _
        · exact Nat.le_add_right _ _
      exact I1.fpOk le (I1.hok.fresh le)
end Ev

end
section
set_option maxHeartbeats 4000000
/-! # EvY: sorted(set(ints)), sorted(ints) -/
namespace Ev
open PySem PySem.Spec L2
theorem mem_insS {x z : Int} : ∀ {ys : List Int}, z ∈ insS x ys ↔ z = x ∨ z ∈ ys
  | [] => by simp [insS]
  | y :: ys => by
    unfold insS
    split
    · simp
    · split
      · rename_i e; subst e; simp
      · simp only [List.mem_cons, mem_insS (ys := ys)]
        constructor
        · rintro (h | h | h) <;> simp [h]
        · rintro (h | h | h) <;> simp [h]
theorem mem_dd {z : Int} : ∀ {xs : List Int}, z ∈ dd xs ↔ z ∈ xs
  | [] => Iff.rfl
  | x :: xs => by rw [dd, mem_insS, mem_dd (xs := xs), List.mem_cons]
theorem insS_sorted {x : Int} : ∀ {ys : List Int}, ys.Pairwise (· < ·) → (insS x ys).Pairwise (· < ·)
  | [], _ => by simp [insS]
  | y :: ys, h => by
    have h' := List.pairwise_cons.mp h
    unfold insS
    split
    · rename_i c
      refine List.pairwise_cons.mpr ⟨fun z hz => ?_, h⟩
      rcases List.mem_cons.mp hz with rfl | hz
      · exact c
      · exact Int.lt_trans c (h'.1 z hz)
    · split
      · exact h
      · rename_i c1 c2
        refine List.pairwise_cons.mpr ⟨fun z hz => ?_, insS_sorted h'.2⟩
        rcases mem_insS.mp hz with rfl | hz
        · omega
        · exact h'.1 z hz
theorem dd_sorted : ∀ (xs : List Int), (dd xs).Pairwise (· < ·)
  | [] => List.Pairwise.nil
  | x :: xs => insS_sorted (dd_sorted xs)
theorem sorted_uniq : ∀ {xs ys : List Int}, xs.Pairwise (· < ·) → ys.Pairwise (· < ·) → (∀ z, z ∈ xs ↔ z ∈ ys) → xs = ys
  | [], [], _, _, _ => rfl
  | [], y :: ys, _, _, h => by have := (h y).mpr (by simp); simp at this
  | x :: xs, [], _, _, h => by have := (h x).mp (by simp); simp at this
  | x :: xs, y :: ys, p, q, h => by
    have p' := List.pairwise_cons.mp p
    have q' := List.pairwise_cons.mp q
    have e : x = y := by
      have h1 := (h x).mp (by simp)
      have h2 := (h y).mpr (by simp)
      rcases List.mem_cons.mp h1 with z | z
      · exact z
      · rcases List.mem_cons.mp h2 with w | w
        · exact w.symm
        · have a := q'.1 x z
          have b := p'.1 y w
          omega
    subst e
    rw [sorted_uniq p'.2 q'.2 fun z => ?_]
    constructor
    · intro hz
      rcases List.mem_cons.mp ((h z).mp (List.mem_cons_of_mem _ hz)) with w | w
      · have := p'.1 z hz; omega
      · exact w
    · intro hz
      rcases List.mem_cons.mp ((h z).mpr (List.mem_cons_of_mem _ hz)) with w | w
      · have := q'.1 z hz; omega
      · exact w
theorem insL_perm {x : Int} : ∀ {ys : List Int}, (insL x ys).Perm (x :: ys)
  | [] => List.Perm.refl _
  | y :: ys => by
    unfold insL
    split
    · exact List.Perm.refl _
    · exact (List.Perm.cons y insL_perm).trans (List.Perm.swap x y ys)
theorem srt_perm : ∀ (xs : List Int), (srt xs).Perm xs
  | [] => List.Perm.refl _
  | x :: xs => insL_perm.trans (List.Perm.cons x (srt_perm xs))
theorem insL_sorted {x : Int} : ∀ {ys : List Int}, ys.Pairwise (· ≤ ·) → (insL x ys).Pairwise (· ≤ ·)
  | [], _ => by simp [insL]
  | y :: ys, h => by
    have h' := List.pairwise_cons.mp h
    unfold insL
    split
    · rename_i c
      refine List.pairwise_cons.mpr ⟨fun z hz => ?_, h⟩
      rcases List.mem_cons.mp hz with rfl | hz
      · exact c
      · exact Int.le_trans c (h'.1 z hz)
    · rename_i c
      refine List.pairwise_cons.mpr ⟨fun z hz => ?_, insL_sorted h'.2⟩
      rcases List.mem_cons.mp (insL_perm.mem_iff.mp hz) with rfl | hz
      · omega
      · exact h'.1 z hz
theorem srt_sorted : ∀ (xs : List Int), (srt xs).Pairwise (· ≤ ·)
  | [] => List.Pairwise.nil
  | x :: xs => insL_sorted (srt_sorted xs)
theorem srt_uniq {xs ys : List Int} (p : ys.Perm xs) (q : ys.Pairwise (· ≤ ·)) : ys = srt xs :=
  List.Perm.eq_of_pairwise (fun a b _ _ h1 h2 => Int.le_antisymm h1 h2) q (srt_sorted xs) (p.trans (srt_perm xs).symm)
theorem lt_nodup {xs : List Int} (h : xs.Pairwise (· < ·)) : xs.Nodup := h.imp fun h e => by omega
theorem nodup_len : ∀ {xs ys : List Int}, xs.Nodup → ys.Nodup → (∀ z, z ∈ xs ↔ z ∈ ys) → xs.length = ys.length
  | [], [], _, _, _ => rfl
  | [], y :: ys, _, _, h => by have := (h y).mpr (by simp); simp at this
  | x :: xs, ys, p, q, h => by
    have p' := List.nodup_cons.mp p
    have hx := (h x).mp (by simp)
    have pe := List.perm_cons_erase hx
    have l : ys.length = (ys.erase x).length + 1 := by rw [pe.length_eq]; rfl
    rw [l, List.length_cons, nodup_len p'.2 (q.erase x) fun z => ?_]
    rw [q.mem_erase_iff]
    constructor
    · intro hz
      exact ⟨fun e => p'.1 (by rw [← e]; exact hz), (h z).mp (List.mem_cons_of_mem _ hz)⟩
    · rintro ⟨ne, hz⟩
      rcases List.mem_cons.mp ((h z).mpr hz) with w | w
      · exact absurd w ne
      · exact w
def rSetI (K : PySem.W.Frag) (w : World) : List V → Hp → VK → Prop := fun xs H Q => ∃ (l : Addr) (ns : List Int), xs = [V.ref l] ∧ SqT K H l (ns.map V.int) ∧ ns.length + 1 < scanBound ∧ ∀ a, H a = none → Q (.ref a) (upd H a (SetO w a (fun j => decide (j ∈ ns)) (dd ns).length))
theorem cr_setI {X : Cx} (hc : X.calm = true) : CallR X (.type "set") (rSetI X.K X.w) := by
  rintro pins s σ H xs us Q I rv ⟨l, ns, rfl, h1, h2, k⟩
  cases rv with
  | cons r rr =>
    cases rr
    cases r
    obtain ⟨its, rv, p, hz⟩ := I.tuple h1
    refine call_set_tupI ns (I.ok.hd hc) (show s.heap.IsTuple l its.toArray from p) (RZ.intsAre_vals (by simpa using rv)) h2 fun h' tk c hs hle hk => ?_
    have ec : c = (dd ns).length := by
      obtain ⟨o, es, ep, t, _, _, _, _, nd, mem, _, _, sz, _⟩ := hs
      rw [← sz, ← Array.length_toList, ← List.length_map (f := keyOf)]
      refine nodup_len nd (lt_nodup (dd_sorted ns)) fun z => ?_
      rw [← mem z, mem_dd]
      simp
    subst ec
    have I1 := I.turnedNew (ch := []) (T := s.heap.objs.size) (ob := SetO X.w s.heap.objs.size (fun j => decide (j ∈ ns)) (dd ns).length) (t' := tk) (fun b o _ e => hk b o e) (fun b z => nomatch z) (Nat.le_refl _) (show ObjOk _ _ _ _ _ (.ext _) from by unfold ObjOk; exact ⟨hs, (by obtain ⟨o, es, ep, t, ho, _⟩ := hs; exact ⟨o, ho⟩), fun h1 h2 q k => SetR.at q k⟩)
    exact ⟨.ref s.heap.objs.size, _, I1, rfl, k _ (I.hok.fresh (Nat.le_refl _))⟩
theorem ints_all {K : PySem.W.Frag} {G : Hp} {r : Option DA} : ∀ (ns : List Int), DqAll K G r (ns.map V.int) (ns.map .int)
  | [] => .nil
  | n :: ns => .cons (.int n) (ints_all ns)
section
variable {C : Cz} {T : Tb} {X : Cx} {x y z : Expr} {f g h : Env → M D} {p pos p1 p2 : Pos}
theorem se_sset (hc : X.calm = true) (hg : Gl X "sorted") (hm : X.mg "sorted" = none) (hg2 : Gl X "set") (hm2 : X.mg "set" = none) (nx : nst x = true) (a : SE C X x f) :
    SE C X (.Call (.Name "sorted" p1) [.Call (.Name "set" p2) [x] [] pos] [] p) fun env => bnd (f env) fun x => lft (ssetD x) := by
  obtain ⟨t, pa, q⟩ := sa_cons nx a (F := fun _ => ret []) sa_nil
  have hs := star_ns nx [] X.env
  have pe2 : PE X (.Call (.Name "set" p2) [x] [] pos) (tCB (rSetI X.K X.w) t) := pe_callTy (cr_setI hc) hg2 hm2 (by decide +kernel) pa (by decide +kernel) (by decide +kernel) hs (by rfl)
  refine ⟨_, pe_callB (cr_sortedSet hc) hg hm (by decide +kernel) (pa_cons pe2 pa_nil) (by decide +kernel) (by decide +kernel) (by rfl) (by rfl), fun env ds G r σ H Q S w => ?_⟩
  refine q env ds G r σ H _ S (wpR_bnd.mpr (wpR_mono (wpR_bnd.mp w) fun d ds1 w2 => ?_))
  intro vs G1 r1 H1 n1 h1
  cases h1 with
  | cons h1 h2 =>
    cases h2
    obtain ⟨d', e, w3⟩ := wpR_lft w2
    unfold ssetD at e
    split at e
    · obtain ⟨ns, e1, e2⟩ := Option.bind_eq_some_iff.mp e
      split at e2
      · rename_i hz
        cases e2
        simp only [Bool.and_eq_true, decide_eq_true_eq] at hz
        cases h1 with
        | tup e' ha =>
          have hv := ha.ints e1
          subst hv
          refine ⟨_, ns, rfl, SqT.more n1.s e', by unfold scanBound; omega, fun a0 ha0 => ?_⟩
          refine ⟨a0, _, _, rfl, upd_same, hz.2, fun ns' p0 hp1 hp2 hp3 hp4 => ?_⟩
          have en : ns' = dd ns := sorted_uniq hp1 (dd_sorted ns) fun k => by rw [hp2 k, mem_dd]; simp
          subst en
          have na := Nx.apart (o := SetO X.w a0 (fun j => decide (j ∈ ns)) (dd ns).length) n1.s n1.d ha0
          obtain ⟨n', m⟩ := Nx.lst na.s na.d hp4 (ints_all (dd ns))
          exact w3 _ _ _ _ ((n1.trans na).trans n') m
      · cases e2
    · cases e
theorem se_srt (hg : Gl X "sorted") (hm : X.mg "sorted" = none) (nx : nst x = true) (a : SO C X x f) :
    SE C X (.Call (.Name "sorted" p1) [x] [] p) fun env => bnd (f env) fun x => lft (srtD x) := by
  obtain ⟨t, pa, q⟩ := so_cons nx a (F := fun _ => ret []) so_nil
  have hs := star_ns nx [] X.env
  refine ⟨_, pe_callB cr_sortedI hg hm (by decide +kernel) pa (by decide +kernel) (by decide +kernel) hs (by rfl), fun env ds G r σ H Q S w => ?_⟩
  refine q env ds G r σ H _ S (wpR_bnd.mpr (wpR_mono (wpR_bnd.mp w) fun d ds1 w2 => ?_))
  intro vs G1 r1 H1 n1 h1
  cases h1 with
  | cons h1 h2 =>
    cases h2
    obtain ⟨d', e, w3⟩ := wpR_lft w2
    unfold srtD at e
    split at e
    · obtain ⟨ns, e1, e2⟩ := Option.map_eq_some_iff.mp e
      subst e2
      obtain ⟨p0, us, rfl, e3, q1, _⟩ := h1.list n1.s n1.d
      have hv := q1.ints e1
      subst hv
      refine ⟨_, ns, rfl, .inl (.inl e3), fun ns' p0 hp1 hp2 hp4 => ?_⟩
      have en := srt_uniq hp1 hp2
      subst en
      obtain ⟨n', m⟩ := Nx.lst n1.s n1.d hp4 (ints_all (srt ns))
      exact w3 _ _ _ _ (n1.trans n') m
    · cases e
end
end Ev

end
section
set_option maxHeartbeats 4000000
/-! # Ev9: targets, what is walked, comprehensions -/
namespace Ev
open PySem PySem.Spec L2

/-! ### targets -/
mutual
def tgS : Tg → List Nat
  | .n i => [i]
  | .t ts => tgsS ts
def tgsS : Tgs → List Nat
  | .nil => []
  | .cons t ts => tgS t ++ tgsS ts
end
mutual
/-- the target is that text, of names that may be stored here and are no list of one's own -/
def mTg (C : Cz) : Tg → Expr → Bool
  | .n i, x => match x with
    | .Name y _ => nmL C i y && !(C.own.contains i)
    | _ => false
  | .t ts, x => match x with
    | .Tuple xs _ _ => mTgs C ts xs
    | _ => false
def mTgs (C : Cz) : Tgs → List Expr → Bool
  | .nil, xs => xs.isEmpty
  | .cons t ts, xs => match xs with
    | x :: xs => mTg C t x && mTgs C ts xs
    | [] => false
end
/-- what a store of data has done to the slots -/
structure Upd (K : PySem.W.Frag) (G : Hp) (r : Option DA) (is : List Nat) (env env' : Env) (σ σ' : St) : Prop where
  l1 : σ'.length = σ.length
  l2 : env'.length = env.length
  out : ∀ i, i ∉ is → σ'[i]? = σ[i]? ∧ env'[i]? = env[i]?
  inn : ∀ i d, i ∈ is → env'[i]? = some (some d) → ∃ v, σ'[i]? = some (some v) ∧ Dq K G r v d
theorem Upd.refl {K : PySem.W.Frag} {G : Hp} {r : Option DA} {env : Env} {σ : St} : Upd K G r [] env env σ σ := ⟨rfl, rfl, fun _ _ => ⟨rfl, rfl⟩, fun _ _ h => by cases h⟩
theorem Upd.trans {K : PySem.W.Frag} {G : Hp} {r : Option DA} {is js : List Nat} {e1 e2 e3 : Env} {s1 s2 s3 : St} (a : Upd K G r is e1 e2 s1 s2) (b : Upd K G r js e2 e3 s2 s3) : Upd K G r (is ++ js) e1 e3 s1 s3 := by
  refine ⟨b.l1.trans a.l1, b.l2.trans a.l2, fun i hi => ?_, fun i d hi e => ?_⟩
  · have h1 : i ∉ is := fun z => hi (List.mem_append_left _ z)
    have h2 : i ∉ js := fun z => hi (List.mem_append_right _ z)
    exact ⟨(b.out i h2).1.trans (a.out i h1).1, (b.out i h2).2.trans (a.out i h1).2⟩
  · by_cases hj : i ∈ js
    · exact b.inn i d hj e
    · have ha : i ∈ is := (List.mem_append.mp hi).resolve_right hj
      obtain ⟨o1, o2⟩ := b.out i hj
      rw [o2] at e
      rw [o1]
      exact a.inn i d ha e
section
variable {K : PySem.W.Frag} {O : List Nat} {env env' : Env} {ds : Option DS} {G H : Hp} {r : Option DA} {σ σ' : St} {is : List Nat}
theorem Sim.upd (S : Sim K O env ds G r σ H) (u : Upd K G r is env env' σ σ') (h : ∀ i ∈ is, i ∉ O) : Sim K O env' ds G r σ' H where
  sub := S.sub
  len := by rw [u.l1, u.l2]; exact S.len
  var := fun i d hi e => by
    by_cases hm : i ∈ is
    · exact u.inn i d hm e
    · obtain ⟨o1, o2⟩ := u.out i hm
      rw [o2] at e
      rw [o1]
      exact S.var i d hi e
  own := fun i d hi e => by
    have hm : i ∉ is := fun z => h i z hi
    obtain ⟨o1, o2⟩ := u.out i hm
    rw [o2] at e
    rw [o1]
    exact S.own i d hi e
  sep := fun i j a hi hj hn e1 e2 => by
    have hm : i ∉ is := fun z => h i z hi
    have hm2 : j ∉ is := fun z => h j z hj
    rw [(u.out i hm).1] at e1
    rw [(u.out j hm2).1] at e2
    rw [(u.out i hm).2, (u.out j hm2).2]
    exact S.sep i j a hi hj hn e1 e2
  drw := S.drw
end
section
variable {C : Cz} {T : Tb} {X : Cx}
theorem nmL_ok {i : Nat} {n : Str} {pos : Pos} (h : XOk C T X) (m : nmL C i n = true) : PG X (.Name n pos) (gName i) := by
  simp only [nmL, Bool.and_eq_true, decide_eq_true_eq] at m
  obtain ⟨m1, m2⟩ := m
  unfold loc at m2
  split at m2
  · rename_i e
    have e' : X.env.scope.names.lookup n = some .local := by rw [h.sc]; exact e
    exact pg_name (by rw [h.N]; exact h.nd) (by rw [h.N]; exact m1) (.inl e') (.inr e')
  · rename_i e
    have e' : X.env.scope.names.lookup n = some .cell := by rw [h.sc]; exact e
    exact pg_name (by rw [h.N]; exact h.nd) (by rw [h.N]; exact m1) (.inr e') (.inl (h.fnn _ m2))
  · cases m2
theorem nmL_lt {i : Nat} {n : Str} (m : nmL C i n = true) : i < C.N.length := by
  simp only [nmL, Bool.and_eq_true, decide_eq_true_eq] at m
  exact (List.getElem?_eq_some_iff.mp m.1).1
def tgsL : Tgs → Nat
  | .nil => 0
  | .cons _ ts => tgsL ts + 1
theorem asgTs_len : ∀ {ts : Tgs} {es : List D} {env env' : Env}, asgTs ts es env = some env' → es.length = tgsL ts
  | .nil, [], _, _, _ => rfl
  | .nil, _ :: _, _, _, h => by simp [asgTs] at h
  | .cons _ _, [], _, _, h => by simp [asgTs] at h
  | .cons t ts, e :: es, env, env', h => by
    simp only [asgTs, Option.bind_eq_some_iff] at h
    obtain ⟨env1, _, h2⟩ := h
    rw [List.length_cons, asgTs_len h2, tgsL]
theorem mTg_ns {t : Tg} {x : Expr} (m : mTg C t x = true) : nst x = true := by
  cases t <;> cases x <;> first | rfl | (simp [mTg] at m)
theorem mTgs_len : ∀ {ts : Tgs} {xs : List Expr}, mTgs C ts xs = true → xs.length = tgsL ts ∧ nsts xs = true
  | .nil, xs, m => by
    cases xs with
    | nil => exact ⟨rfl, rfl⟩
    | cons => simp [mTgs] at m
  | .cons t ts, xs, m => by
    cases xs with
    | nil => simp [mTgs] at m
    | cons x xs =>
      simp only [mTgs, Bool.and_eq_true] at m
      obtain ⟨l, n⟩ := mTgs_len m.2
      exact ⟨by rw [List.length_cons, l, tgsL], by simp [nsts, mTg_ns m.1, n]⟩
theorem asg_ns {x : Expr} (e : nst x = true) (es : List Expr) (env : PySem.Env) : assignEach (x :: es) env = (false, assign x env) :: assignEach es env := by
  cases x <;> first | rfl | cases e
theorem asg_all : ∀ {es : List Expr}, nsts es = true → ∀ env : PySem.Env, (assignEach es env).length = es.length ∧ (assignEach es env).findIdx? (·.1) = none
  | [], _, _ => ⟨rfl, rfl⟩
  | x :: xs, h, env => by
    simp only [nsts, Bool.and_eq_true] at h
    obtain ⟨a, b⟩ := asg_all h.2 env
    rw [asg_ns h.1]
    refine ⟨by rw [List.length_cons, List.length_cons, a], ?_⟩
    rw [List.findIdx?_cons]
    simp [b]
theorem pg_or2 {X : Cx} {x : Expr} {t u : TG} (a : PG X x t) (b : PG X x u) : PG X x fun v σ H Q => t v σ H Q ∨ u v σ H Q :=
  ⟨fun pins s σ H v w Q I r hw => hw.elim (a.run pins s σ H v w Q I r) (b.run pins s σ H v w Q I r)⟩
mutual
theorem sg (h : XOk C T X) : ∀ (t : Tg) (x : Expr), mTg C t x = true → (∀ i ∈ tgS t, i ∉ C.own) ∧ ∃ g, PG X x g ∧ ∀ (v : V) (d : D) (env env' : Env) (G H : Hp) (r : Option DA) (σ : St) (Q : St → Hp → Prop), Same G H → σ.length = env.length → Dq X.K G r v d → asgT t d env = some env' →
    (∀ σ', Upd X.K G r (tgS t) env env' σ σ' → Q σ' H) → g v σ H Q
  | .n i, x, m => by
    cases x with
    | Name n pos =>
      simp only [mTg, Bool.and_eq_true, Bool.not_eq_true'] at m
      have hi : i ∉ C.own := by simpa using m.2
      refine ⟨fun j hj => ?_, gName i, nmL_ok h m.1, fun v d env env' G H r σ Q s l1 hd e k => ?_⟩
      · have e : j = i := by simpa [tgS] using hj
        rw [e]; exact hi
      · simp only [asgT, Option.some.injEq] at e
        subst e
        refine k _ ⟨by simp, by simp, fun j hj => ?_, fun j d' hj e' => ?_⟩
        · have ne : i ≠ j := fun z => hj (by rw [z]; simp [tgS])
          exact ⟨List.getElem?_set_ne ne, List.getElem?_set_ne ne⟩
        · have e : j = i := by simpa [tgS] using hj
          subst e
          have lt : j < env.length := by
            have z := (List.getElem?_eq_some_iff.mp e').1
            rwa [List.length_set] at z
          rw [List.getElem?_set_self lt] at e'
          cases e'
          exact ⟨v, List.getElem?_set_self (by rw [l1]; exact lt), hd⟩
    | _ => simp [mTg] at m
  | .t ts, x, m => by
    cases x with
    | Tuple xs kk pos =>
      have m' : mTgs C ts xs = true := by simpa [mTg] using m
      obtain ⟨ho, u, pu, q⟩ := sgs h ts xs m'
      obtain ⟨ml, mn⟩ := mTgs_len m'
      obtain ⟨a1, a2⟩ := asg_all mn X.env
      refine ⟨ho, fun v σ H Q => gTup X.K xs.length u v σ H Q ∨ gUnl X.K xs.length u v σ H Q, pg_or2 (pg_tup h.calm pu a1 a2) (pg_unl h.calm pu a1 a2), fun v d env env' G H r σ Q s l1 hd e k => ?_⟩
      cases d with
      | tuple es =>
        cases hd with
        | tup hs ha =>
          have e2 : asgTs ts es env = some env' := by simpa [asgT] using e
          exact .inl ⟨_, _, rfl, SqT.more s hs, by rw [ha.length, asgTs_len e2, ml], q _ es env env' G H r σ Q s l1 ha e2 k⟩
      | list es =>
        cases hd with
        | lst hs ha =>
          have e2 : asgTs ts es env = some env' := by simpa [asgT] using e
          exact .inr ⟨_, _, rfl, .inl (.inl (s _ _ hs)), by rw [ha.length, asgTs_len e2, ml], q _ es env env' G H r σ Q s l1 ha e2 k⟩
      | _ => simp [asgT] at e
    | _ => simp [mTg] at m
theorem sgs (h : XOk C T X) : ∀ (ts : Tgs) (xs : List Expr), mTgs C ts xs = true → (∀ i ∈ tgsS ts, i ∉ C.own) ∧ ∃ u, PGs X xs u ∧ ∀ (vs : List V) (es : List D) (env env' : Env) (G H : Hp) (r : Option DA) (σ : St) (Q : St → Hp → Prop), Same G H → σ.length = env.length → DqAll X.K G r vs es → asgTs ts es env = some env' →
    (∀ σ', Upd X.K G r (tgsS ts) env env' σ σ' → Q σ' H) → u vs σ H Q
  | .nil, xs, m => by
    cases xs with
    | nil =>
      refine ⟨fun i hi => by simp [tgsS] at hi, gNil, pgs_nil, fun vs es env env' G H r σ Q s l1 hd e k => ?_⟩
      cases es with
      | nil =>
        cases hd
        simp only [asgTs, Option.some.injEq] at e
        subst e
        exact ⟨rfl, k σ Upd.refl⟩
      | cons => simp [asgTs] at e
    | cons => simp [mTgs] at m
  | .cons t ts, xs, m => by
    cases xs with
    | nil => simp [mTgs] at m
    | cons x xs =>
      simp only [mTgs, Bool.and_eq_true] at m
      obtain ⟨ho1, g, pg, q1⟩ := sg h t x m.1
      obtain ⟨ho2, u, pu, q2⟩ := sgs h ts xs m.2
      refine ⟨fun i hi => ?_, gCons g u, pgs_cons pg pu (by rw [asg_ns (mTg_ns m.1)]; rfl), fun vs es env env' G H r σ Q s l1 hd e k => ?_⟩
      · have hi' : i ∈ tgS t ∨ i ∈ tgsS ts := by simpa [tgsS] using hi
        rcases hi' with z | z
        · exact ho1 i z
        · exact ho2 i z
      · cases es with
        | nil => simp [asgTs] at e
        | cons d es =>
          cases hd with
          | cons h1 h2 =>
            simp only [asgTs, Option.bind_eq_some_iff] at e
            obtain ⟨env1, e1, e2⟩ := e
            refine ⟨_, _, rfl, q1 _ d env env1 G H r σ _ s l1 h1 e1 fun σ1 u1 => q2 _ es env1 env' G H r σ1 Q s (by rw [u1.l1, u1.l2]; exact l1) h2 e2 fun σ' u2 => k σ' ?_⟩
            have z := u1.trans u2
            simpa [tgsS] using z
end
end

/-! ### what is walked -/
section
variable {K : PySem.W.Frag} {G G' H H' : Hp} {r r' : Option DA} {ds ds' : Option DS}
def LB (K : PySem.W.Frag) (G : Hp) (LI : Addr → List V → Prop) (p : Bool) (a : Addr) (vs : List V) : Prop := match p with
  | true => SqT K G a vs
  | false => LI a vs
/-- the data that an iterator walks; LI tells where a list's object stands -/
inductive Wk (K : PySem.W.Frag) (G : Hp) (r : Option DA) (LI : Addr → List V → Prop) : L2.It → List D → Prop
  | lst {a : Addr} {vs : List V} {es : List D} : LI a vs → DqAll K G r vs es → Wk K G r LI (Itl K a) es
  | tup {a : Addr} {vs : List V} {es : List D} : SqT K G a vs → DqAll K G r vs es → Wk K G r LI (Itt K a) es
  | rng (lo : Int) (n : Nat) : Wk K G r LI (Itr lo n) ((List.range n).map fun i => .int (lo + (i : Nat)))
  | rngc (lo c : Int) (n : Nat) : Wk K G r LI (Itc lo c n) ((List.range n).map fun i => .int (lo + (i : Nat) * c))
  | zipM {p q : Bool} {a b : Addr} {vs ws : List V} {es fs : List D} : LB K G LI p a vs → LB K G LI q b ws → DqAll K G r vs es → DqAll K G r ws fs → Wk K G r LI (ItM K p q a b) (zipD es fs)
  | enm {a : Addr} {vs : List V} {es : List D} : LI a vs → DqAll K G r vs es → Wk K G r LI (Ite K a) (enumD 0 es)
  | enmT {a : Addr} {vs : List V} {es : List D} : SqT K G a vs → DqAll K G r vs es → Wk K G r LI (IteT K a) (enumD 0 es)
abbrev LIo (r : Option DA) (H : Hp) : Addr → List V → Prop := fun a vs => H a = some (.lst vs) ∧ notDA r a
abbrev LIs (G : Hp) : Addr → List V → Prop := fun a vs => G a = some (.lst vs)
theorem LB.map {LI LI' : Addr → List V → Prop} {p : Bool} {a : Addr} {vs : List V} (h : LB K G LI p a vs) (g : Same G G') (l : ∀ a vs, LI a vs → LI' a vs) : LB K G' LI' p a vs := by
  cases p
  · exact l _ _ h
  · exact SqT.more g h
theorem Wk.map {LI LI' : Addr → List V → Prop} {J : L2.It} {es : List D} (h : Wk K G r LI J es) (g : Same G G') (e : r = none ∨ r' = r) (l : ∀ a vs, LI a vs → LI' a vs) : Wk K G' r' LI' J es := by
  cases h with
  | lst a q => exact .lst (l _ _ a) (q.more g e)
  | tup a q => exact .tup (SqT.more g a) (q.more g e)
  | rng lo n => exact .rng lo n
  | rngc lo c n => exact .rngc lo c n
  | zipM a b q q' => exact .zipM (a.map g l) (b.map g l) (q.more g e) (q'.more g e)
  | enm a q => exact .enm (l _ _ a) (q.more g e)
  | enmT a q => exact .enmT (SqT.more g a) (q.more g e)
theorem Wk.nx {J : L2.It} {es : List D} (h : Wk K G r (LIo r H) J es) (n : Nx G r H ds' G' r' H') : Wk K G' r' (LIo r' H') J es :=
  h.map n.g n.e fun a vs l => ⟨n.h a _ l.2 l.1, n.notDA l.2 l.1⟩
theorem zipD_len : ∀ (es fs : List D), (zipD es fs).length = min es.length fs.length
  | [], _ => by simp [zipD]
  | _ :: _, [] => by simp [zipD]
  | e :: es, f :: fs => by
    simp only [zipD, List.length_cons, zipD_len es fs]
    omega
theorem zipD_get : ∀ (es fs : List D) (i : Nat) (d : D), (zipD es fs)[i]? = some d → ∃ x y, es[i]? = some x ∧ fs[i]? = some y ∧ d = .tuple [x, y]
  | [], _, _, _, h => by simp [zipD] at h
  | _ :: _, [], _, _, h => by simp [zipD] at h
  | e :: es, f :: fs, 0, d, h => by
    simp [zipD] at h
    exact ⟨e, f, rfl, rfl, h.symm⟩
  | e :: es, f :: fs, i + 1, d, h => by
    obtain ⟨x, y, h1, h2, h3⟩ := zipD_get es fs i d (by simpa [zipD] using h)
    exact ⟨x, y, by simpa using h1, by simpa using h2, h3⟩
theorem enumD_len : ∀ (n : Nat) (es : List D), (enumD n es).length = es.length
  | _, [] => rfl
  | n, e :: es => by simp only [enumD, List.length_cons, enumD_len (n + 1) es]
theorem enumD_get : ∀ (n : Nat) (es : List D) (i : Nat) (d : D), (enumD n es)[i]? = some d → ∃ x, es[i]? = some x ∧ d = .tuple [.int ((n + i : Nat) : Int), x]
  | _, [], _, _, h => by simp [enumD] at h
  | n, e :: es, 0, d, h => by
    simp [enumD] at h
    exact ⟨e, rfl, by rw [← h]; rfl⟩
  | n, e :: es, i + 1, d, h => by
    obtain ⟨x, h1, h2⟩ := enumD_get (n + 1) es i d (by simpa [enumD] using h)
    refine ⟨x, by simpa using h1, ?_⟩
    rw [h2]
    have : n + 1 + i = n + (i + 1) := by omega
    rw [this]
theorem Sq_at {a : Addr} {vs : List V} (l : H a = some (.lst vs)) : SqL K H a vs := .inl (.inl l)
theorem LB.sq {p : Bool} {a : Addr} {vs : List V} (h : LB K G (LIo r H) p a vs) (s : Same G H) : SqB p K H a vs := by
  cases p
  · exact Sq_at h.1
  · exact SqT.more s h
theorem Wk.go {J : L2.It} {es : List D} {i : Nat} (h : Wk K G r (LIo r H) J es) (s : Same G H) (hi : i < es.length) : J.go i H := by
  cases h with
  | lst a q =>
    obtain ⟨v, e, _⟩ := q.get (List.getElem?_eq_getElem hi)
    exact ⟨_, v, Sq_at a.1, e⟩
  | tup a q =>
    obtain ⟨v, e, _⟩ := q.get (List.getElem?_eq_getElem hi)
    exact ⟨_, v, SqT.more s a, e⟩
  | rng lo n => exact (by simpa using hi : i < n)
  | rngc lo c n => exact (by simpa using hi : i < n)
  | zipM a b q q' =>
    rw [zipD_len] at hi
    obtain ⟨v, e, _⟩ := q.get (List.getElem?_eq_getElem (show i < _ by omega))
    obtain ⟨v', e', _⟩ := q'.get (List.getElem?_eq_getElem (show i < _ by omega))
    exact ⟨_, _, v, v', a.sq s, b.sq s, e, e'⟩
  | enm a q =>
    rw [enumD_len] at hi
    obtain ⟨v, e, _⟩ := q.get (List.getElem?_eq_getElem hi)
    exact ⟨_, v, Sq_at a.1, e⟩
  | enmT a q =>
    rw [enumD_len] at hi
    obtain ⟨v, e, _⟩ := q.get (List.getElem?_eq_getElem hi)
    exact ⟨_, v, SqT.more s a, e⟩
theorem Wk.stop {J : L2.It} {es : List D} {i : Nat} (h : Wk K G r (LIo r H) J es) (s : Same G H) (hi : es.length ≤ i) (hi' : i ≤ es.length) : J.stop i H := by
  cases h with
  | lst a q => exact ⟨_, Sq_at a.1, by rw [q.length]; exact hi⟩
  | tup a q => exact ⟨_, SqT.more s a, by rw [q.length]; exact hi⟩
  | rng lo n => exact (by simpa using hi : n ≤ i)
  | rngc lo c n => exact (by simpa using hi : n ≤ i)
  | zipM a b q q' =>
    rw [zipD_len] at hi hi'
    have l1 := q.length
    have l2 := q'.length
    exact ⟨_, _, a.sq s, b.sq s, by omega, by omega, by omega⟩
  | enm a q =>
    rw [enumD_len] at hi
    exact ⟨_, Sq_at a.1, by rw [q.length]; exact hi⟩
  | enmT a q =>
    rw [enumD_len] at hi
    exact ⟨_, SqT.more s a, by rw [q.length]; exact hi⟩
theorem Wk.yld {J : L2.It} {es : List D} {i : Nat} {x : V} {d : D} (h : Wk K G r (LIo r H) J es) (s : Same G H) (dr : DrOk ds G r H) (e : es[i]? = some d) (y : J.yld i H x H') : ∃ G', Nx G r H ds G' r H' ∧ Dq K G' r x d := by
  cases h with
  | lst a q =>
    obtain ⟨rfl, k⟩ := y
    obtain ⟨v, e1, e2⟩ := q.get e
    have z := (k _ (Sq_at a.1)).symm.trans e1
    cases z
    exact ⟨G, Nx.refl s dr, e2⟩
  | tup a q =>
    obtain ⟨rfl, k⟩ := y
    obtain ⟨v, e1, e2⟩ := q.get e
    have z := (k _ (SqT.more s a)).symm.trans e1
    cases z
    exact ⟨G, Nx.refl s dr, e2⟩
  | rng lo n =>
    obtain ⟨rfl, rfl⟩ := y
    rw [List.getElem?_map] at e
    obtain ⟨j, ej, rfl⟩ := Option.map_eq_some_iff.mp e
    obtain ⟨hj, ej2⟩ := List.getElem?_eq_some_iff.mp ej
    have ej' : j = i := by rw [← ej2]; simp
    subst ej'
    exact ⟨G, Nx.refl s dr, .int _⟩
  | rngc lo c n =>
    obtain ⟨rfl, rfl⟩ := y
    rw [List.getElem?_map] at e
    obtain ⟨j, ej, rfl⟩ := Option.map_eq_some_iff.mp e
    obtain ⟨hj, ej2⟩ := List.getElem?_eq_some_iff.mp ej
    have ej' : j = i := by rw [← ej2]; simp
    subst ej'
    exact ⟨G, Nx.refl s dr, .int _⟩
  | zipM a b q q' =>
    obtain ⟨t, u, w, rfl, nt, rfl, k1, k2⟩ := y
    obtain ⟨d1, d2, e1, e2, rfl⟩ := zipD_get _ _ _ _ e
    obtain ⟨v1, f1, g1⟩ := q.get e1
    obtain ⟨v2, f2, g2⟩ := q'.get e2
    have z1 := (k1 _ (a.sq s)).symm.trans f1
    have z2 := (k2 _ (b.sq s)).symm.trans f2
    cases z1; cases z2
    obtain ⟨n, m⟩ := Nx.tup s dr nt (DqAll.cons g1 (.cons g2 .nil))
    exact ⟨_, n, m⟩
  | enm a q =>
    obtain ⟨t, u, rfl, nt, rfl, k1⟩ := y
    obtain ⟨d1, e1, rfl⟩ := enumD_get _ _ _ _ e
    obtain ⟨v1, f1, g1⟩ := q.get e1
    have z1 := (k1 _ (Sq_at a.1)).symm.trans f1
    cases z1
    obtain ⟨n, m⟩ := Nx.tup s dr nt (DqAll.cons (.int ((0 + i : Nat) : Int)) (.cons g1 .nil))
    rw [Nat.zero_add] at m n
    exact ⟨_, n, by simpa using m⟩
  | enmT a q =>
    obtain ⟨t, u, rfl, nt, rfl, k1⟩ := y
    obtain ⟨d1, e1, rfl⟩ := enumD_get _ _ _ _ e
    obtain ⟨v1, f1, g1⟩ := q.get e1
    have z1 := (k1 _ (SqT.more s a)).symm.trans f1
    cases z1
    obtain ⟨n, m⟩ := Nx.tup s dr nt (DqAll.cons (.int ((0 + i : Nat) : Int)) (.cons g1 .nil))
    rw [Nat.zero_add] at m n
    exact ⟨_, n, by simpa using m⟩
end
end Ev

end
section
set_option maxHeartbeats 4000000
/-! # Ev10: iterators of loops, list comprehensions -/
namespace Ev
open PySem PySem.Spec L2
section
variable {C : Cz} {T : Tb} {X : Cx} {x y z : Expr} {f g : Env → M D} {tg : Expr} {pos p tpos : Pos} {elts : List Expr} {kk : Nat}
theorem PI.or {iter : Expr} {w1 w2 : TI} (a : PI X tg iter w1) (b : PI X tg iter w2) : PI X tg iter fun σ H R => w1 σ H R ∨ w2 σ H R := by
  refine ⟨fun pins s σ H R I h => ?_⟩
  rcases h with h | h
  · exact a.run pins s σ H R I h
  · exact b.run pins s σ H R I h
def SIs (C : Cz) (X : Cx) (tg iter : Expr) (f : Env → M (List D)) : Prop := ∃ wi : TI, PI X tg iter wi ∧ ∀ (env : Env) (ds : Option DS) (G : Hp) (r : Option DA) (σ : St) (H : Hp) (R : L2.It → Hp → Prop), Sim X.K C.own env ds G r σ H →
  wpR (f env ds) (fun xs ds' => ∀ J G' r' H', Nx G r H ds' G' r' H' → Wk X.K G' r' (LIs G') J xs → R J H') → wi σ H R
def SIo (C : Cz) (X : Cx) (tg iter : Expr) (f : Env → M (List D)) : Prop := ∃ wi : TI, PI X tg iter wi ∧ ∀ (env : Env) (ds : Option DS) (G : Hp) (r : Option DA) (σ : St) (H : Hp) (R : L2.It → Hp → Prop), Sim X.K C.own env ds G r σ H →
  wpR (f env ds) (fun xs ds' => ∀ J G' r' H', Nx G r H ds' G' r' H' → Wk X.K G' r' (LIo r' H') J xs → R J H') → wi σ H R
theorem asSeq_some {d : D} {xs : List D} (h : asSeq d = some xs) : d = .list xs ∨ d = .tuple xs := by
  unfold asSeq at h
  split at h
  · cases h; exact .inl rfl
  · cases h; exact .inr rfl
  · cases h
theorem sis_e (a : SE C X x f) : SIs C X tg x fun env => bnd (f env) fun x => lft (asSeq x) := by
  obtain ⟨t, pa, q⟩ := a
  refine ⟨_, PI.or (pi_list pa) (pi_tup pa), fun env ds G r σ H R S w => ?_⟩
  obtain ⟨d, ds1, e1, w1⟩ := wpR_ok (wpR_bnd.mp w)
  obtain ⟨xs, e2, w2⟩ := wpR_lft w1
  rcases asSeq_some e2 with z | z
  · subst z
    refine .inl (q env ds G r σ H _ S ?_)
    rw [e1]
    intro v G1 r1 H1 n1 h1
    cases h1 with
    | lst e ha => exact ⟨_, rfl, ⟨_, Sq_at (n1.s _ _ e)⟩, w2 _ _ _ _ n1 (.lst e ha)⟩
  · subst z
    refine .inr (q env ds G r σ H _ S ?_)
    rw [e1]
    intro v G1 r1 H1 n1 h1
    cases h1 with
    | tup e ha => exact ⟨_, rfl, ⟨_, SqT.more n1.s e⟩, w2 _ _ _ _ n1 (.tup e ha)⟩
theorem sio_e (a : SO C X x f) : SIo C X tg x fun env => bnd (f env) fun x => lft (asSeq x) := by
  obtain ⟨t, pa, q⟩ := a
  refine ⟨_, PI.or (pi_list pa) (pi_tup pa), fun env ds G r σ H R S w => ?_⟩
  obtain ⟨d, ds1, e1, w1⟩ := wpR_ok (wpR_bnd.mp w)
  obtain ⟨xs, e2, w2⟩ := wpR_lft w1
  rcases asSeq_some e2 with z | z
  · subst z
    refine .inl (q env ds G r σ H _ S ?_)
    rw [e1]
    intro v G1 r1 H1 n1 h1
    obtain ⟨a, vs, rfl, e, ha, nd⟩ := h1.list n1.s n1.d
    exact ⟨_, rfl, ⟨_, Sq_at e⟩, w2 _ _ _ _ n1 (.lst ⟨e, nd⟩ ha)⟩
  · subst z
    refine .inr (q env ds G r σ H _ S ?_)
    rw [e1]
    intro v G1 r1 H1 n1 h1
    obtain ⟨a, vs, rfl, e, ha⟩ := h1.tup
    exact ⟨_, rfl, ⟨_, SqT.more n1.s e⟩, w2 _ _ _ _ n1 (.tup e ha)⟩
theorem rngOk_some {i : Int} (h : rngOk i = true) : -(2 ^ 62) ≤ i ∧ i < 2 ^ 62 := by
  simpa [rngOk] using h
theorem wk_rng {K : PySem.W.Frag} {G : Hp} {r : Option DA} {LI : Addr → List V → Prop} (i j : Int) : Wk K G r LI (Itr i (j - i).toNat) (rngD i j) := .rng i (j - i).toNat
/-- range(n), range(a, b): R J H' for whatever tells of lists -/
theorem rng1 (h : XOk C T X) (hg : gl C "range" = true) (hn : nst x = true) (a : SE C X x f) : ∃ wi : TI, PI X tg (.Call (.Name "range" p) [x] [] pos) wi ∧ ∀ (env : Env) (ds : Option DS) (G : Hp) (r : Option DA) (σ : St) (H : Hp) (R : L2.It → Hp → Prop), Sim X.K C.own env ds G r σ H →
    wpR (bnd (f env) (fun x => bnd (lft (asI x)) fun i => lft (if rngOk i then some (rngD 0 i) else none)) ds) (fun xs ds' => ∀ J G' r' H', Nx G r H ds' G' r' H' → (∀ LI, Wk X.K G' r' LI J xs) → R J H') → wi σ H R := by
  obtain ⟨t, pa, q⟩ := sa_cons hn a (F := fun _ => ret []) sa_nil
  refine ⟨_, pi_range1 (gl_ok h hg) (h.bl _ (by decide +kernel)) pa (star_ns hn [] X.env), fun env ds G r σ H R S w => ?_⟩
  refine q env ds G r σ H _ S (wpR_bnd.mpr (wpR_mono (wpR_bnd.mp w) fun d ds1 w1 => ?_))
  intro vs G1 r1 H1 n1 h1
  obtain ⟨i, e, w2⟩ := wpR_lft (wpR_bnd.mp w1)
  cases asI_some e
  obtain ⟨xs, e2, w3⟩ := wpR_lft w2
  split at e2
  · rename_i ok
    cases e2
    obtain ⟨o1, o2⟩ := rngOk_some ok
    cases h1 with
    | cons h1 h2 =>
      cases h2
      cases h1
      refine ⟨_, rfl, o1, o2, w3 _ _ _ _ n1 fun LI => ?_⟩
      have z := wk_rng (K := X.K) (G := G1) (r := r1) (LI := LI) 0 i
      rwa [Int.sub_zero] at z
  · cases e2
theorem rng2 (h : XOk C T X) (hg : gl C "range" = true) (hn : nst x = true) (hn2 : nst y = true) (a : SE C X x f) (b : SE C X y g) : ∃ wi : TI, PI X tg (.Call (.Name "range" p) [x, y] [] pos) wi ∧ ∀ (env : Env) (ds : Option DS) (G : Hp) (r : Option DA) (σ : St) (H : Hp) (R : L2.It → Hp → Prop), Sim X.K C.own env ds G r σ H →
    wpR (bnd (f env) (fun x => bnd (g env) fun y => bnd (lft (asI x)) fun i => bnd (lft (asI y)) fun j => lft (if rngOk i && rngOk j then some (rngD i j) else none)) ds) (fun xs ds' => ∀ J G' r' H', Nx G r H ds' G' r' H' → (∀ LI, Wk X.K G' r' LI J xs) → R J H') → wi σ H R := by
  obtain ⟨t, pa, q⟩ := sa_cons hn a (sa_cons hn2 b (F := fun _ => ret []) sa_nil)
  refine ⟨_, pi_range2 (gl_ok h hg) (h.bl _ (by decide +kernel)) pa (by rw [star_ns hn, star_ns hn2]; rfl) (star_ns hn2 [] X.env), fun env ds G r σ H R S w => ?_⟩
  refine q env ds G r σ H _ S (wpR_bnd.mpr (wpR_mono (wpR_bnd.mp w) fun d ds1 w1 => wpR_bnd.mpr (wpR_bnd.mpr (wpR_mono (wpR_bnd.mp w1) fun d2 ds2 w2 => ?_))))
  intro vs G1 r1 H1 n1 h1
  obtain ⟨i, e, w3⟩ := wpR_lft (wpR_bnd.mp w2)
  cases asI_some e
  obtain ⟨j, e', w4⟩ := wpR_lft (wpR_bnd.mp w3)
  cases asI_some e'
  obtain ⟨xs, e2, w5⟩ := wpR_lft w4
  split at e2
  · rename_i ok
    cases e2
    simp only [Bool.and_eq_true] at ok
    obtain ⟨o1, o2⟩ := rngOk_some ok.1
    obtain ⟨o3, o4⟩ := rngOk_some ok.2
    cases h1 with
    | cons h1 h2 =>
      cases h2 with
      | cons h2 h3 =>
        cases h3
        cases h1
        cases h2
        exact ⟨_, _, rfl, ⟨o1, o2, o3, o4⟩, w5 _ _ _ _ n1 fun LI => wk_rng _ _⟩
  · cases e2
theorem rng3 {z : Expr} {k : Env → M D} (h : XOk C T X) (hg : gl C "range" = true) (hn : nst x = true) (hn2 : nst y = true) (hn3 : nst z = true) (a : SE C X x f) (b : SE C X y g) (c : SE C X z k) : ∃ wi : TI, PI X tg (.Call (.Name "range" p) [x, y, z] [] pos) wi ∧ ∀ (env : Env) (ds : Option DS) (G : Hp) (r : Option DA) (σ : St) (H : Hp) (R : L2.It → Hp → Prop), Sim X.K C.own env ds G r σ H →
    wpR (bnd (f env) (fun x => bnd (g env) fun y => bnd (k env) fun z => bnd (lft (asI x)) fun i => bnd (lft (asI y)) fun j => bnd (lft (asI z)) fun k => lft (if rngOk i && rngOk j && decide (k = -1) then some (rngDn i j) else none)) ds) (fun xs ds' => ∀ J G' r' H', Nx G r H ds' G' r' H' → (∀ LI, Wk X.K G' r' LI J xs) → R J H') → wi σ H R := by
  obtain ⟨t, pa, q⟩ := sa_cons hn a (sa_cons hn2 b (sa_cons hn3 c (F := fun _ => ret []) sa_nil))
  refine ⟨_, pi_range3 (gl_ok h hg) (h.bl _ (by decide +kernel)) pa (by rw [star_ns hn]) (nsts_plain (es := [y, z]) (by simp [nsts, hn2, hn3]) X.env pos), fun env ds G r σ H R S w => ?_⟩
  refine q env ds G r σ H _ S (wpR_bnd.mpr (wpR_mono (wpR_bnd.mp w) fun d ds1 w1 => wpR_bnd.mpr (wpR_bnd.mpr (wpR_mono (wpR_bnd.mp w1) fun d2 ds2 w2 => wpR_bnd.mpr (wpR_bnd.mpr (wpR_mono (wpR_bnd.mp w2) fun d3 ds3 w3 => ?_))))))
  intro vs G1 r1 H1 n1 h1
  obtain ⟨i, e, w4⟩ := wpR_lft (wpR_bnd.mp w3)
  cases asI_some e
  obtain ⟨j, e', w5⟩ := wpR_lft (wpR_bnd.mp w4)
  cases asI_some e'
  obtain ⟨l, e'', w6⟩ := wpR_lft (wpR_bnd.mp w5)
  cases asI_some e''
  obtain ⟨xs, e2, w7⟩ := wpR_lft w6
  split at e2
  · rename_i ok
    cases e2
    simp only [Bool.and_eq_true, decide_eq_true_eq] at ok
    obtain ⟨⟨ok1, ok2⟩, rfl⟩ := ok
    obtain ⟨o1, o2⟩ := rngOk_some ok1
    obtain ⟨o3, o4⟩ := rngOk_some ok2
    cases h1 with
    | cons h1 h2 =>
      cases h2 with
      | cons h2 h3 =>
        cases h3 with
        | cons h3 h4 =>
          cases h4
          cases h1
          cases h2
          cases h3
          exact ⟨_, _, _, _, rfl, RgC.neg o1 o2 o3 o4, w7 _ _ _ _ n1 fun LI => .rngc _ _ _⟩
  · cases e2
theorem sis_zip (h : XOk C T X) (hg : gl C "zip" = true) (hn : nst x = true) (hn2 : nst y = true) (a : SE C X x f) (b : SE C X y g) : SIs C X (.Tuple elts kk tpos) (.Call (.Name "zip" p) [x, y] [] pos) fun env => bnd (f env) fun x => bnd (g env) fun y => match x, y with
    | .list xs, .list ys => ret (zipD xs ys)
    | .tuple xs, .tuple ys => ret (zipD xs ys)
    | .list xs, .tuple ys => ret (zipD xs ys)
    | .tuple xs, .list ys => ret (zipD xs ys)
    | _, _ => stk := by
  obtain ⟨t, pa, q⟩ := sa_cons hn a (sa_cons hn2 b (F := fun _ => ret []) sa_nil)
  refine ⟨_, pi_zipM (gl_ok h hg) (h.bl _ (by decide +kernel)) pa (star_ns hn [y] X.env) (nsts_plain (es := [y]) (by simp [nsts, hn2]) X.env pos), fun env ds G r σ H R S w => ?_⟩
  refine q env ds G r σ H _ S (wpR_bnd.mpr (wpR_mono (wpR_bnd.mp w) fun d ds1 w1 => wpR_bnd.mpr (wpR_bnd.mpr (wpR_mono (wpR_bnd.mp w1) fun d2 ds2 w2 => ?_))))
  intro vs G1 r1 H1 n1 h1
  cases h1 with
  | cons h1 h2 =>
    cases h2 with
    | cons h2 h3 =>
      cases h3
      split at w2
      · cases h1 with
        | lst e ha =>
          cases h2 with
          | lst e' ha' => exact ⟨_, _, false, false, _, _, rfl, Sq_at (n1.s _ _ e), Sq_at (n1.s _ _ e'), wpR_ret w2 _ _ _ _ n1 (.zipM (p := false) (q := false) e e' ha ha')⟩
      · cases h1 with
        | tup e ha =>
          cases h2 with
          | tup e' ha' => exact ⟨_, _, true, true, _, _, rfl, SqT.more n1.s e, SqT.more n1.s e', wpR_ret w2 _ _ _ _ n1 (.zipM (p := true) (q := true) e e' ha ha')⟩
      · cases h1 with
        | lst e ha =>
          cases h2 with
          | tup e' ha' => exact ⟨_, _, false, true, _, _, rfl, Sq_at (n1.s _ _ e), SqT.more n1.s e', wpR_ret w2 _ _ _ _ n1 (.zipM (p := false) (q := true) e e' ha ha')⟩
      · cases h1 with
        | tup e ha =>
          cases h2 with
          | lst e' ha' => exact ⟨_, _, true, false, _, _, rfl, SqT.more n1.s e, Sq_at (n1.s _ _ e'), wpR_ret w2 _ _ _ _ n1 (.zipM (p := true) (q := false) e e' ha ha')⟩
      · exact w2.elim
theorem sio_zip (h : XOk C T X) (hg : gl C "zip" = true) (hn : nst x = true) (hn2 : nst y = true) (a : SO C X x f) (b : SO C X y g) : SIo C X (.Tuple elts kk tpos) (.Call (.Name "zip" p) [x, y] [] pos) fun env => bnd (f env) fun x => bnd (g env) fun y => match x, y with
    | .list xs, .list ys => ret (zipD xs ys)
    | .tuple xs, .tuple ys => ret (zipD xs ys)
    | .list xs, .tuple ys => ret (zipD xs ys)
    | .tuple xs, .list ys => ret (zipD xs ys)
    | _, _ => stk := by
  obtain ⟨t, pa, q⟩ := so_cons hn a (so_cons hn2 b (F := fun _ => ret []) so_nil)
  refine ⟨_, pi_zipM (gl_ok h hg) (h.bl _ (by decide +kernel)) pa (star_ns hn [y] X.env) (nsts_plain (es := [y]) (by simp [nsts, hn2]) X.env pos), fun env ds G r σ H R S w => ?_⟩
  refine q env ds G r σ H _ S (wpR_bnd.mpr (wpR_mono (wpR_bnd.mp w) fun d ds1 w1 => wpR_bnd.mpr (wpR_bnd.mpr (wpR_mono (wpR_bnd.mp w1) fun d2 ds2 w2 => ?_))))
  intro vs G1 r1 H1 n1 h1
  cases h1 with
  | cons h1 h2 =>
    cases h2 with
    | cons h2 h3 =>
      cases h3
      split at w2
      · obtain ⟨a, us, rfl, e, ha, nd⟩ := h1.list n1.s n1.d
        obtain ⟨a', us', rfl, e', ha', nd'⟩ := h2.list n1.s n1.d
        exact ⟨_, _, false, false, _, _, rfl, Sq_at e, Sq_at e', wpR_ret w2 _ _ _ _ n1 (.zipM (p := false) (q := false) ⟨e, nd⟩ ⟨e', nd'⟩ ha ha')⟩
      · obtain ⟨a, us, rfl, e, ha⟩ := h1.tup
        obtain ⟨a', us', rfl, e', ha'⟩ := h2.tup
        exact ⟨_, _, true, true, _, _, rfl, SqT.more n1.s e, SqT.more n1.s e', wpR_ret w2 _ _ _ _ n1 (.zipM (p := true) (q := true) e e' ha ha')⟩
      · obtain ⟨a, us, rfl, e, ha, nd⟩ := h1.list n1.s n1.d
        obtain ⟨a', us', rfl, e', ha'⟩ := h2.tup
        exact ⟨_, _, false, true, _, _, rfl, Sq_at e, SqT.more n1.s e', wpR_ret w2 _ _ _ _ n1 (.zipM (p := false) (q := true) ⟨e, nd⟩ e' ha ha')⟩
      · obtain ⟨a, us, rfl, e, ha⟩ := h1.tup
        obtain ⟨a', us', rfl, e', ha', nd'⟩ := h2.list n1.s n1.d
        exact ⟨_, _, true, false, _, _, rfl, SqT.more n1.s e, Sq_at e', wpR_ret w2 _ _ _ _ n1 (.zipM (p := true) (q := false) e ⟨e', nd'⟩ ha ha')⟩
      · exact w2.elim
theorem sis_enum (h : XOk C T X) (hg : gl C "enumerate" = true) (hn : nst x = true) (a : SE C X x f) : SIs C X (.Tuple elts kk tpos) (.Call (.Name "enumerate" p) [x] [] pos) fun env => bnd (f env) fun x => bnd (lft (asSeq x)) fun xs => ret (enumD 0 xs) := by
  obtain ⟨t, pa, q⟩ := sa_cons hn a (F := fun _ => ret []) sa_nil
  refine ⟨_, PI.or (pi_enum (gl_ok h hg) (h.bl _ (by decide +kernel)) pa (star_ns hn [] X.env)) (pi_enumT (gl_ok h hg) (h.bl _ (by decide +kernel)) pa (star_ns hn [] X.env)), fun env ds G r σ H R S w => ?_⟩
  obtain ⟨d, ds1, e1, w1⟩ := wpR_ok (wpR_bnd.mp w)
  obtain ⟨xs, e, w2⟩ := wpR_lft (wpR_bnd.mp w1)
  have go : ∀ (Q : List V → Hp → Prop), (∀ v G1 r1 H1, Nx G r H ds1 G1 r1 H1 → Dq X.K G1 r1 v d → Q [v] H1) → t σ H Q := fun Q k => by
    refine q env ds G r σ H Q S (wpR_bnd.mpr ?_)
    rw [e1]
    intro vs G1 r1 H1 n1 h1
    cases h1 with
    | cons h1 h2 =>
      cases h2
      exact k _ _ _ _ n1 h1
  rcases asSeq_some e with z | z
  · subst z
    refine .inl (go _ fun v G1 r1 H1 n1 h1 => ?_)
    cases h1 with
    | lst e ha => exact ⟨_, _, rfl, Sq_at (n1.s _ _ e), wpR_ret w2 _ _ _ _ n1 (.enm e ha)⟩
  · subst z
    refine .inr (go _ fun v G1 r1 H1 n1 h1 => ?_)
    cases h1 with
    | tup e ha => exact ⟨_, _, rfl, SqT.more n1.s e, wpR_ret w2 _ _ _ _ n1 (.enmT e ha)⟩
theorem sio_enum (h : XOk C T X) (hg : gl C "enumerate" = true) (hn : nst x = true) (a : SO C X x f) : SIo C X (.Tuple elts kk tpos) (.Call (.Name "enumerate" p) [x] [] pos) fun env => bnd (f env) fun x => bnd (lft (asSeq x)) fun xs => ret (enumD 0 xs) := by
  obtain ⟨t, pa, q⟩ := so_cons hn a (F := fun _ => ret []) so_nil
  refine ⟨_, PI.or (pi_enum (gl_ok h hg) (h.bl _ (by decide +kernel)) pa (star_ns hn [] X.env)) (pi_enumT (gl_ok h hg) (h.bl _ (by decide +kernel)) pa (star_ns hn [] X.env)), fun env ds G r σ H R S w => ?_⟩
  obtain ⟨d, ds1, e1, w1⟩ := wpR_ok (wpR_bnd.mp w)
  obtain ⟨xs, e, w2⟩ := wpR_lft (wpR_bnd.mp w1)
  have go : ∀ (Q : List V → Hp → Prop), (∀ v G1 r1 H1, Nx G r H ds1 G1 r1 H1 → DqO X.K G1 r1 H1 v d → Q [v] H1) → t σ H Q := fun Q k => by
    refine q env ds G r σ H Q S (wpR_bnd.mpr ?_)
    rw [e1]
    intro vs G1 r1 H1 n1 h1
    cases h1 with
    | cons h1 h2 =>
      cases h2
      exact k _ _ _ _ n1 h1
  rcases asSeq_some e with z | z
  · subst z
    refine .inl (go _ fun v G1 r1 H1 n1 h1 => ?_)
    obtain ⟨a, us, rfl, e, ha, nd⟩ := h1.list n1.s n1.d
    exact ⟨_, _, rfl, Sq_at e, wpR_ret w2 _ _ _ _ n1 (.enm ⟨e, nd⟩ ha)⟩
  · subst z
    refine .inr (go _ fun v G1 r1 H1 n1 h1 => ?_)
    obtain ⟨a, us, rfl, e, ha⟩ := h1.tup
    exact ⟨_, _, rfl, SqT.more n1.s e, wpR_ret w2 _ _ _ _ n1 (.enmT e ha)⟩
end
end Ev

end
section
set_option maxHeartbeats 4000000
/-! # Ev11: list comprehensions -/
namespace Ev
open PySem PySem.Spec L2
def Cz.blk (C : Cz) (scope : Scope) : Cz := { C with sc := relS scope C.sc, fnn := fun x => scope.names.lookup x == some .cell }
abbrev bX (X : Cx) (scope : Scope) (s : Shared) (Hb : Hp) (Cc : Addr) (cl : List (Str × Addr)) (fp : List Addr) : Cx := X.blk s Hb scope (compEnvC scope cl Cc X.env) fp
theorem XOk.blk {C : Cz} {T : Tb} {X : Cx} (h : XOk C T X) (scope : Scope) (s : Shared) (Hb : Hp) (Cc : Addr) (cl : List (Str × Addr)) (fp : List Addr) : XOk (C.blk scope) T (bX X scope s Hb Cc cl fp) where
  N := h.N
  nd := h.nd
  sc := by
    show relS scope X.env.scope = relS scope C.sc
    rw [h.sc]
  calm := h.calm
  xe := rfl
  fnn := fun x e => e
  grd := h.grd
  room := h.room
  fns := h.fns
  cns := h.cns
  bl := h.bl
  gcd := h.gcd
  cs := h.cs
  fs := fun j f e => ⟨(h.fs j f e).ex⟩
def STs (C : Cz) (X : Cx) (ifs : List Expr) (f : Env → M Bool) : Prop := ∃ t : TT, PTs X ifs t ∧ ∀ (env : Env) (ds : Option DS) (G : Hp) (r : Option DA) (σ : St) (H : Hp) (Q : Bool → Hp → Prop), Sim X.K C.own env ds G r σ H →
  wpR (f env ds) (fun b ds' => ∀ G' r' H', Nx G r H ds' G' r' H' → Q b H') → t σ H Q
theorem sts_nil {C : Cz} {X : Cx} : STs C X [] fun _ => ret true := ⟨_, pts_nil, fun env ds G r σ H Q S w => wpR_ret w _ _ _ (Nx.refl S.sub S.drw)⟩
theorem sts_one {C : Cz} {X : Cx} {x : Expr} {f : Env → M Bool} (a : ST C X x f) : STs C X [x] f := by
  obtain ⟨t, p, q⟩ := a
  exact ⟨t, pts_one p, q⟩

/-! ### the heap without one object -/
def del (H : Hp) (p : Addr) : Hp := fun b => if b = p then none else H b
theorem del_same {H : Hp} {p : Addr} : del H p p = none := if_pos rfl
theorem del_ne {H : Hp} {p b : Addr} (h : b ≠ p) : del H p b = H b := if_neg h
theorem upd_del {H : Hp} {p : Addr} {o : HO} : upd (del H p) p o = upd H p o := by
  funext b
  by_cases h : b = p
  · subst h; rw [upd_same, upd_same]
  · rw [upd_ne h, upd_ne h, del_ne h]
theorem upd_self {H : Hp} {p : Addr} {o : HO} (e : H p = some o) : upd H p o = H := by
  funext b
  by_cases h : b = p
  · subst h; rw [upd_same, e]
  · rw [upd_ne h]
theorem Nx.drop {G H G' H' : Hp} {r r' : Option DA} {ds' : Option DS} {p : Addr} {o : HO} (n : Nx G r (upd H p o) ds' G' r' H') (hp : H p = none) (hn : Ev.notDA r p) (hg : G p = none) :
    Nx G r H ds' G' r' (del H' p) ∧ H' p = some o ∧ G' p = none := by
  have e : H' p = some o := n.h p o hn upd_same
  have g' : G' p = none := by
    cases q : G' p with
    | none => rfl
    | some u =>
      rcases n.f p (by rw [q]; simp) with z | z
      · exact absurd hg z
      · rw [upd_same] at z; cases z
  have nd : Ev.notDA r' p := n.notDA hn upd_same
  refine ⟨⟨n.g, n.e, fun b u hb q => ?_, fun b q => ?_, fun b q => ?_, fun b q => ?_, fun b u q => ?_, ?_⟩, e, g'⟩
  · have ne : b ≠ p := ne_of_none q hp
    rw [del_ne ne]
    exact n.h b u hb (by rw [upd_ne ne]; exact q)
  · have ne : b ≠ p := fun z => by rw [z] at q; exact q hp
    rw [del_ne ne]
    exact n.k b (by rw [upd_ne ne]; exact q)
  · have ne : b ≠ p := fun z => by rw [z] at q; exact q g'
    have := n.f b q
    rwa [upd_ne ne] at this
  · have ne : b ≠ p := fun z => by rw [z] at q; exact q nd
    have := n.n b q
    rwa [upd_ne ne] at this
  · have ne : b ≠ p := ne_of_none q g'
    rw [del_ne ne]
    exact n.s b u q
  · exact n.d.mono (fun b u hb q => by
      have ne : b ≠ p := fun z => by rw [z] at hb; exact hb nd
      rw [del_ne ne]; exact q) fun b q => .inl q

theorem wipe_in {τ : St} {i : Nat} : ∀ {is : List Nat}, i ∈ is → i < τ.length → (wipe τ is)[i]? = some none
  | [], h, _ => by cases h
  | j :: js, h, ht => by
    unfold wipe
    by_cases hj : j = i
    · subst hj
      rw [List.getElem?_set_self (by rw [wipe_length]; exact ht)]
    · rw [List.getElem?_set_ne hj]
      exact wipe_in ((List.mem_cons.mp h).resolve_left fun z => hj z.symm) ht
theorem wipe_eq {σ σ' : St} {is : List Nat} (l : σ'.length = σ.length) (h : ∀ i, i ∉ is → σ'[i]? = σ[i]?) : wipe σ' is = wipe σ is := by
  apply List.ext_getElem?
  intro i
  by_cases hi : i ∈ is
  · by_cases ht : i < σ.length
    · rw [wipe_in hi ht, wipe_in hi (by rw [l]; exact ht)]
    · rw [List.getElem?_eq_none (by rw [wipe_length]; omega), List.getElem?_eq_none (by rw [wipe_length]; omega)]
  · rw [wipe_out hi, wipe_out hi, h i hi]

/-! ### the comprehension -/
section
variable {C : Cz} {T : Tb} {X : Cx} {xt xi xe : Expr} {ifs : List Expr} {scope : Scope} {pos : Pos} {own : List (Str × Nat)} {tg : Tg} {fi : Env → M (List D)} {fc : Env → M Bool} {fe : Env → M D}
/-- what a reading does, where a new list is its value -/
def SpR (C : Cz) (X : Cx) (t : TE) (f : Env → M D) : Prop := ∀ (env : Env) (ds : Option DS) (G : Hp) (r : Option DA) (σ : St) (H : Hp) (Q : VK), Sim X.K C.own env ds G r σ H →
  wpR (f env ds) (fun d ds' => ∃ es, d = .list es ∧ ∀ p ys G' r' H', Nx G r H ds' G' r' H' → H' p = none → DqAll X.K G' r' ys es → Q (.ref p) (upd H' p (.lst ys))) → t σ H Q
abbrev lcF (tg : Tg) (fc : Env → M Bool) (fe : Env → M D) (env : Env) : D → M (Option D) := fun x => bnd (lft (asgT tg x env)) fun env' => bnd (fc env') fun t => if t then bnd (fe env') fun y => ret (some y) else ret none
theorem lc_parts (h : XOk C T X) (hi : SIo C X xt xi fi) (ok : blkC C.N C.sc scope own = true) (hown : own.map (·.2) = tgS tg) (ht : mTg (C.blk scope) tg xt = true)
    (hc : ∀ X', XOk (C.blk scope) T X' → STs (C.blk scope) X' ifs fc) (he : ∀ X', XOk (C.blk scope) T X' → SE (C.blk scope) X' xe fe) :
    ∃ (wi : TI) (tG : TG) (tC : TT) (tE : TE), PI X xt xi wi ∧ BlkOk X.N X.env.scope scope own ∧ (∀ s Hb Cc cl fp, PG (bX X scope s Hb Cc cl fp) xt tG) ∧ (∀ s Hb Cc cl fp, PTs (bX X scope s Hb Cc cl fp) ifs tC) ∧ (∀ s Hb Cc cl fp, PE (bX X scope s Hb Cc cl fp) xe tE) ∧
      SpR C X (tLc wi tG tC tE (own.map (·.2))) fun env => bnd (fi env) fun xs => bnd (lcL (lcF tg fc fe env) xs) fun ys => lft (if lenOk xs.length then some (.list ys) else none) := by
  obtain ⟨wi, pi, qi⟩ := hi
  -- the readings, for every block at once
  have G1 := fun s Hb Cc cl fp => (sg (h.blk scope s Hb Cc cl fp) tg xt ht).2
  have C1 := fun s Hb Cc cl fp => hc _ (h.blk scope s Hb Cc cl fp)
  have E1 := fun s Hb Cc cl fp => he _ (h.blk scope s Hb Cc cl fp)
  have hown' : ∀ i ∈ tgS tg, i ∉ C.own := by
    by_cases ne : Nonempty Shared
    · obtain ⟨s⟩ := ne
      exact (sg (h.blk scope s (fun _ => none) 0 [] []) tg xt ht).1
    · exact fun i _ _ => ne ⟨X.s_0⟩
  let tG : TG := fun v σ H Q => ∀ s Hb Cc cl fp, (G1 s Hb Cc cl fp).choose v σ H Q
  let tC : TT := fun σ H Q => ∀ s Hb Cc cl fp, (C1 s Hb Cc cl fp).choose σ H Q
  let tE : TE := fun σ H Q => ∀ s Hb Cc cl fp, (E1 s Hb Cc cl fp).choose σ H Q
  have pG : ∀ s Hb Cc cl fp, PG (bX X scope s Hb Cc cl fp) xt tG := fun s Hb Cc cl fp => ⟨fun pins s' σ H v u Q I r w => (G1 s Hb Cc cl fp).choose_spec.1.run pins s' σ H v u Q I r (w s Hb Cc cl fp)⟩
  have pC : ∀ s Hb Cc cl fp, PTs (bX X scope s Hb Cc cl fp) ifs tC := fun s Hb Cc cl fp => ⟨fun pins s' σ H Q I w => (C1 s Hb Cc cl fp).choose_spec.1.run pins s' σ H Q I (w s Hb Cc cl fp)⟩
  have pE : ∀ s Hb Cc cl fp, PE (bX X scope s Hb Cc cl fp) xe tE := fun s Hb Cc cl fp => ⟨fun pins s' σ H Q I w => (E1 s Hb Cc cl fp).choose_spec.1.run pins s' σ H Q I (w s Hb Cc cl fp)⟩
  have hN : X.N.Nodup := by rw [h.N]; exact h.nd
  have okB : BlkOk X.N X.env.scope scope own := by
    rw [h.N, h.sc]
    exact blkOk_by ok
  refine ⟨wi, tG, tC, tE, pi, okB, pG, pC, pE, fun env ds G r σ H Q S w => ?_⟩
  rw [hown]
  refine qi env ds G r σ H _ S (wpR_mono (wpR_bnd.mp w) fun xs ds1 w1 J G1' r1 H1 n1 wk1 L hL => ?_)
  -- what is wanted at the end
  have w2 : wpR (lcL (lcF tg fc fe env) xs ds1) fun ys ds' => xs.length ≤ sizeLine ∧ ∀ p zs G' r' H', Nx G r H ds' G' r' H' → H' p = none → DqAll X.K G' r' zs ys → Q (.ref p) (upd H' p (.lst zs)) := by
    refine wpR_mono (wpR_bnd.mp w1) fun ys ds' w2 => ?_
    obtain ⟨d, e, fs, ed, k⟩ := wpR_lft w2
    split at e
    · rename_i hz
      cases e
      cases ed
      exact ⟨lenOk_of hz, k⟩
    · cases e
  have hz : xs.length ≤ sizeLine := by
    obtain ⟨_, _, _, k⟩ := wpR_ok w2
    exact k.1
  let P : Nat → Hp → Prop := fun i Hc => ∃ (ds2 : Option DS) (G2 : Hp) (r2 : Option DA) (H2 : Hp) (acc : List V) (es : List D), Hc = upd H2 L (.lst acc) ∧ H2 L = none ∧ Nx G r H ds2 G2 r2 H2 ∧ acc.length ≤ i ∧ DqAll X.K G2 r2 acc es ∧ Wk X.K G2 r2 (LIo r2 H2) J xs ∧
    wpR (lcL (lcF tg fc fe env) (xs.drop i) ds2) fun ys ds' => ∀ p zs G' r' H', Nx G r H ds' G' r' H' → H' p = none → DqAll X.K G' r' zs (es ++ ys) → Q (.ref p) (upd H' p (.lst zs))
  have P0 : P 0 (upd H1 L (.lst [])) := ⟨ds1, G1', r1, H1, [], [], rfl, hL, n1, Nat.le_refl _, .nil, wk1, wpR_mono w2 fun ys ds' k => k.2⟩
  -- a turn's end
  have turn : ∀ (i : Nat) (Hc : Hp), i ≤ xs.length → P i Hc → (J.stop i Hc ∧ Q (.ref L) Hc) ∨ (J.go i Hc ∧ i < xs.length ∧ ∀ x H', J.yld i Hc x H' → tG x (wipe σ (tgS tg)) H' fun σ2 H2 => wipe σ2 (tgS tg) = wipe σ (tgS tg) ∧ tC σ2 H2 fun b H3 =>
      if b = true then tE σ2 H3 fun y H4 => ∃ acc, H4 L = some (.lst acc) ∧ acc.length < sizeLine ∧ P (i + 1) (upd H4 L (.lst (acc ++ [y]))) else P (i + 1) H3) := by
    rintro i Hc hi ⟨ds2, G2, r2, H2, acc, es, rfl, hL2, n2, hl2, ha, wk, w3⟩
    have na : Nx G2 r2 H2 ds2 G2 r2 (upd H2 L (.lst acc)) := Nx.apart n2.s n2.d hL2
    have wk' := wk.nx na
    have ndL : notDA r2 L := Classical.byContradiction fun q => n2.d.live q hL2
    have gL : G2 L = none := by
      cases q : G2 L with
      | none => rfl
      | some u => rw [n2.s _ _ q] at hL2; cases hL2
    by_cases hlt : i < xs.length
    · refine .inr ⟨wk'.go na.s hlt, hlt, fun x H' y => ?_⟩
      have ex : xs[i]? = some xs[i] := List.getElem?_eq_getElem hlt
      obtain ⟨G3, n3, hx⟩ := wk'.yld na.s na.d ex y
      rw [List.drop_eq_getElem_cons hlt] at w3
      have w4 := wpR_bnd.mp (wpR_bnd.mp w3)
      obtain ⟨env', ee, w5⟩ := wpR_lft w4
      have S3 : Sim X.K C.own env ds2 G3 r2 σ H' := n3.sim (na.sim (n2.sim S))
      intro s Hb Cc cl fp
      refine (G1 s Hb Cc cl fp).choose_spec.2 x _ env env' G3 H' r2 (wipe σ (tgS tg)) _ n3.s (by rw [wipe_length]; exact S.len) hx ee fun σ2 u2 => ?_
      have u3 : Upd X.K G3 r2 (tgS tg) env env' σ σ2 := ⟨by rw [u2.l1, wipe_length], u2.l2, fun j hj => ⟨by rw [(u2.out j hj).1, wipe_out hj], (u2.out j hj).2⟩, u2.inn⟩
      have S4 : Sim X.K C.own env' ds2 G3 r2 σ2 H' := S3.upd u3 hown'
      refine ⟨wipe_eq u3.l1 fun j hj => (u3.out j hj).1, ?_⟩
      intro s Hb Cc cl fp
      refine (C1 s Hb Cc cl fp).choose_spec.2 env' ds2 G3 r2 σ2 H' _ S4 (wpR_mono (wpR_bnd.mp w5) fun b ds4 w6 G4 r4 H4 n4 => ?_)
      have n34 := na.trans (n3.trans n4)
      cases b with
      | true =>
        show tE σ2 H4 _
        intro s Hb Cc cl fp
        refine (E1 s Hb Cc cl fp).choose_spec.2 env' ds4 G4 r4 σ2 H4 _ (n4.sim S4) (wpR_mono (wpR_bnd.mp w6) fun d ds5 w7 v G5 r5 H5 n5 hv => ?_)
        have w8 := wpR_bnd.mp (wpR_ret w7)
        obtain ⟨n6, e6, g6⟩ := ((n3.trans n4).trans n5).drop hL2 ndL gL
        have n7 := n2.trans n6
        refine ⟨acc, e6, by omega, ds5, G5, r5, del H5 L, acc ++ [v], es ++ [d], upd_del.symm, del_same, n7, by rw [List.length_append, List.length_singleton]; omega, (ha.more n6.g n6.e).append (.cons hv .nil), wk.nx n6, ?_⟩
        refine wpR_mono w8 fun ys ds' k p zs G' r' H' n hp hq => wpR_ret k p zs G' r' H' n hp ?_
        rwa [List.append_assoc] at hq
      | false =>
        show P (i + 1) H4
        have w8 := wpR_bnd.mp (wpR_ret w6)
        obtain ⟨n6, e6, g6⟩ := (n3.trans n4).drop hL2 ndL gL
        have n7 := n2.trans n6
        refine ⟨ds4, G4, r4, del H4 L, acc, es, by rw [upd_del, upd_self e6], del_same, n7, by omega, ha.more n6.g n6.e, wk.nx n6, ?_⟩
        exact wpR_mono w8 fun ys ds' k p zs G' r' H' n hp hq => wpR_ret k p zs G' r' H' n hp hq
    · have ei : xs.length ≤ i := by omega
      refine .inl ⟨wk'.stop na.s ei hi, ?_⟩
      rw [List.drop_of_length_le ei] at w3
      exact wpR_ret w3 L acc G2 r2 H2 n2 hL2 (by simpa using ha)
  refine ⟨fun i m Hc => m = xs.length - i ∧ i ≤ xs.length ∧ P i Hc, ⟨xs.length, by omega, Nat.zero_le _, P0⟩, ?_⟩
  rintro i m Hc ⟨rfl, hi, p⟩
  rcases turn i Hc hi p with q | ⟨q1, hlt, q2⟩
  · exact .inl q
  · exact .inr ⟨q1, P (i + 1), fun H' p' => ⟨xs.length - (i + 1), by omega, rfl, hlt, p'⟩, q2⟩
theorem sr_lc (h : XOk C T X) (hi : SIo C X xt xi fi) (hs : ∀ x, foldedSetIterable xi X.env x = pure x) (ok : blkC C.N C.sc scope own = true) (hown : own.map (·.2) = tgS tg) (ht : mTg (C.blk scope) tg xt = true)
    (hc : ∀ X', XOk (C.blk scope) T X' → STs (C.blk scope) X' ifs fc) (he : ∀ X', XOk (C.blk scope) T X' → SE (C.blk scope) X' xe fe) :
    SR C X (.ListComp xe [⟨xt, xi, ifs, 0⟩] scope pos) fun env => bnd (fi env) fun xs => bnd (lcL (lcF tg fc fe env) xs) fun ys => lft (if lenOk xs.length then some (.list ys) else none) := by
  obtain ⟨wi, tG, tC, tE, pi, okB, pG, pC, pE, q⟩ := lc_parts h hi ok hown ht hc he
  have hN : X.N.Nodup := by rw [h.N]; exact h.nd
  exact ⟨_, pe_lc h.calm hN pi okB pG pC pE hs, q⟩
/-- its store in a name, when that goes before the clean-up -/
theorem lc_set {i : Nat} {y : Str} {py spos : Pos} (h : XOk C T X) (hi : SIo C X xt xi fi) (hs : ∀ x, foldedSetIterable xi X.env x = pure x) (ok : blkC C.N C.sc scope own = true) (hown : own.map (·.2) = tgS tg) (ht : mTg (C.blk scope) tg xt = true)
    (hc : ∀ X', XOk (C.blk scope) T X' → STs (C.blk scope) X' ifs fc) (he : ∀ X', XOk (C.blk scope) T X' → SE (C.blk scope) X' xe fe) (hy : X.N[i]? = some y) (hyl : X.env.scope.names.lookup y = some .local)
    (hsw : swapsWith (.ListComp xe [⟨xt, xi, ifs, 0⟩] scope pos) (some (.Name y py)) spos.line X.env = pure true) :
    ∃ t : TE, PS X (.Assign [.Name y py] (.ListComp xe [⟨xt, xi, ifs, 0⟩] scope pos) spos) (tAsg t (gName i)) ∧ SpR C X t fun env => bnd (fi env) fun xs => bnd (lcL (lcF tg fc fe env) xs) fun ys => lft (if lenOk xs.length then some (.list ys) else none) := by
  obtain ⟨wi, tG, tC, tE, pi, okB, pG, pC, pE, q⟩ := lc_parts h hi ok hown ht hc he
  have hN : X.N.Nodup := by rw [h.N]; exact h.nd
  exact ⟨_, ps_setLc h.calm hN hy hyl hsw pi okB pG pC pE hs, q⟩
end
end Ev

end
section
set_option maxHeartbeats 8000000
/-! # EvD: the law's script and its draws: what is read -/
namespace Ev
open PySem PySem.Spec L2
section
variable {K : PySem.W.Frag} {O : List Nat} {env : Env} {ds : Option DS} {G H : Hp} {r : Option DA} {σ : St}
theorem onDS_ok {α : Type} {d : Option D} {f : DS → Option α} {Q : α → Option DS → Prop} (h : wpR (onDS d f ds) Q) : d = some (.dict []) ∧ ∃ s a, ds = some s ∧ f s = some a ∧ Q a ds := by
  unfold onDS at h
  split at h
  · rename_i s
    split at h
    · rename_i a e
      exact ⟨rfl, s, a, rfl, e, h⟩
    · exact h.elim
  · exact h.elim
theorem upDS_ok {α : Type} {d : Option D} {a : α} {f : DS → Option DS} {Q : α → Option DS → Prop} (h : wpR (upDS d a f ds) Q) : d = some (.dict []) ∧ ∃ s s', ds = some s ∧ f s = some s' ∧ Q a (some s') := by
  unfold upDS at h
  split at h
  · rename_i s
    split at h
    · rename_i s' e
      exact ⟨rfl, s, s', rfl, e, h⟩
    · exact h.elim
  · exact h.elim
theorem Sim.draws {s : DS} (S : Sim K O env (some s) G r σ H) {i : Nat} (h : getv env i = some (.dict [])) : ∃ x, r = some x ∧ σ[i]? = some (some (V.ref x.d)) ∧
    H x.d = some (.dK [(.inr "cells", .ref x.c), (.inr "lefts", .ref x.l), (.inr "at", .int s.cnt)]) ∧ H x.c = some (.lst (s.cells.map V.int)) ∧ H x.l = some (.lst (s.lefts.map V.int)) := by
  obtain ⟨v, h1, h2⟩ := S.get h
  rcases h2 with h2 | ⟨es, e, _⟩
  · have d := S.drw
    cases h2 with
    | drw hx =>
      subst hx
      obtain ⟨m1, m2, m3, _⟩ := d
      exact ⟨_, rfl, h1, m1, m2, m3⟩
  · cases e
end
section
variable {C : Cz} {T : Tb} {X : Cx} {x : Expr} {f : Env → M D} {i : Nat} {n : Str} {p p1 p2 p3 pos pos' : Pos} {j : Nat}
theorem hu1 (h : XOk C T X) : X.A.units + 1 < cLine := Nat.lt_of_le_of_lt (Nat.add_le_add_left (by decide : 1 ≤ 64) _) h.room.units
theorem dget {x : DA} {s : DS} {H : Hp} (m : H x.d = some (.dK [(.inr "cells", .ref x.c), (.inr "lefts", .ref x.l), (.inr "at", .int s.cnt)])) :
    DGet H x.d (.str "cells") (some (.ref x.c)) ∧ DGet H x.d (.str "lefts") (some (.ref x.l)) ∧ DGet H x.d (.str "at") (some (.int s.cnt)) :=
  ⟨DGet.k (k := .inr "cells") m, DGet.k (k := .inr "lefts") m, DGet.k (k := .inr "at") m⟩
theorem pe_key (h : XOk C T X) (m : nmV C i n = true) (y : Str) : PE X (.Subscript (.Name n p) (.Constant (.str y) j p1) pos) (tDGet (tVar i) (tC (.str y))) := pe_dget (hu1 h) (nmV_ok h m) pe_str fun _ _ => rfl
theorem se_dAt (h : XOk C T X) (m : nmV C i n = true) : SE C X (.Subscript (.Name n p) (.Constant (.str "at") j p1) pos) fun env => onDS (getv env i) fun s => some (.int s.cnt) := by
  refine ⟨_, pe_key h m "at", fun env ds G r σ H Q S w => ?_⟩
  obtain ⟨e, s, a, rfl, ea, k⟩ := onDS_ok w
  cases ea
  obtain ⟨x, rfl, h1, m1, m2, m3⟩ := S.draws e
  exact ⟨_, h1, _, _, rfl, (dget m1).2.2, k _ _ _ _ (Nx.refl S.sub S.drw) (.int _)⟩
theorem se_dLen (h : XOk C T X) (m : nmV C i n = true) (hg : gl C "len" = true) : SE C X (.Call (.Name "len" p2) [.Subscript (.Name n p) (.Constant (.str "cells") j p1) pos] [] pos') fun env => onDS (getv env i) fun s => some (.int s.cells.length) := by
  refine ⟨_, pe_callB call_len_seq (gl_ok h hg) (h.bl _ (by decide +kernel)) PySem.boot_len (pa_cons (pe_key h m "cells") pa_nil), fun env ds G r σ H Q S w => ?_⟩
  obtain ⟨e, s, a, rfl, ea, k⟩ := onDS_ok w
  cases ea
  obtain ⟨x, rfl, h1, m1, m2, m3⟩ := S.draws e
  refine ⟨_, h1, _, _, rfl, (dget m1).1, _, _, rfl, .inl (Sq_at m2), ?_⟩
  rw [List.length_map]
  exact k _ _ _ _ (Nx.refl S.sub S.drw) (.int _)
theorem at_map {ns : List Int} {k a : Int} (e : atI ns k = some a) : atI (ns.map V.int) k = some (.int a) := by
  unfold atI at e ⊢
  rw [List.length_map]
  cases h : ixN ns.length k with
  | none => rw [h] at e; cases e
  | some j =>
    rw [h] at e
    show (ns.map V.int)[j]? = _
    have e' : ns[j]? = some a := e
    rw [List.getElem?_map, e']
    rfl
theorem so_int {k : Nat} {d : Int} {K : PySem.W.Frag} {O : List Nat} {env : Env} {ds : Option DS} {G H : Hp} {r : Option DA} {σ : St} (S : Sim K O env ds G r σ H) (e : (getv env k).bind asI = some d) : σ[k]? = some (some (V.int d)) := by
  obtain ⟨a, e1, e2⟩ := Option.bind_eq_some_iff.mp e
  cases asI_some e2
  obtain ⟨v, h1, h2⟩ := S.get e1
  rcases h2 with h2 | ⟨es, z, _⟩
  · cases h2; exact h1
  · cases z
theorem se_dCell {k : Nat} {y : Str} {p5 : Pos} (h : XOk C T X) (m : nmV C i n = true) (m2 : nmV C k y = true) : SE C X (.Subscript (.Subscript (.Name n p) (.Constant (.str "cells") j p1) pos) (.Name y p5) pos') fun env => bnd (lft ((getv env k).bind asI)) fun n => onDS (getv env i) fun s => (atI s.cells n).map .int := by
  refine ⟨_, pe_ix ix_list (pe_key h m "cells") (nmV_ok h m2) (fun _ _ => rfl), fun env ds G r σ H Q S w => ?_⟩
  obtain ⟨d, e1, w1⟩ := wpR_lft (wpR_bnd.mp w)
  obtain ⟨e, s, a, rfl, ea, k'⟩ := onDS_ok w1
  obtain ⟨c, ec, rfl⟩ := Option.map_eq_some_iff.mp ea
  obtain ⟨x, rfl, h1, m1, m2, m3⟩ := S.draws e
  exact ⟨_, h1, _, _, rfl, (dget m1).1, _, so_int S e1, _, _, _, _, rfl, rfl, Sq_at m2, at_map ec, k' _ _ _ _ (Nx.refl S.sub S.drw) (.int _)⟩
theorem se_dLeft {k : Nat} {y : Str} {p5 : Pos} (h : XOk C T X) (m : nmV C i n = true) (m2 : nmV C k y = true) : SE C X (.Subscript (.Subscript (.Name n p) (.Constant (.str "lefts") j p1) pos) (.Name y p5) pos') fun env => bnd (lft ((getv env k).bind asI)) fun n => onDS (getv env i) fun s => (atI s.lefts n).map .int := by
  refine ⟨_, pe_ix ix_list (pe_key h m "lefts") (nmV_ok h m2) (fun _ _ => rfl), fun env ds G r σ H Q S w => ?_⟩
  obtain ⟨d, e1, w1⟩ := wpR_lft (wpR_bnd.mp w)
  obtain ⟨e, s, a, rfl, ea, k'⟩ := onDS_ok w1
  obtain ⟨c, ec, rfl⟩ := Option.map_eq_some_iff.mp ea
  obtain ⟨x, rfl, h1, m1, m2, m3⟩ := S.draws e
  exact ⟨_, h1, _, _, rfl, (dget m1).2.1, _, so_int S e1, _, _, _, _, rfl, rfl, Sq_at m3, at_map ec, k' _ _ _ _ (Nx.refl S.sub S.drw) (.int _)⟩

/-! ### the script -/
theorem keysI_map (ns : List Int) : keysI (ns.map fun n => (.int n, .none)) = some ns := by
  induction ns with
  | nil => rfl
  | cons n ns ih => rw [List.map_cons, keysI, ih]; rfl
theorem unscr_scrD (ns : List Int) : unscr (scrD ns) = some ns := by
  cases ns with
  | nil => rfl
  | cons n ns =>
    show (keysI (ns.map fun n => (.int n, .none))).map (n :: ·) = _
    rw [keysI_map]; rfl
/-- the script's object -/
theorem Sim.script {K : PySem.W.Frag} {O : List Nat} {env : Env} {ds : Option DS} {G H : Hp} {r : Option DA} {σ : St} {ns : List Int} (S : Sim K O env ds G r σ H) {i : Nat} (h : (getv env i).bind unscr = some ns) : ∃ a, σ[i]? = some (some (V.ref a)) ∧ SqL K H a (ns.map V.int) := by
  obtain ⟨d, e1, e2⟩ := Option.bind_eq_some_iff.mp h
  obtain ⟨v, h1, h2⟩ := S.get e1
  rcases h2 with h2 | ⟨es, z, _⟩
  · cases h2 with
    | drw hx => cases e2
    | scr hs =>
      rename_i a m ms
      have e3 : unscr (scrD (m :: ms)) = some ns := e2
      rw [unscr_scrD] at e3
      cases e3
      exact ⟨_, h1, S.sub.seq hs⟩
    | scr0 hs =>
      have e3 : ns = [] := by
        have : unscr (scrD []) = some ns := e2
        rw [unscr_scrD] at this
        exact (Option.some.inj this).symm
      subst e3
      exact ⟨_, h1, S.sub.seq hs⟩
    | _ => cases e2
  · subst z; cases e2
theorem eqv_nil (ns : List Int) : PyData.eqv (.list (ns.map .int)) (.list []) = ns.isEmpty := by
  cases ns <;> rfl
theorem dp_ints {K : PySem.W.Frag} {H : Hp} : ∀ ns : List Int, DpAll K H (ns.map V.int) (ns.map PyData.int)
  | [] => .nil
  | n :: ns => .cons (.int n) (dp_ints ns)
theorem dq_ints {K : PySem.W.Frag} {G : Hp} {r : Option DA} : ∀ ns : List Int, DqAll K G r (ns.map V.int) (ns.map PyData.int)
  | [] => .nil
  | n :: ns => .cons (.int n) (dq_ints ns)
theorem sr_scr {p4 p5 p6 p7 : Pos} {k : Nat} (h : XOk C T X) (m : nmV C i n = true) (hg : gl C "list" = true) :
    SR C X (.IfExp (.Compare (.Name n p) [.NotEq] [.List [] p1] p2) (.Call (.Name "list" p3) [.Name n p4] [] p5) (.List [.Constant (.int 0) k p6] p7) pos) fun env => lft (((getv env i).bind unscr).map fun ns => .list ((orZero ns).map .int)) := by
  have hu : X.A.units + 64 < cLine := h.room.units
  refine ⟨_, pe_ifExp (pt_cmpR (coR_ok hu .ne) (nmV_ok h m) (pe_lst pa_nil) (nomark _ (by decide) (by decide))) (pe_callTy call_list_of (gl_ok h hg) (h.bl _ (by decide +kernel)) (by decide +kernel) (pa_cons (nmV_ok h m) pa_nil)) (pe_lst (pa_cons pe_int pa_nil)), fun env ds G r σ H Q S w => ?_⟩
  obtain ⟨d, e, es, rfl, k⟩ := wpR_lft w
  obtain ⟨ns, e1, e2⟩ := Option.map_eq_some_iff.mp e
  cases e2
  obtain ⟨a, h1, h2⟩ := S.script e1
  refine ⟨_, h1, Nat.zero_le _, fun o no => ?_⟩
  have na : Nx G r H ds G r (upd H o (.lst [])) := Nx.apart S.sub S.drw no
  have sm : Same H (upd H o (.lst [])) := fun b u q => by rw [upd_ne (ne_of_none q no)]; exact q
  have h3 : SqL X.K (upd H o (.lst [])) a (ns.map V.int) := sm.seq h2
  refine ⟨_, _, .lst h3 (dp_ints ns), .lst (.inl (.inl upd_same)) .nil, PySem.W.shaped_ints ns, PySem.W.shaped_ints [], ?_⟩
  rw [eqv_nil]
  refine ⟨_, rfl, ?_⟩
  cases ns with
  | nil =>
    refine ⟨(by decide), fun p hp => ?_⟩
    exact k p [.int 0] G r _ na hp (.cons (.int 0) .nil)
  | cons n ns =>
    refine ⟨_, h1, _, _, rfl, .inl h3, fun p hp => ?_⟩
    exact k p _ G r _ na hp (dq_ints (n :: ns))
end
end Ev

end
section
set_option maxHeartbeats 8000000
/-! # Ev12: the look at an expression, and that the evaluator is right where the look says yes -/
namespace Ev
open PySem PySem.Spec L2
def mV (C : Cz) : E → Expr → Bool
  | .v i, .Name n _ => nmV C i n
  | _, _ => false
def opB (o : Bo) (op : Operator) : Bool := decide (boOp o = op)
def coB (o : Co) (op : CmpOp) : Bool := decide (coOp o = op)
def kB : D → Const → Bool
  | .none, .none => true
  | .bool b, .bool c => b == c
  | .int i, .int j => i == j
  | .str x, .str y => decide (x = y)
  | _, _ => false
def notSet : Expr → Bool
  | .Set _ _ _ => false
  | _ => true
def kjs : Ks → List Nat
  | .nil => []
  | .cons j _ ks => j :: kjs ks
def esL : Es → Nat
  | .nil => 0
  | .cons _ es => esL es + 1
def isTup : Expr → Bool
  | .Tuple _ _ _ => true
  | _ => false
/-- the names that a target stores, with their places -/
def tgN (C : Cz) (is : List Nat) : List (Str × Nat) := is.map fun i => (C.N.getD i "", i)
mutual
def mE (C : Cz) : E → Expr → Bool
  | .v i, x => match x with
    | .Name n _ => nmV C i n && !(C.own.contains i)
    | _ => false
  | .k d, x => match x with
    | .Constant c _ _ => kB d c
    | _ => false
  | .g i, x => match x with
    | .Name n _ => decide (C.cns[i]? = some n) && (gl C n && dn n)
    | _ => false
  | .bin o a b, x => match x with
    | .BinOp xa op xb _ => opB o op && ((mV C a xa || mE C a xa) && (mV C b xb || mE C b xb))
    | _ => false
  | .neg a, x => match x with
    | .UnaryOp .USub xa _ => mE C a xa
    | _ => false
  | .not a, x => match x with
    | .UnaryOp .Not xa _ => mE C a xa
    | _ => false
  | .and a es, x => match x with
    | .BoolOp .And (xa :: xs) _ => mE C a xa && mEs C es xs
    | _ => false
  | .or a es, x => match x with
    | .BoolOp .Or (xa :: xs) _ => mE C a xa && mEs C es xs
    | _ => false
  | .cmp o a b, x => match x with
    | .Compare xa [op] [xb] _ => coB o op && (notSet xb && ((mV C a xa || mE C a xa) && (mV C b xb || mE C b xb)))
    | _ => false
  | .chain o o' a b c, x => match x with
    | .Compare xa [op, op'] [xb, xc] _ => coB o op && (coB o' op' && (notSet xc && ((mV C a xa || mE C a xa) && ((mV C b xb || mE C b xb) && (mV C c xc || mE C c xc)))))
    | _ => false
  | .ife c a b, x => match x with
    | .IfExp xc xa xb _ => mE C c xc && (mE C a xa && mE C b xb)
    | _ => false
  | .tup es, x => match x with
    | .Tuple xs _ _ => mEs C es xs
    | _ => false
  | .lst es, x => match x with
    | .List xs _ => mEs C es xs
    | _ => false
  | .ix a i, x => match x with
    | .Subscript xa xi _ => (mV C a xa || mE C a xa) && (mE C i xi && plx xi)
    | _ => false
  | .sl a lo hi, x => match x with
    | .Subscript xa (.Slice xl xh none _) _ => (mV C a xa || mE C a xa) && ((match xl with
      | none => isNo lo
      | some xl => !(isNo lo) && mE C lo xl) && (match xh with
      | none => isNo hi
      | some xh => !(isNo hi) && mE C hi xh))
    | _ => false
  | .rev a, x => match x with
    | .Subscript xa (.Slice none none (some (.UnaryOp .USub (.Constant (.int i) _ _) _)) _) _ => decide (i = 1) && (mV C a xa || mE C a xa)
    | _ => false
  | .emp, x => match x with
    | .Dict [] [] _ => true
    | _ => false
  | .lrg a b, x => match x with
    | .Call (.Name l _) [.Call (.Name n _) [xa, xb] [] _] [] _ => decide (l = "list") && (decide (n = "range") && (gl C l && (gl C n && (nst xa && (nst xb && (mE C a xa && mE C b xb))))))
    | _ => false
  | .lrg1 a, x => match x with
    | .Call (.Name l _) [.Call (.Name n _) [xa] [] _] [] _ => decide (l = "list") && (decide (n = "range") && (gl C l && (gl C n && (nst xa && mE C a xa))))
    | _ => false
  | .callL j es, x => match x with
    | .Call (.Name n _) xs [] _ => (match C.fns[j]? with
      | some (y, ps, pat) => decide (y = n) && (gl C n && (dn n && (mOs C es xs && !(xs.isEmpty))))
      | none => false)
    | _ => false
  | .sset a, x => match x with
    | .Call (.Name l _) [.Call (.Name n _) [xa] [] _] [] _ => decide (l = "sorted") && (decide (n = "set") && (gl C l && (gl C n && (nst xa && mE C a xa))))
    | _ => false
  | .srt a, x => match x with
    | .Call (.Name l _) [xa] [] _ => decide (l = "sorted") && (gl C l && (nst xa && mE C a xa))
    | _ => false
  | .no, _ => false
  | .call j es ks, x => match x with
    | .Call (.Name n _) xs kws _ => (match C.fns[j]? with
      | some (y, ps, pat) => decide (y = n) && (gl C n && (dn n && (mEs C es xs && (mKs C ps ks kws && ((match kws with
        | [] => true
        | _ :: _ => pat.contains (esL es, kjs ks)))))))
      | none => false)
    | _ => false
  | .bi f es, x => match x with
    | .Call (.Name n _) xs [] _ => decide (biN f = n) && (gl C n && ((decide (f = .gcd) → C.gcd) && (mOs C es xs && !(xs.isEmpty))))
    | _ => false
  | .isi t a, x => match x with
    | .Call (.Name n _) [xa, .Name y _] [] _ => decide (n = "isinstance") && (decide (y = Str.ofString (tyN t)) && (gl C n && (gl C y && ((mV C a xa || mE C a xa) && nst xa))))
    | _ => false
  | .lc tg it c e, x => match x with
    | .ListComp xe [⟨xt, xi, ifs, an⟩] scope _ => decide (an = 0) && (notSet xi && (blkC C.N C.sc scope (tgN C (tgS tg)) && (mTg (C.blk scope) tg xt && (mItO C it xt xi && ((match ifs with
      | [] => isNo c
      | [xc] => !(isNo c) && mE (C.blk scope) c xc
      | _ => false) && mE (C.blk scope) e xe)))))
    | _ => false
  | .dAt i, x => match x with
    | .Subscript (.Name n _) (.Constant (.str y) _ _) _ => decide (y = "at") && nmV C i n
    | _ => false
  | .dLen i, x => match x with
    | .Call (.Name l _) [.Subscript (.Name n _) (.Constant (.str y) _ _) _] [] _ => decide (l = "len") && (decide (y = "cells") && (nmV C i n && gl C l))
    | _ => false
  | .dCell i k, x => match x with
    | .Subscript (.Subscript (.Name n _) (.Constant (.str y) _ _) _) (.Name m _) _ => decide (y = "cells") && (nmV C i n && nmV C k m)
    | _ => false
  | .dLeft i k, x => match x with
    | .Subscript (.Subscript (.Name n _) (.Constant (.str y) _ _) _) (.Name m _) _ => decide (y = "lefts") && (nmV C i n && nmV C k m)
    | _ => false
  | .scr i, x => match x with
    | .IfExp (.Compare (.Name n _) [.NotEq] [.List [] _] _) (.Call (.Name l _) [.Name m _] [] _) (.List [.Constant (.int z) _ _] _) _ => decide (n = m) && (decide (z = 0) && (decide (l = "list") && (nmV C i n && gl C l)))
    | _ => false
def mEs (C : Cz) : Es → List Expr → Bool
  | .nil, xs => xs.isEmpty
  | .cons e es, xs => match xs with
    | x :: xs => nst x && (mE C e x && mEs C es xs)
    | [] => false
def mOs (C : Cz) : Es → List Expr → Bool
  | .nil, xs => xs.isEmpty
  | .cons e es, xs => match xs with
    | x :: xs => nst x && ((mV C e x || mE C e x) && mOs C es xs)
    | [] => false
def mKs (C : Cz) (ps : List Str) : Ks → List Keyword → Bool
  | .nil, ks => ks.isEmpty
  | .cons j e ks, xs => match xs with
    | ⟨some n, x, _⟩ :: xs => decide (n = ps.getD j "") && (mE C e x && mKs C ps ks xs)
    | _ => false
def mItO (C : Cz) : It → Expr → Expr → Bool
  | .e a, _, x => mV C a x || mE C a x
  | .r1 a, _, x => match x with
    | .Call (.Name n _) [xa] [] _ => decide (n = "range") && (gl C n && (nst xa && mE C a xa))
    | _ => false
  | .r2 a b, _, x => match x with
    | .Call (.Name n _) [xa, xb] [] _ => decide (n = "range") && (gl C n && (nst xa && (mE C a xa && (nst xb && mE C b xb))))
    | _ => false
  | .r3 a b c, _, x => match x with
    | .Call (.Name n _) [xa, xb, xc] [] _ => decide (n = "range") && (gl C n && (nst xa && (mE C a xa && (nst xb && (mE C b xb && (nst xc && mE C c xc))))))
    | _ => false
  | .zip a b, xt, x => match x with
    | .Call (.Name n _) [xa, xb] [] _ => isTup xt && (decide (n = "zip") && (gl C n && (nst xa && ((mV C a xa || mE C a xa) && (nst xb && (mV C b xb || mE C b xb))))))
    | _ => false
  | .enum a, xt, x => match x with
    | .Call (.Name n _) [xa] [] _ => isTup xt && (decide (n = "enumerate") && (gl C n && (nst xa && (mV C a xa || mE C a xa))))
    | _ => false
end
def mItS (C : Cz) : It → Expr → Expr → Bool
  | .e a, _, x => mE C a x
  | .r1 a, _, x => match x with
    | .Call (.Name n _) [xa] [] _ => decide (n = "range") && (gl C n && (nst xa && mE C a xa))
    | _ => false
  | .r2 a b, _, x => match x with
    | .Call (.Name n _) [xa, xb] [] _ => decide (n = "range") && (gl C n && (nst xa && (mE C a xa && (nst xb && mE C b xb))))
    | _ => false
  | .r3 a b c, _, x => match x with
    | .Call (.Name n _) [xa, xb, xc] [] _ => decide (n = "range") && (gl C n && (nst xa && (mE C a xa && (nst xb && (mE C b xb && (nst xc && mE C c xc))))))
    | _ => false
  | .zip a b, xt, x => match x with
    | .Call (.Name n _) [xa, xb] [] _ => isTup xt && (decide (n = "zip") && (gl C n && (nst xa && (mE C a xa && (nst xb && mE C b xb)))))
    | _ => false
  | .enum a, xt, x => match x with
    | .Call (.Name n _) [xa] [] _ => isTup xt && (decide (n = "enumerate") && (gl C n && (nst xa && mE C a xa)))
    | _ => false
/-- the forms that make a list -/
def freshE : E → Bool
  | .bin _ _ _ => true
  | .lst _ => true
  | .sl _ _ _ => true
  | .rev _ => true
  | .lc _ _ _ _ => true
  | .bi .list _ => true
  | .scr _ => true
  | _ => false
section
variable {C : Cz} {T : Tb} {X : Cx} {x : Expr}
theorem SE.cg {f g : Env → M D} (a : SE C X x f) (e : ∀ env, g env = f env) : SE C X x g := by
  have : g = f := funext e
  rw [this]; exact a
theorem ST.cg {f g : Env → M Bool} (a : ST C X x f) (e : ∀ env, g env = f env) : ST C X x g := by
  have : g = f := funext e
  rw [this]; exact a
theorem SR.cg {f g : Env → M D} (a : SR C X x f) (e : ∀ env, g env = f env) : SR C X x g := by
  have : g = f := funext e
  rw [this]; exact a
theorem SA.cg {xs : List Expr} {f g : Env → M (List D)} (a : SA C X xs f) (e : ∀ env, g env = f env) : SA C X xs g := by
  have : g = f := funext e
  rw [this]; exact a
theorem SAO.cg {xs : List Expr} {f g : Env → M (List D)} (a : SAO C X xs f) (e : ∀ env, g env = f env) : SAO C X xs g := by
  have : g = f := funext e
  rw [this]; exact a
theorem so_of {e : E} (h : XOk C T X) (m : (mV C e x || mE C e x) = true) (ih : mE C e x = true → SE C X x (evE T e)) : SO C X x (evE T e) := by
  by_cases c : mV C e x = true
  · unfold mV at c
    split at c
    · rename_i i n p
      have z := so_v (pos := p) h c
      have q : (evE T (E.v i)) = fun env => lft (getv env i) := by funext env; simp only [evE]
      rw [q]; exact z
    · cases c
  · have : mE C e x = true := by
      rw [Bool.or_eq_true] at m
      exact m.resolve_left c
    exact (ih this).o
theorem notSet_ok {e : Expr} (h : notSet e = true) (env : PySem.Env) : ∀ v, foldedSetIterable e env v = pure v := by
  intro v
  cases e <;> first | rfl | cases h
theorem opB_ok {o : Bo} {op : Operator} (h : opB o op = true) : boOp o = op := of_decide_eq_true h
theorem coB_ok {o : Co} {op : CmpOp} (h : coB o op = true) : coOp o = op := of_decide_eq_true h
theorem co_mark (o : Co) {y : Expr} (h : notSet y = true) : behindInMarks (coOp o) y = false := by
  cases y <;> first | rfl | cases h
theorem co_marks (o o' : Co) (y : Expr) {z : Expr} (h : notSet z = true) : lastMarks [coOp o, coOp o'] [y, z] = false := by
  show behindInMarks (coOp o') z = false
  exact co_mark o' h
end
end Ev

end
section
set_option maxHeartbeats 16000000
/-! # Ev13: the evaluator is right at every expression that the look takes -/
namespace Ev
open PySem PySem.Spec L2
section
variable {C : Cz} {T : Tb} {X : Cx} {x : Expr}
theorem tgN_snd (C : Cz) (is : List Nat) : (tgN C is).map (·.2) = is := by
  unfold tgN
  rw [List.map_map]
  induction is with
  | nil => rfl
  | cons i is ih => rw [List.map_cons, ih]; rfl
theorem se_kB {d : D} {c : Const} {j : Nat} {pos : Pos} (m : kB d c = true) : SE C X (.Constant c j pos) fun _ => ret d := by
  unfold kB at m
  split at m
  · exact se_k pe_non fun G r => .non
  · rw [beq_iff_eq] at m; subst m; exact se_k pe_bl fun G r => .bl _
  · rw [beq_iff_eq] at m; subst m; exact se_k pe_int fun G r => .int _
  · have e := of_decide_eq_true m; subst e; exact se_k pe_str fun G r => .str _
  · cases m
theorem leaf3 {f : Env → M D} {e : E} (hl : leafT x = true) (hf : freshE e = false) (a : SE C X x f) : SE C X x f ∧ ST C X x (asBool f) ∧ (freshE e = true → SR C X x f) :=
  ⟨a, st_leaf hl a, fun z => by rw [hf] at z; cases z⟩
theorem bi_form {es : List D} {d : D} (e : biD .list es = some d) : ∃ fs, d = .list fs := by
  unfold biD at e
  split at e <;> first | (cases e; exact ⟨_, rfl⟩) | (rename_i z; cases z) | (cases e)
theorem fresh3 {f : Env → M D} {e : E} (hl : leafT x = true) (a : SR C X x f) (hf : ∀ env ds, wpR (f env ds) (fun _ _ => True) → wpR (f env ds) fun d _ => ∃ es, d = .list es) : SE C X x f ∧ ST C X x (asBool f) ∧ (freshE e = true → SR C X x f) :=
  ⟨a.e hf, st_leaf hl (a.e hf), fun _ => a⟩
theorem evEs_len : ∀ (es : Es) (env : Env) (ds : Option DS), wpR (evEs T es env ds) (fun _ _ => True) → wpR (evEs T es env ds) fun ys _ => ys.length = esL es
  | .nil, env, ds, _ => by simp only [evEs]; rfl
  | .cons e es, env, ds, w => by
    simp only [evEs] at w ⊢
    refine wpR_bnd.mpr (wpR_mono (wpR_bnd.mp w) fun d ds1 w1 => ?_)
    obtain ⟨ys, ds2, e2, _⟩ := wpR_ok (wpR_bnd.mp w1)
    have z := evEs_len es env ds1 (by rw [e2]; trivial)
    refine wpR_bnd.mpr ?_
    rw [e2] at z ⊢
    show (d :: ys).length = _
    rw [List.length_cons, z, esL]
theorem evKs_js : ∀ (ks : Ks) (env : Env) (ds : Option DS), wpR (evKs T ks env ds) (fun _ _ => True) → wpR (evKs T ks env ds) fun kv _ => ∃ es, kv = (kjs ks).zip es ∧ es.length = (kjs ks).length
  | .nil, env, ds, _ => by simp only [evKs]; exact ⟨[], rfl, rfl⟩
  | .cons j e ks, env, ds, w => by
    simp only [evKs] at w ⊢
    refine wpR_bnd.mpr (wpR_mono (wpR_bnd.mp w) fun d ds1 w1 => ?_)
    obtain ⟨kv, ds2, e2, _⟩ := wpR_ok (wpR_bnd.mp w1)
    have z := evKs_js ks env ds1 (by rw [e2]; trivial)
    refine wpR_bnd.mpr ?_
    rw [e2] at z ⊢
    obtain ⟨es, q, l⟩ := z
    exact ⟨d :: es, by rw [q]; rfl, by rw [List.length_cons, l]; rfl⟩
theorem scr3 {i : Nat} (s1 : SR C X x (evE T (.scr i))) : SE C X x (evE T (.scr i)) ∧ ST C X x (asBool (evE T (.scr i))) ∧ (freshE (.scr i) = true → SR C X x (evE T (.scr i))) := by
  have hf : ∀ env ds, wpR (evE T (.scr i) env ds) (fun _ _ => True) → wpR (evE T (.scr i) env ds) fun d _ => ∃ es, d = .list es := fun env ds w => by
    simp only [evE] at w ⊢
    obtain ⟨d, e, _⟩ := wpR_lft w
    rw [e]
    obtain ⟨ns, _, rfl⟩ := Option.map_eq_some_iff.mp e
    exact ⟨_, rfl⟩
  refine ⟨s1.e hf, ⟨fun _ _ _ => False, ⟨fun _ _ _ _ _ _ z => z.elim⟩, fun env ds G r σ H Q S w => ?_⟩, fun _ => s1⟩
  have w0 := wpR_bnd.mp w
  have z := hf env ds (wpR_mono w0 fun _ _ _ => trivial)
  obtain ⟨d, ds1, e, w1⟩ := wpR_ok w0
  rw [e] at z
  obtain ⟨es, rfl⟩ := z
  exact w1.elim
end
section
variable {T : Tb}
mutual
theorem sndE : ∀ (e : E) (C : Cz) (X : Cx) (x : Expr), XOk C T X → mE C e x = true → SE C X x (evE T e) ∧ ST C X x (asBool (evE T e)) ∧ (freshE e = true → SR C X x (evE T e))
  | .v i, C, X, x, h, m => by
    cases x with
    | Name n pos =>
      simp only [mE, Bool.and_eq_true, Bool.not_eq_true'] at m
      exact leaf3 rfl rfl ((se_v h m.1 (by simpa using m.2)).cg fun env => by simp only [evE])
    | _ => cases m
  | .k d, C, X, x, h, m => by
    cases x with
    | Constant c j pos => exact leaf3 rfl rfl ((se_kB (by simpa only [mE] using m)).cg fun env => by simp only [evE])
    | _ => cases m
  | .g i, C, X, x, h, m => by
    cases x with
    | Name n pos =>
      simp only [mE, Bool.and_eq_true] at m
      exact leaf3 rfl rfl ((se_g h m.1 m.2.1 m.2.2).cg fun env => by simp only [evE])
    | _ => cases m
  | .bin o a b, C, X, x, h, m => by
    cases x with
    | BinOp xa op xb pos =>
      simp only [mE, Bool.and_eq_true] at m
      obtain ⟨m1, m2, m3⟩ := m
      have e := opB_ok m1
      subst e
      have sa := so_of h m2 fun z => (sndE a C X xa h z).1
      have sb := so_of h m3 fun z => (sndE b C X xb h z).1
      have s1 : SE C X (.BinOp xa (boOp o) xb pos) (evE T (.bin o a b)) := (se_op (boR_ok o) (bo_hr o) sa sb).cg fun env => by simp only [evE]
      exact ⟨s1, st_leaf rfl s1, fun _ => (sr_op (boR_ok o) (bo_list o) sa sb).cg fun env => by simp only [evE]⟩
    | _ => cases m
  | .neg a, C, X, x, h, m => by
    cases x with
    | UnaryOp op xa pos =>
      cases op with
      | USub => exact leaf3 rfl rfl ((se_neg (sndE a C X xa h (by simpa only [mE] using m)).1).cg fun env => by simp only [evE])
      | _ => cases m
    | _ => cases m
  | .not a, C, X, x, h, m => by
    cases x with
    | UnaryOp op xa pos =>
      cases op with
      | Not =>
        have z := sndE a C X xa h (by simpa only [mE] using m)
        exact ⟨(se_not z.1).cg fun env => by simp only [evE], (st_not z.2.1).cg fun env => by simp only [evE, asBool], fun z => by cases z⟩
      | _ => cases m
    | _ => cases m
  | .and a es, C, X, x, h, m => by
    cases x with
    | BoolOp op vs pos =>
      cases op with
      | And =>
        cases vs with
        | nil => cases m
        | cons xa xs =>
          simp only [mE, Bool.and_eq_true] at m
          have z := sndE a C X xa h m.1
          have q := sndAnd es C X xs h m.2 xa (evE T a) pos z.1 z.2.1
          exact ⟨q.1.cg fun env => by simp only [evE], q.2.st.cg fun env => by simp only [evE, asBool], fun z => by cases z⟩
      | _ => cases m
    | _ => cases m
  | .or a es, C, X, x, h, m => by
    cases x with
    | BoolOp op vs pos =>
      cases op with
      | Or =>
        cases vs with
        | nil => cases m
        | cons xa xs =>
          simp only [mE, Bool.and_eq_true] at m
          have z := sndE a C X xa h m.1
          have q := sndOr es C X xs h m.2 xa (evE T a) pos z.1 z.2.1
          exact ⟨q.1.cg fun env => by simp only [evE], q.2.st.cg fun env => by simp only [evE, asBool], fun z => by cases z⟩
      | _ => cases m
    | _ => cases m
  | .cmp o a b, C, X, x, h, m => by
    have hu : X.A.units + 64 < cLine := h.room.units
    cases x with
    | Compare xa ops cs pos =>
      simp only [mE] at m
      split at m
      · rename_i _ xa' op xb p' e
        cases e
        simp only [Bool.and_eq_true] at m
        obtain ⟨m1, mn, m2, m3⟩ := m
        have e := coB_ok m1
        subst e
        have sa := so_of h m2 fun z => (sndE a C X _ h z).1
        have sb := so_of h m3 fun z => (sndE b C X _ h z).1
        exact ⟨(se_cmp (coR_ok hu o) (co_hr o) (co_mark o mn) sa sb).cg fun env => by simp only [evE], (st_cmp hu (co_mark o mn) sa sb).cg fun env => by simp only [evE, asBool], fun z => by cases z⟩
      · cases m
    | _ => cases m
  | .chain o o' a b c, C, X, x, h, m => by
    have hu : X.A.units + 64 < cLine := h.room.units
    cases x with
    | Compare xa ops cs pos =>
      simp only [mE] at m
      split at m
      · rename_i _ xa' op op' xb xc p' e
        cases e
        simp only [Bool.and_eq_true] at m
        obtain ⟨m1, m1', mn, m2, m3, m4⟩ := m
        have e := coB_ok m1
        have e' := coB_ok m1'
        subst e e'
        have sa := so_of h m2 fun z => (sndE a C X _ h z).1
        have sb := so_of h m3 fun z => (sndE b C X _ h z).1
        have sc := so_of h m4 fun z => (sndE c C X _ h z).1
        exact ⟨(se_chain hu (co_marks o o' _ mn) sa sb sc).cg fun env => by simp only [evE], (st_chain hu (co_marks o o' _ mn) sa sb sc).cg fun env => by simp only [evE, asBool], fun z => by cases z⟩
      · cases m
    | _ => cases m
  | .ife c a b, C, X, x, h, m => by
    cases x with
    | IfExp xc xa xb pos =>
      simp only [mE, Bool.and_eq_true] at m
      obtain ⟨m1, m2, m3⟩ := m
      have zc := sndE c C X xc h m1
      have za := sndE a C X xa h m2
      have zb := sndE b C X xb h m3
      exact ⟨(se_ife zc.2.1 za.1 zb.1).cg fun env => by simp only [evE], (st_ife zc.2.1 za.2.1 zb.2.1).cg fun env => by simp only [evE, asBool], fun z => by cases z⟩
    | _ => cases m
  | .tup es, C, X, x, h, m => by
    cases x with
    | Tuple xs k pos => exact leaf3 rfl rfl ((se_tup (sndEs es C X xs h (by simpa only [mE] using m)).1).cg fun env => by simp only [evE])
    | _ => cases m
  | .lst es, C, X, x, h, m => by
    cases x with
    | List xs pos =>
      refine fresh3 rfl ((sr_lst (sndEs es C X xs h (by simpa only [mE] using m)).1).cg fun env => by simp only [evE]) fun env ds w => ?_
      simp only [evE] at w ⊢
      refine wpR_bnd.mpr (wpR_mono (wpR_bnd.mp w) fun ys ds1 w1 => ?_)
      obtain ⟨d, e, _⟩ := wpR_lft w1
      rw [e]
      split at e
      · cases e; exact ⟨_, rfl⟩
      · cases e
    | _ => cases m
  | .ix a i, C, X, x, h, m => by
    cases x with
    | Subscript xa xi pos =>
      simp only [mE, Bool.and_eq_true] at m
      obtain ⟨m1, m2, m3⟩ := m
      have sa := so_of h m1 fun z => (sndE a C X xa h z).1
      have si := (sndE i C X xi h m2).1
      exact leaf3 rfl rfl ((se_ix (ix_list.or ix_tup) ix_hr (plx_ok m3) sa si.o).cg fun env => by simp only [evE])
    | _ => cases m
  | .sl a lo hi, C, X, x, h, m => by
    cases x with
    | Subscript xa xi pos =>
      simp only [mE] at m
      split at m
      · rename_i _ xa' xl xh p' p2 e
        cases e
        simp only [Bool.and_eq_true] at m
        obtain ⟨m1, m2, m3⟩ := m
        have sa := so_of h m1 fun z => (sndE a C X _ h z).1
        have sl : SP' C X xl fun env => if isNo lo then ret none else bnd (evE T lo env) fun y => lft ((asI y).map some) := by
          cases xl with
          | none =>
            have q : isNo lo = true := m2
            simp only [q, if_true]
            exact sp_none
          | some z =>
            have q : isNo lo = false ∧ mE C lo z = true := by simpa using m2
            simp only [q.1, Bool.false_eq_true, if_false]
            exact sp_some (sndE lo C X z h q.2).1
        have sh : SP' C X xh fun env => if isNo hi then ret none else bnd (evE T hi env) fun y => lft ((asI y).map some) := by
          cases xh with
          | none =>
            have q : isNo hi = true := m3
            simp only [q, if_true]
            exact sp_none
          | some z =>
            have q : isNo hi = false ∧ mE C hi z = true := by simpa using m3
            simp only [q.1, Bool.false_eq_true, if_false]
            exact sp_some (sndE hi C X z h q.2).1
        have s1 : SE C X _ (evE T (.sl a lo hi)) := (se_sl (pos := pos) (p2 := p') sa sl sh).cg fun env => by simp only [evE]
        exact ⟨s1, st_leaf rfl s1, fun _ => (sr_sl (pos := pos) (p2 := p') sa sl sh).cg fun env => by simp only [evE]⟩
      · cases m
    | _ => cases m
  | .rev a, C, X, x, h, m => by
    cases x with
    | Subscript xa xi pos =>
      simp only [mE] at m
      split at m
      · rename_i e
        cases e
        simp only [Bool.and_eq_true, decide_eq_true_eq] at m
        obtain ⟨m0, m1⟩ := m
        subst m0
        have sa := so_of h m1 fun z => (sndE a C X _ h z).1
        exact ⟨(se_rev sa).cg fun env => by simp only [evE], st_leaf rfl ((se_rev sa).cg fun env => by simp only [evE]), fun _ => (sr_rev sa).cg fun env => by simp only [evE]⟩
      · cases m
    | _ => cases m
  | .emp, C, X, x, h, m => by
    cases x with
    | Dict ks vs pos =>
      simp only [mE] at m
      split at m
      · rename_i e
        cases e
        exact leaf3 rfl rfl (se_emp.cg fun env => by simp only [evE])
      · cases m
    | _ => cases m
  | .lrg a b, C, X, x, h, m => by
    cases x with
    | Call fx xs kws pos =>
      simp only [mE] at m
      split at m
      · rename_i e
        cases e
        simp only [Bool.and_eq_true, decide_eq_true_eq] at m
        obtain ⟨m1, m2, m3, m4, m5, m6, m7, m8⟩ := m
        subst m1 m2
        exact leaf3 rfl rfl ((se_lrg h.calm (gl_ok h m3) (h.bl _ (by decide +kernel)) (gl_ok h m4) (h.bl _ (by decide +kernel)) m5 m6 (sndE a C X _ h m7).1 (sndE b C X _ h m8).1).cg fun env => by simp only [evE])
      · cases m
    | _ => cases m
  | .lrg1 a, C, X, x, h, m => by
    cases x with
    | Call fx xs kws pos =>
      simp only [mE] at m
      split at m
      · rename_i e
        cases e
        simp only [Bool.and_eq_true, decide_eq_true_eq] at m
        obtain ⟨m1, m2, m3, m4, m5, m7⟩ := m
        subst m1 m2
        exact leaf3 rfl rfl ((se_lrg1 h.calm (gl_ok h m3) (h.bl _ (by decide +kernel)) (gl_ok h m4) (h.bl _ (by decide +kernel)) m5 (sndE a C X _ h m7).1).cg fun env => by simp only [evE])
      · cases m
    | _ => cases m
  | .sset a, C, X, x, h, m => by
    cases x with
    | Call fx xs kws pos =>
      simp only [mE] at m
      split at m
      · rename_i e
        cases e
        simp only [Bool.and_eq_true, decide_eq_true_eq] at m
        obtain ⟨m1, m2, m3, m4, m5, m7⟩ := m
        subst m1 m2
        exact leaf3 rfl rfl ((se_sset h.calm (gl_ok h m3) (h.bl _ (by decide +kernel)) (gl_ok h m4) (h.bl _ (by decide +kernel)) m5 (sndE a C X _ h m7).1).cg fun env => by simp only [evE])
      · cases m
    | _ => cases m
  | .srt a, C, X, x, h, m => by
    cases x with
    | Call fx xs kws pos =>
      simp only [mE] at m
      split at m
      · rename_i e
        cases e
        simp only [Bool.and_eq_true, decide_eq_true_eq] at m
        obtain ⟨m1, m3, m5, m7⟩ := m
        subst m1
        exact leaf3 rfl rfl ((se_srt (gl_ok h m3) (h.bl _ (by decide +kernel)) m5 (sndE a C X _ h m7).1.o).cg fun env => by simp only [evE])
      · cases m
    | _ => cases m
  | .no, C, X, x, h, m => by cases x <;> cases m
  | .callL j es, C, X, x, h, m => by
    cases x with
    | Call fx xs kws pos =>
      simp only [mE] at m
      split at m
      · rename_i e0
        cases e0
        rw [h.fns, List.getElem?_map] at m
        cases q : T.fs[j]? with
        | none => rw [q] at m; cases m
        | some fn =>
          rw [q] at m
          simp only [Option.map_some, Bool.and_eq_true, decide_eq_true_eq] at m
          obtain ⟨m1, m2, m3, m4, m5⟩ := m
          have hf := h.fs j fn q
          simp only [dn, Bool.and_eq_true, Bool.not_eq_true'] at m3
          have sx := sndOs es C X xs h m4
          cases xs with
          | nil => cases m5
          | cons y ys => exact leaf3 rfl rfl ((se_callL h hf m1.symm m2 m3.1 sx.2 sx.1).cg fun env => by simp only [evE, q])
      · cases m
    | _ => cases m
  | .call j es ks, C, X, x, h, m => by
    cases x with
    | Call fx xs kws pos =>
      cases fx with
      | Name n p =>
        simp only [mE] at m
        rw [h.fns, List.getElem?_map] at m
        cases q : T.fs[j]? with
        | none => rw [q] at m; cases m
        | some fn =>
          rw [q] at m
          simp only [Option.map_some, Bool.and_eq_true, decide_eq_true_eq] at m
          obtain ⟨m1, m2, m3, m4, m5, m6⟩ := m
          have hf := h.fs j fn q
          simp only [dn, Bool.and_eq_true, Bool.not_eq_true'] at m3
          have sx := sndEs es C X xs h m4
          cases kws with
          | nil =>
            have ek : ks = .nil := by cases ks with
              | nil => rfl
              | cons => cases m5
            subst ek
            cases xs with
            | nil =>
              have el : es = .nil := by cases es with
                | nil => rfl
                | cons => cases m4
              subst el
              exact leaf3 rfl rfl ((se_call0 h hf m1.symm m2 m3.1).cg fun env => by simp only [evE, evEs, evKs, q])
            | cons y ys =>
              exact leaf3 rfl rfl ((se_call h hf m1.symm m2 m3.1 sx.2 sx.1).cg fun env => by simp only [evE, evKs, q])
          | cons k0 k1 =>
            have hm : (esL es, kjs ks) ∈ fn.kws := by simpa using m6
            have sk := sndKs ks fn.ps C X (k0 :: k1) h m5
            refine leaf3 rfl rfl ((se_callK h hf m1.symm m2 m3.1 sx.2 hm sk.2 (evEs_len es) (evKs_js ks) (fun _ => sx.1) (fun z => ?_) sk.1).cg fun env => by simp only [evE, q])
            subst z
            cases es with
            | nil => funext env; simp only [evEs]
            | cons => cases m4
      | _ => cases m
    | _ => cases m
  | .bi f es, C, X, x, h, m => by
    cases x with
    | Call fx xs kws pos =>
      cases fx with
      | Name n p =>
        cases kws with
        | nil =>
          simp only [mE, Bool.and_eq_true, decide_eq_true_eq] at m
          obtain ⟨m1, m2, m3, m4, m5⟩ := m
          subst m1
          have sx := sndOs es C X xs h m4
          cases xs with
          | nil => cases m5
          | cons y ys =>
            by_cases c : f = .list
            · subst c
              refine fresh3 rfl ((sr_bi h m2 sx.2 sx.1).cg fun env => by simp only [evE]) fun env ds w => ?_
              simp only [evE] at w ⊢
              refine wpR_bnd.mpr (wpR_mono (wpR_bnd.mp w) fun zs ds1 w1 => ?_)
              obtain ⟨d, e, _⟩ := wpR_lft w1
              rw [e]
              exact bi_form e
            · refine leaf3 rfl (by cases f <;> first | rfl | exact absurd rfl c) ((se_bi h f (fun z => ?_) c m2 sx.2 sx.1).cg fun env => by simp only [evE])
              simpa [z] using m3
        | cons => cases m
      | _ => cases m
    | _ => cases m
  | .isi t a, C, X, x, h, m => by
    cases x with
    | Call fx xs kws pos =>
      simp only [mE] at m
      split at m
      · rename_i _ n p xa y p2 pos' e
        cases e
        simp only [Bool.and_eq_true, decide_eq_true_eq] at m
        obtain ⟨m1, m2, m3, m4, m5, m6⟩ := m
        subst m1 m2
        have sa := so_of h m5 fun z => (sndE a C X _ h z).1
        exact leaf3 rfl rfl ((se_isi h m3 m4 m6 sa).cg fun env => by simp only [evE])
      · cases m
    | _ => cases m
  | .lc tg it c e, C, X, x, h, m => by
    cases x with
    | ListComp xe gs scope pos =>
      simp only [mE] at m
      split at m
      · rename_i _ xe' xt xi ifs an scope' pos' eq
        cases eq
        simp only [Bool.and_eq_true, decide_eq_true_eq] at m
        obtain ⟨m0, m1, m2, m3, m4, m5, m6⟩ := m
        subst m0
        have si := sndItO it C X xt xi h m4
        have sc : ∀ X', XOk (C.blk scope) T X' → STs (C.blk scope) X' ifs fun env => if isNo c then ret true else bnd (evE T c env) fun y => lft (asB y) := fun X' h' => by
          cases ifs with
          | nil =>
            have q : isNo c = true := m5
            simp only [q, if_true]
            exact sts_nil
          | cons xc r =>
            cases r with
            | nil =>
              have q : isNo c = false ∧ mE (C.blk scope) c xc = true := by simpa using m5
              simp only [q.1, Bool.false_eq_true, if_false]
              exact sts_one (sndE c (C.blk scope) X' xc h' q.2).2.1
            | cons => cases m5
        have s1 := sr_lc (pos := pos) h si (notSet_ok m1 X.env) m2 (tgN_snd C (tgS tg)) m3 sc fun X' h' => (sndE e (C.blk scope) X' xe h' m6).1
        refine fresh3 rfl (s1.cg fun env => by simp only [evE, lcF]) fun env ds w => ?_
        simp only [evE] at w ⊢
        refine wpR_bnd.mpr (wpR_mono (wpR_bnd.mp w) fun zs ds1 w1 => ?_)
        refine wpR_bnd.mpr (wpR_mono (wpR_bnd.mp w1) fun ys ds2 w2 => ?_)
        obtain ⟨d, e, _⟩ := wpR_lft w2
        rw [e]
        split at e
        · cases e; exact ⟨_, rfl⟩
        · cases e
      · cases m
    | _ => cases m
  | .dAt i, C, X, x, h, m => by
    simp only [mE] at m
    split at m
    · simp only [Bool.and_eq_true, decide_eq_true_eq] at m
      obtain ⟨m1, m2⟩ := m
      subst m1
      exact leaf3 rfl rfl ((se_dAt h m2).cg fun env => by simp only [evE])
    · cases m
  | .dLen i, C, X, x, h, m => by
    simp only [mE] at m
    split at m
    · simp only [Bool.and_eq_true, decide_eq_true_eq] at m
      obtain ⟨m1, m2, m3, m4⟩ := m
      subst m1 m2
      exact leaf3 rfl rfl ((se_dLen h m3 m4).cg fun env => by simp only [evE])
    · cases m
  | .dCell i k, C, X, x, h, m => by
    simp only [mE] at m
    split at m
    · simp only [Bool.and_eq_true, decide_eq_true_eq] at m
      obtain ⟨m1, m2, m3⟩ := m
      subst m1
      exact leaf3 rfl rfl ((se_dCell h m2 m3).cg fun env => by simp only [evE])
    · cases m
  | .dLeft i k, C, X, x, h, m => by
    simp only [mE] at m
    split at m
    · simp only [Bool.and_eq_true, decide_eq_true_eq] at m
      obtain ⟨m1, m2, m3⟩ := m
      subst m1
      exact leaf3 rfl rfl ((se_dLeft h m2 m3).cg fun env => by simp only [evE])
    · cases m
  | .scr i, C, X, x, h, m => by
    simp only [mE] at m
    split at m
    · simp only [Bool.and_eq_true, decide_eq_true_eq] at m
      obtain ⟨m1, m2, m3, m4, m5⟩ := m
      subst m1 m2 m3
      exact scr3 ((sr_scr h m4 m5).cg fun env => by simp only [evE])
    · cases m
theorem sndAnd : ∀ (es : Es) (C : Cz) (X : Cx) (xs : List Expr), XOk C T X → mEs C es xs = true → ∀ (xa : Expr) (f : Env → M D) (pos : Pos), SE C X xa f → ST C X xa (asBool f) →
    SE C X (.BoolOp .And (xa :: xs) pos) (fun env => bnd (f env) fun x => evAnd T es x env) ∧ SW C X (.BoolOp .And (xa :: xs) pos) (asBool fun env => bnd (f env) fun x => evAnd T es x env)
  | .nil, C, X, xs, h, m, xa, f, pos, a, b => by
    cases xs with
    | nil =>
      have e : (fun env => bnd (f env) fun x => evAnd T .nil x env) = fun env => bnd (f env) fun x => ret x := by funext env; simp only [evAnd]
      rw [e]
      exact ⟨se_and1 a, sw_and1 b⟩
    | cons => cases m
  | .cons e es, C, X, xs, h, m, xa, f, pos, a, b => by
    cases xs with
    | nil => cases m
    | cons y ys =>
      simp only [mEs, Bool.and_eq_true] at m
      obtain ⟨m1, m2, m3⟩ := m
      have z := sndE e C X y h m2
      have q := sndAnd es C X ys h m3 y (evE T e) pos z.1 z.2.1
      have e : (fun env => bnd (f env) fun x => evAnd T (.cons e es) x env) = fun env => bnd (f env) fun x => bnd (lft (asB x)) fun t => if t then bnd (evE T e env) fun y => evAnd T es y env else ret (.bool false) := by funext env; simp only [evAnd]
      rw [e]
      exact ⟨se_andS a q.1, sw_andS b q.2⟩
theorem sndOr : ∀ (es : Es) (C : Cz) (X : Cx) (xs : List Expr), XOk C T X → mEs C es xs = true → ∀ (xa : Expr) (f : Env → M D) (pos : Pos), SE C X xa f → ST C X xa (asBool f) →
    SE C X (.BoolOp .Or (xa :: xs) pos) (fun env => bnd (f env) fun x => evOr T es x env) ∧ SW C X (.BoolOp .Or (xa :: xs) pos) (asBool fun env => bnd (f env) fun x => evOr T es x env)
  | .nil, C, X, xs, h, m, xa, f, pos, a, b => by
    cases xs with
    | nil =>
      have e : (fun env => bnd (f env) fun x => evOr T .nil x env) = fun env => bnd (f env) fun x => ret x := by funext env; simp only [evOr]
      rw [e]
      exact ⟨se_or1 a, sw_or1 b⟩
    | cons => cases m
  | .cons e es, C, X, xs, h, m, xa, f, pos, a, b => by
    cases xs with
    | nil => cases m
    | cons y ys =>
      simp only [mEs, Bool.and_eq_true] at m
      obtain ⟨m1, m2, m3⟩ := m
      have z := sndE e C X y h m2
      have q := sndOr es C X ys h m3 y (evE T e) pos z.1 z.2.1
      have e : (fun env => bnd (f env) fun x => evOr T (.cons e es) x env) = fun env => bnd (f env) fun x => bnd (lft (asB x)) fun t => if t then ret (.bool true) else bnd (evE T e env) fun y => evOr T es y env := by funext env; simp only [evOr]
      rw [e]
      exact ⟨se_orS a q.1, sw_orS b q.2⟩
theorem sndEs : ∀ (es : Es) (C : Cz) (X : Cx) (xs : List Expr), XOk C T X → mEs C es xs = true → SA C X xs (evEs T es) ∧ nsts xs = true
  | .nil, C, X, xs, h, m => by
    cases xs with
    | nil => exact ⟨sa_nil.cg fun env => by simp only [evEs], rfl⟩
    | cons => cases m
  | .cons e es, C, X, xs, h, m => by
    cases xs with
    | nil => cases m
    | cons y ys =>
      simp only [mEs, Bool.and_eq_true] at m
      obtain ⟨m1, m2, m3⟩ := m
      have z := sndE e C X y h m2
      have q := sndEs es C X ys h m3
      exact ⟨(sa_cons m1 z.1 q.1).cg fun env => by simp only [evEs], by simp [nsts, m1, q.2]⟩
theorem sndOs : ∀ (es : Es) (C : Cz) (X : Cx) (xs : List Expr), XOk C T X → mOs C es xs = true → SAO C X xs (evEs T es) ∧ nsts xs = true
  | .nil, C, X, xs, h, m => by
    cases xs with
    | nil => exact ⟨so_nil.cg fun env => by simp only [evEs], rfl⟩
    | cons => cases m
  | .cons e es, C, X, xs, h, m => by
    cases xs with
    | nil => cases m
    | cons y ys =>
      simp only [mOs, Bool.and_eq_true] at m
      obtain ⟨m1, m2, m3⟩ := m
      have z := so_of h m2 fun z => (sndE e C X y h z).1
      have q := sndOs es C X ys h m3
      exact ⟨(so_cons m1 z q.1).cg fun env => by simp only [evEs], by simp [nsts, m1, q.2]⟩
theorem sndKs : ∀ (ks : Ks) (ps : List Str) (C : Cz) (X : Cx) (xs : List Keyword), XOk C T X → mKs C ps ks xs = true → SK C X xs (kjs ks) (evKs T ks) ∧ kwN xs = some ((kjs ks).map fun j => ps.getD j "")
  | .nil, ps, C, X, xs, h, m => by
    cases xs with
    | nil =>
      have e : evKs T .nil = fun _ => ret [] := by funext env; simp only [evKs]
      rw [e]
      exact ⟨sk_nil, rfl⟩
    | cons => cases m
  | .cons j e ks, ps, C, X, xs, h, m => by
    cases xs with
    | nil => cases m
    | cons y ys =>
      obtain ⟨nm, y, kp⟩ := y
      cases nm with
      | none => cases m
      | some n =>
        simp only [mKs, Bool.and_eq_true, decide_eq_true_eq] at m
        obtain ⟨m1, m2, m3⟩ := m
        have z := sndE e C X y h m2
        have q := sndKs ks ps C X ys h m3
        have e : evKs T (.cons j e ks) = fun env => bnd (evE T e env) fun d => bnd (evKs T ks env) fun kv => ret ((j, d) :: kv) := by funext env; simp only [evKs]
        rw [e]
        refine ⟨sk_cons z.1 q.1, ?_⟩
        simp only [kwN, q.2, kjs, List.map_cons, m1, Option.map_some]
theorem sndItO : ∀ (it : It) (C : Cz) (X : Cx) (xt x : Expr), XOk C T X → mItO C it xt x = true → SIo C X xt x (evIt T it)
  | .e a, C, X, xt, x, h, m => by
    have z := so_of h (by simpa only [mItO] using m) fun z => (sndE a C X x h z).1
    have e : evIt T (.e a) = fun env => bnd (evE T a env) fun x => lft (asSeq x) := by funext env; simp only [evIt]
    rw [e]
    exact sio_e z
  | .r1 a, C, X, xt, x, h, m => by
    simp only [mItO] at m
    split at m
    · rename_i _ n p xa pos
      simp only [Bool.and_eq_true, decide_eq_true_eq] at m
      obtain ⟨m1, m2, m3, m4⟩ := m
      subst m1
      have e : evIt T (.r1 a) = fun env => bnd (evE T a env) fun x => bnd (lft (asI x)) fun i => lft (if rngOk i then some (rngD 0 i) else none) := by funext env; simp only [evIt]
      rw [e]
      obtain ⟨wi, pi, q⟩ := rng1 (tg := xt) (p := p) (pos := pos) h m2 m3 (sndE a C X xa h m4).1
      exact ⟨wi, pi, fun env ds G r σ H R S w => q env ds G r σ H R S (wpR_mono w fun xs ds' k J G' r' H' n wk => k J G' r' H' n (wk _))⟩
    · cases m
  | .r2 a b, C, X, xt, x, h, m => by
    simp only [mItO] at m
    split at m
    · rename_i _ n p xa xb pos
      simp only [Bool.and_eq_true, decide_eq_true_eq] at m
      obtain ⟨m1, m2, m3, m4, m5, m6⟩ := m
      subst m1
      have e : evIt T (.r2 a b) = fun env => bnd (evE T a env) fun x => bnd (evE T b env) fun y => bnd (lft (asI x)) fun i => bnd (lft (asI y)) fun j => lft (if rngOk i && rngOk j then some (rngD i j) else none) := by funext env; simp only [evIt]
      rw [e]
      obtain ⟨wi, pi, q⟩ := rng2 (tg := xt) (p := p) (pos := pos) h m2 m3 m5 (sndE a C X xa h m4).1 (sndE b C X xb h m6).1
      exact ⟨wi, pi, fun env ds G r σ H R S w => q env ds G r σ H R S (wpR_mono w fun xs ds' k J G' r' H' n wk => k J G' r' H' n (wk _))⟩
    · cases m
  | .r3 a b c, C, X, xt, x, h, m => by
    simp only [mItO] at m
    split at m
    · rename_i _ n p xa xb xc pos
      simp only [Bool.and_eq_true, decide_eq_true_eq] at m
      obtain ⟨m1, m2, m3, m4, m5, m6, m7, m8⟩ := m
      subst m1
      have e : evIt T (.r3 a b c) = fun env => bnd (evE T a env) fun x => bnd (evE T b env) fun y => bnd (evE T c env) fun z => bnd (lft (asI x)) fun i => bnd (lft (asI y)) fun j => bnd (lft (asI z)) fun k => lft (if rngOk i && rngOk j && decide (k = -1) then some (rngDn i j) else none) := by funext env; simp only [evIt]
      rw [e]
      obtain ⟨wi, pi, q⟩ := rng3 (tg := xt) (p := p) (pos := pos) h m2 m3 m5 m7 (sndE a C X xa h m4).1 (sndE b C X xb h m6).1 (sndE c C X xc h m8).1
      exact ⟨wi, pi, fun env ds G r σ H R S w => q env ds G r σ H R S (wpR_mono w fun xs ds' k J G' r' H' n wk => k J G' r' H' n (wk _))⟩
    · cases m
  | .zip a b, C, X, xt, x, h, m => by
    simp only [mItO] at m
    split at m
    · rename_i _ n p xa xb pos
      simp only [Bool.and_eq_true, decide_eq_true_eq] at m
      obtain ⟨m0, m1, m2, m3, m4, m5, m6⟩ := m
      subst m1
      cases xt with
      | Tuple elts kk tpos =>
        have sa := so_of h m4 fun z => (sndE a C X xa h z).1
        have sb := so_of h m6 fun z => (sndE b C X xb h z).1
        have e : evIt T (.zip a b) = fun env => bnd (evE T a env) fun x => bnd (evE T b env) fun y => match x, y with
          | .list xs, .list ys => ret (zipD xs ys)
          | .tuple xs, .tuple ys => ret (zipD xs ys)
          | .list xs, .tuple ys => ret (zipD xs ys)
          | .tuple xs, .list ys => ret (zipD xs ys)
          | _, _ => stk := by funext env; simp only [evIt] <;> rfl
        rw [e]
        exact sio_zip h m2 m3 m5 sa sb
      | _ => cases m0
    · cases m
  | .enum a, C, X, xt, x, h, m => by
    simp only [mItO] at m
    split at m
    · rename_i _ n p xa pos
      simp only [Bool.and_eq_true, decide_eq_true_eq] at m
      obtain ⟨m0, m1, m2, m3, m4⟩ := m
      subst m1
      cases xt with
      | Tuple elts kk tpos =>
        have sa := so_of h m4 fun z => (sndE a C X xa h z).1
        have e : evIt T (.enum a) = fun env => bnd (evE T a env) fun x => bnd (lft (asSeq x)) fun xs => ret (enumD 0 xs) := by funext env; simp only [evIt]
        rw [e]
        exact sio_enum h m2 m3 sa
      | _ => cases m0
    · cases m
end
theorem sndItS (it : It) (C : Cz) (X : Cx) (xt x : Expr) (h : XOk C T X) (m : mItS C it xt x = true) : SIs C X xt x (evIt T it) := by
  cases it with
  | e a =>
    have z := (sndE a C X x h (by simpa only [mItS] using m)).1
    have e : evIt T (.e a) = fun env => bnd (evE T a env) fun x => lft (asSeq x) := by funext env; simp only [evIt]
    rw [e]
    exact sis_e z
  | r1 a =>
    simp only [mItS] at m
    split at m
    · rename_i _ n p xa pos
      simp only [Bool.and_eq_true, decide_eq_true_eq] at m
      obtain ⟨m1, m2, m3, m4⟩ := m
      subst m1
      have e : evIt T (.r1 a) = fun env => bnd (evE T a env) fun x => bnd (lft (asI x)) fun i => lft (if rngOk i then some (rngD 0 i) else none) := by funext env; simp only [evIt]
      rw [e]
      obtain ⟨wi, pi, q⟩ := rng1 (tg := xt) (p := p) (pos := pos) h m2 m3 (sndE a C X xa h m4).1
      exact ⟨wi, pi, fun env ds G r σ H R S w => q env ds G r σ H R S (wpR_mono w fun xs ds' k J G' r' H' n wk => k J G' r' H' n (wk _))⟩
    · cases m
  | r2 a b =>
    simp only [mItS] at m
    split at m
    · rename_i _ n p xa xb pos
      simp only [Bool.and_eq_true, decide_eq_true_eq] at m
      obtain ⟨m1, m2, m3, m4, m5, m6⟩ := m
      subst m1
      have e : evIt T (.r2 a b) = fun env => bnd (evE T a env) fun x => bnd (evE T b env) fun y => bnd (lft (asI x)) fun i => bnd (lft (asI y)) fun j => lft (if rngOk i && rngOk j then some (rngD i j) else none) := by funext env; simp only [evIt]
      rw [e]
      obtain ⟨wi, pi, q⟩ := rng2 (tg := xt) (p := p) (pos := pos) h m2 m3 m5 (sndE a C X xa h m4).1 (sndE b C X xb h m6).1
      exact ⟨wi, pi, fun env ds G r σ H R S w => q env ds G r σ H R S (wpR_mono w fun xs ds' k J G' r' H' n wk => k J G' r' H' n (wk _))⟩
    · cases m
  | r3 a b c =>
    simp only [mItS] at m
    split at m
    · rename_i _ n p xa xb xc pos
      simp only [Bool.and_eq_true, decide_eq_true_eq] at m
      obtain ⟨m1, m2, m3, m4, m5, m6, m7, m8⟩ := m
      subst m1
      have e : evIt T (.r3 a b c) = fun env => bnd (evE T a env) fun x => bnd (evE T b env) fun y => bnd (evE T c env) fun z => bnd (lft (asI x)) fun i => bnd (lft (asI y)) fun j => bnd (lft (asI z)) fun k => lft (if rngOk i && rngOk j && decide (k = -1) then some (rngDn i j) else none) := by funext env; simp only [evIt]
      rw [e]
      obtain ⟨wi, pi, q⟩ := rng3 (tg := xt) (p := p) (pos := pos) h m2 m3 m5 m7 (sndE a C X xa h m4).1 (sndE b C X xb h m6).1 (sndE c C X xc h m8).1
      exact ⟨wi, pi, fun env ds G r σ H R S w => q env ds G r σ H R S (wpR_mono w fun xs ds' k J G' r' H' n wk => k J G' r' H' n (wk _))⟩
    · cases m
  | zip a b =>
    simp only [mItS] at m
    split at m
    · rename_i _ n p xa xb pos
      simp only [Bool.and_eq_true, decide_eq_true_eq] at m
      obtain ⟨m0, m1, m2, m3, m4, m5, m6⟩ := m
      subst m1
      cases xt with
      | Tuple elts kk tpos =>
        have e : evIt T (.zip a b) = fun env => bnd (evE T a env) fun x => bnd (evE T b env) fun y => match x, y with
          | .list xs, .list ys => ret (zipD xs ys)
          | .tuple xs, .tuple ys => ret (zipD xs ys)
          | .list xs, .tuple ys => ret (zipD xs ys)
          | .tuple xs, .list ys => ret (zipD xs ys)
          | _, _ => stk := by funext env; simp only [evIt] <;> rfl
        rw [e]
        exact sis_zip h m2 m3 m5 (sndE a C X xa h m4).1 (sndE b C X xb h m6).1
      | _ => cases m0
    · cases m
  | enum a =>
    simp only [mItS] at m
    split at m
    · rename_i _ n p xa pos
      simp only [Bool.and_eq_true, decide_eq_true_eq] at m
      obtain ⟨m0, m1, m2, m3, m4⟩ := m
      subst m1
      cases xt with
      | Tuple elts kk tpos =>
        have e : evIt T (.enum a) = fun env => bnd (evE T a env) fun x => bnd (lft (asSeq x)) fun xs => ret (enumD 0 xs) := by funext env; simp only [evIt]
        rw [e]
        exact sis_enum h m2 m3 (sndE a C X xa h m4).1
      | _ => cases m0
    · cases m
end
end Ev

end
section
set_option maxHeartbeats 8000000
/-! # Ev14: statements -/
namespace Ev
open PySem PySem.Spec L2

/-- the data region only grows, the draws stay -/
structure Lk (G : Hp) (r : Option DA) (G' : Hp) (r' : Option DA) : Prop where
  g : Same G G'
  e : r = none ∨ r' = r
theorem Lk.refl {G : Hp} {r : Option DA} : Lk G r G r := ⟨Same.refl G, .inr rfl⟩
theorem Lk.trans {G1 G2 G3 : Hp} {r1 r2 r3 : Option DA} (a : Lk G1 r1 G2 r2) (b : Lk G2 r2 G3 r3) : Lk G1 r1 G3 r3 := by
  refine ⟨a.g.trans b.g, ?_⟩
  rcases a.e with z | z
  · exact .inl z
  · rcases b.e with y | y
    · exact .inl (z.symm.trans y)
    · exact .inr (y.trans z)
theorem Nx.lk {ds' : Option DS} {G G' H H' : Hp} {r r' : Option DA} (n : Nx G r H ds' G' r' H') : Lk G r G' r' := ⟨n.g, n.e⟩
/-- how it was at the def's entry -/
structure Gh where
  G : Hp
  r : Option DA
  H : Hp
/-- the state within a def: the own lists are newer than its entry -/
structure Sm (K : PySem.W.Frag) (Z : Gh) (O : List Nat) (env : Env) (ds : Option DS) (G : Hp) (r : Option DA) (σ : St) (H : Hp) : Prop where
  sim : Sim K O env ds G r σ H
  nx : Nx Z.G Z.r Z.H ds G r H
  fr : ∀ i d a, i ∈ O → env[i]? = some (some d) → σ[i]? = some (some (V.ref a)) → Z.H a = none
def addO (i : Nat) (O : List Nat) : List Nat := if O.contains i then O else i :: O
theorem mem_addO {i j : Nat} {O : List Nat} : j ∈ addO i O ↔ j = i ∨ j ∈ O := by
  unfold addO
  split
  · rename_i h
    have h' : i ∈ O := by simpa using h
    constructor
    · exact .inr
    · rintro (z | z)
      · rw [z]; exact h'
      · exact z
  · simp
section
variable {K : PySem.W.Frag} {Z : Gh} {O : List Nat} {env : Env} {ds ds1 : Option DS} {G G1 H H1 : Hp} {r r1 : Option DA} {σ : St}
theorem Sm.go (S : Sm K Z O env ds G r σ H) (n : Nx G r H ds1 G1 r1 H1) : Sm K Z O env ds1 G1 r1 σ H1 := ⟨n.sim S.sim, S.nx.trans n, S.fr⟩
theorem Sm.newer (S : Sm K Z O env ds G r σ H) {p : Addr} (h : H p = none) : Z.H p = none := by
  cases q : Z.H p with
  | none => rfl
  | some u => exact absurd h (S.nx.k p (by rw [q]; simp))
theorem Sm.updS (S : Sm K Z O env ds G r σ H) {is : List Nat} {env' : Env} {σ' : St} (u : Upd K G r is env env' σ σ') (h : ∀ i ∈ is, i ∉ O) : Sm K Z O env' ds G r σ' H := by
  refine ⟨S.sim.upd u h, S.nx, fun i d a hi e1 e2 => ?_⟩
  have hm : i ∉ is := fun z => h i z hi
  rw [(u.out i hm).2] at e1
  rw [(u.out i hm).1] at e2
  exact S.fr i d a hi e1 e2
/-- no own slot holds that object -/
def Sm.Free (O : List Nat) (env : Env) (σ : St) (p : Addr) : Prop := ∀ (j : Nat) (d : D), j ∈ O → env[j]? = some (some d) → σ[j]? ≠ some (some (V.ref p))
theorem Sm.free (S : Sm K Z O env ds G r σ H) {p : Addr} (h : H p = none) : Sm.Free O env σ p := by
  intro j d hj e1 e2
  obtain ⟨a, xs, es, _, e4, e5, _⟩ := S.sim.own j d hj e1
  rw [e2] at e4
  cases e4
  rw [h] at e5
  cases e5
theorem Sm.setD (S : Sm K Z O env ds G r σ H) {i : Nat} {v : V} {d : D} (hi : i ∉ O) (h : Dq K G r v d) : Sm K Z O (env.set i (some d)) ds G r (σ.set i (some v)) H := by
  have l := S.sim.len
  refine S.updS (is := [i]) ⟨by simp, by simp, fun j hj => ?_, fun j d' hj e => ?_⟩ fun j hj => by
    have e : j = i := by simpa using hj
    rw [e]; exact hi
  · have ne : i ≠ j := fun z => hj (by simp [z])
    exact ⟨List.getElem?_set_ne ne, List.getElem?_set_ne ne⟩
  · have ej : j = i := by simpa using hj
    subst ej
    have lt : j < env.length := by
      have z := (List.getElem?_eq_some_iff.mp e).1
      rwa [List.length_set] at z
    rw [List.getElem?_set_self lt] at e
    cases e
    exact ⟨v, List.getElem?_set_self (by rw [l]; exact lt), h⟩
theorem get_set {α : Type} {l : List α} {i j : Nat} {x y : α} (h : (l.set i x)[j]? = some y) : (j = i ∧ y = x ∧ i < l.length) ∨ (j ≠ i ∧ l[j]? = some y) := by
  by_cases e : j = i
  · subst e
    have lt : j < l.length := by
      have z := (List.getElem?_eq_some_iff.mp h).1
      rwa [List.length_set] at z
    rw [List.getElem?_set_self lt] at h
    cases h
    exact .inl ⟨rfl, rfl, lt⟩
  · rw [List.getElem?_set_ne (Ne.symm e)] at h
    exact .inr ⟨e, h⟩
theorem set_ne {α : Type} {l : List α} {i j : Nat} {x : α} (h : j ≠ i) : (l.set i x)[j]? = l[j]? := List.getElem?_set_ne (Ne.symm h)
theorem Sm.setO (S : Sm K Z O env ds G r σ H) {i : Nat} {p : Addr} {ys : List V} {es : List D} (f : Sm.Free O env σ p) (h1 : H p = some (.lst ys)) (h2 : DqAll K G r ys es) (h3 : Ev.notDA r p) (h4 : G p = none) (h5 : Z.H p = none) :
    Sm K Z (addO i O) (env.set i (some (.list es))) ds G r (σ.set i (some (V.ref p))) H := by
  have l := S.sim.len
  refine ⟨⟨S.sim.sub, by simp [l], fun j d hj e => ?_, fun j d hj e => ?_, fun j j' a hj hj' hn e1 e2 => ?_, S.sim.drw⟩, S.nx, fun j d a hj e1 e2 => ?_⟩
  · have hj' : j ≠ i ∧ j ∉ O := by
      rw [mem_addO] at hj
      exact ⟨fun z => hj (.inl z), fun z => hj (.inr z)⟩
    rw [set_ne hj'.1] at e ⊢
    exact S.sim.var j d hj'.2 e
  · rcases get_set e with ⟨rfl, q, lt⟩ | ⟨ne, q⟩
    · cases q
      exact ⟨p, ys, es, rfl, List.getElem?_set_self (by rw [l]; exact lt), h1, h2, h3, h4⟩
    · rw [set_ne ne]
      exact S.sim.own j d ((mem_addO.mp hj).resolve_left ne) q
  · rcases get_set e1 with ⟨rfl, q, lt⟩ | ⟨ne, q⟩
    · rcases get_set e2 with ⟨rfl, q', lt'⟩ | ⟨ne', q'⟩
      · exact absurd rfl hn
      · cases q
        have hO := (mem_addO.mp hj').resolve_left ne'
        rw [set_ne ne']
        have lt2 := (List.getElem?_eq_some_iff.mp q').1
        rw [l] at lt2
        cases w : env[j'] with
        | none => exact .inr (by rw [List.getElem?_eq_getElem lt2, w])
        | some d => exact absurd q' (f j' d hO (by rw [List.getElem?_eq_getElem lt2, w]))
    · rw [set_ne ne]
      have hO := (mem_addO.mp hj).resolve_left ne
      rcases get_set e2 with ⟨rfl, q', lt'⟩ | ⟨ne', q'⟩
      · cases q'
        have lt2 := (List.getElem?_eq_some_iff.mp q).1
        rw [l] at lt2
        cases w : env[j] with
        | none => exact .inl (by rw [List.getElem?_eq_getElem lt2, w])
        | some d => exact absurd q (f j d hO (by rw [List.getElem?_eq_getElem lt2, w]))
      · rw [set_ne ne']
        exact S.sim.sep j j' a hO ((mem_addO.mp hj').resolve_left ne') hn q q'
  · rcases get_set e2 with ⟨rfl, q, lt⟩ | ⟨ne, q⟩
    · cases q; exact h5
    · rw [set_ne ne] at e1
      exact S.fr j d a ((mem_addO.mp hj).resolve_left ne) e1 q
/-- an own list is written -/
theorem Sm.wr (S : Sm K Z O env ds G r σ H) {i : Nat} {a : Addr} {d : D} {ys : List V} {es : List D} (hi : i ∈ O) (e1 : env[i]? = some (some d)) (e2 : σ[i]? = some (some (V.ref a))) (h : DqAll K G r ys es) :
    Sm K Z O (env.set i (some (.list es))) ds G r σ (upd H a (.lst ys)) := by
  obtain ⟨a', xs', es', _, e4, e5, _, e7, e8⟩ := S.sim.own i d hi e1
  rw [e2] at e4
  cases e4
  have hz := S.fr i d a hi e1 e2
  have drw : DrOk ds G r (upd H a (.lst ys)) := S.sim.drw.mono (fun b u hb q => by
    have ne : b ≠ a := fun z => by rw [z] at hb; exact hb e7
    rw [upd_ne ne]; exact q) fun b q => .inl q
  have same : Same G (upd H a (.lst ys)) := fun b u q => by
    rw [upd_ne (ne_of_none q e8)]
    exact S.sim.sub _ _ q
  have sepa : ∀ (j : Nat) (d' : D), j ∈ O → j ≠ i → env[j]? = some (some d') → σ[j]? ≠ some (some (V.ref a)) := fun j d' hj ne q q2 => by
    rcases S.sim.sep i j a hi hj (Ne.symm ne) e2 q2 with z | z
    · rw [e1] at z; cases z
    · rw [q] at z; cases z
  refine ⟨⟨same, by simp [S.sim.len], fun j d' hj e => ?_, fun j d' hj e => ?_, fun j j' b hj hj' hn q1 q2 => ?_, drw⟩, ⟨S.nx.g, S.nx.e, fun b u hb q => ?_, fun b q => ?_, fun b q => S.nx.f b q, fun b q => S.nx.n b q, same, drw⟩, fun j d' b hj q1 q2 => ?_⟩
  · have ne : j ≠ i := fun z => hj (by rw [z]; exact hi)
    rw [set_ne ne] at e
    exact S.sim.var j d' hj e
  · rcases get_set e with ⟨rfl, q, lt⟩ | ⟨ne, q⟩
    · cases q
      exact ⟨a, ys, es, rfl, e2, upd_same, h, e7, e8⟩
    · obtain ⟨b, xs, fs, f1, f2, f3, f4, f5, f6⟩ := S.sim.own j d' hj q
      refine ⟨b, xs, fs, f1, f2, ?_, f4, f5, f6⟩
      have nb : b ≠ a := fun z => sepa j d' hj ne q (by rw [← z]; exact f2)
      rw [upd_ne nb]; exact f3
  · by_cases c1 : j = i
    · subst c1
      by_cases c2 : j' = j
      · exact absurd c2.symm hn
      · rw [e2] at q1
        cases q1
        rcases S.sim.sep j j' a hi hj' hn e2 q2 with z | z
        · rw [e1] at z; cases z
        · rw [set_ne c2]; exact .inr z
    · by_cases c2 : j' = i
      · subst c2
        rw [e2] at q2
        cases q2
        rcases S.sim.sep j j' a hj hi hn q1 e2 with z | z
        · rw [set_ne c1]; exact .inl z
        · rw [e1] at z; cases z
      · rw [set_ne c1, set_ne c2]
        exact S.sim.sep j j' b hj hj' hn q1 q2
  · have ne : b ≠ a := ne_of_none q hz
    rw [upd_ne ne]; exact S.nx.h b u hb q
  · by_cases c : b = a
    · rw [c, upd_same]; simp
    · rw [upd_ne c]; exact S.nx.k b q
  · by_cases c : j = i
    · subst c; exact S.fr j d b hj e1 q2
    · rw [set_ne c] at q1
      exact S.fr j d' b hj q1 q2
/-- an own list is given to the data -/
theorem Sm.frz (S : Sm K Z O env ds G r σ H) (i : Nat) : ∃ G', Lk G r G' r ∧ Sm K Z (O.filter fun j => j != i) env ds G' r σ H := by
  have mem : ∀ {j}, j ∈ (O.filter fun j => j != i) ↔ j ∈ O ∧ j ≠ i := by
    intro j; simp
  by_cases c : i ∈ O ∧ ∃ d, env[i]? = some (some d)
  · obtain ⟨hi, d, e1⟩ := c
    obtain ⟨a, xs, es, rfl, e2, e3, e4, e5, e6⟩ := S.sim.own i d hi e1
    have hz := S.fr i _ a hi e1 e2
    have g : Same G (upd G a (.lst xs)) := fun b u q => by rw [upd_ne (ne_of_none q e6)]; exact q
    have sub : Same (upd G a (.lst xs)) H := fun b u q => by
      by_cases z : b = a
      · subst z; rw [upd_same] at q; cases q; exact e3
      · rw [upd_ne z] at q; exact S.sim.sub _ _ q
    have drw : DrOk ds (upd G a (.lst xs)) r H := by
      have dr := S.sim.drw
      cases r with
      | none =>
        cases ds with
        | none => trivial
        | some s => exact dr.elim
      | some x =>
        cases ds with
        | none => exact dr.elim
        | some s =>
          obtain ⟨m1, m2, m3, ne, n1, n2, n3⟩ := dr
          obtain ⟨q1, q2, q3⟩ := e5 x rfl
          refine ⟨m1, m2, m3, ne, ?_, ?_, ?_⟩
          · rw [upd_ne (Ne.symm q1)]; exact n1
          · rw [upd_ne (Ne.symm q2)]; exact n2
          · rw [upd_ne (Ne.symm q3)]; exact n3
    refine ⟨upd G a (.lst xs), ⟨g, .inr rfl⟩, ⟨⟨sub, S.sim.len, fun j d' hj e => ?_, fun j d' hj e => ?_, fun j j' b hj hj' => S.sim.sep j j' b (mem.mp hj).1 (mem.mp hj').1, drw⟩, ⟨S.nx.g.trans g, S.nx.e, S.nx.h, S.nx.k, fun b q => ?_, S.nx.n, sub, drw⟩, fun j d' b hj => S.fr j d' b (mem.mp hj).1⟩⟩
    · by_cases z : j = i
      · subst z
        rw [e1] at e
        cases e
        exact ⟨.ref a, e2, .lst upd_same (e4.more g (.inr rfl))⟩
      · obtain ⟨v, h1, h2⟩ := S.sim.var j d' (fun y => hj (mem.mpr ⟨y, z⟩)) e
        exact ⟨v, h1, h2.more g (.inr rfl)⟩
    · obtain ⟨b, ys, fs, f1, f2, f3, f4, f5, f6⟩ := S.sim.own j d' (mem.mp hj).1 e
      refine ⟨b, ys, fs, f1, f2, f3, f4.more g (.inr rfl), f5, ?_⟩
      have nb : b ≠ a := fun z => by
        subst z
        rcases S.sim.sep j i b (mem.mp hj).1 hi (mem.mp hj).2 f2 e2 with z | z
        · rw [e] at z; cases z
        · rw [e1] at z; cases z
      rw [upd_ne nb]; exact f6
    · by_cases z : b = a
      · subst z; exact .inr hz
      · rw [upd_ne z] at q; exact S.nx.f b q
  · refine ⟨G, Lk.refl, ⟨⟨S.sim.sub, S.sim.len, fun j d' hj e => ?_, fun j d' hj e => S.sim.own j d' (mem.mp hj).1 e, fun j j' b hj hj' => S.sim.sep j j' b (mem.mp hj).1 (mem.mp hj').1, S.sim.drw⟩, S.nx, fun j d' b hj => S.fr j d' b (mem.mp hj).1⟩⟩
    by_cases z : j = i
    · subst z
      by_cases hO : j ∈ O
      · exact absurd ⟨hO, d', e⟩ c
      · exact S.sim.var j d' hO e
    · exact S.sim.var j d' (fun y => hj (mem.mpr ⟨y, z⟩)) e
end

/-! ### judgements -/
def WF (K : PySem.W.Frag) (Z : Gh) (O B : List Nat) (G : Hp) (r : Option DA) (E : Ends) (fl : Fl) (ds' : Option DS) : Prop := match fl with
  | .nx env' => ∀ σ' G' r' H', Sm K Z O env' ds' G' r' σ' H' → Lk G r G' r' → E.nx σ' H'
  | .bk env' => ∀ σ' G' r' H', Sm K Z B env' ds' G' r' σ' H' → Lk G r G' r' → E.bk σ' H'
  | .rt d => ∀ v G' r' H', Nx Z.G Z.r Z.H ds' G' r' H' → Dq K G' r' v d → E.rt v H'
theorem WF.lk {K : PySem.W.Frag} {Z : Gh} {O B : List Nat} {G G1 : Hp} {r r1 : Option DA} {E : Ends} {fl : Fl} {ds' : Option DS} (k : Lk G r G1 r1) (h : WF K Z O B G r E fl ds') : WF K Z O B G1 r1 E fl ds' := by
  cases fl with
  | nx env' => exact fun σ' G' r' H' S l => h σ' G' r' H' S (k.trans l)
  | bk env' => exact fun σ' G' r' H' S l => h σ' G' r' H' S (k.trans l)
  | rt d => exact h
section
variable (C : Cz) (O B : List Nat) (X : Cx)
def SS (st : Stmt) (f : Env → M Fl) : Prop := ∃ t : TS, PS X st t ∧ ∀ (Z : Gh) (env : Env) (ds : Option DS) (G : Hp) (r : Option DA) (σ : St) (H : Hp) (E : Ends), Sm X.K Z C.own env ds G r σ H →
  wpR (f env ds) (WF X.K Z O B G r E) → t E σ H
def SSs (sts : List Stmt) (f : Env → M Fl) : Prop := ∃ t : TS, PSs X sts t ∧ ∀ (Z : Gh) (env : Env) (ds : Option DS) (G : Hp) (r : Option DA) (σ : St) (H : Hp) (E : Ends), Sm X.K Z C.own env ds G r σ H →
  wpR (f env ds) (WF X.K Z O B G r E) → t E σ H
end
abbrev Cz.ow (C : Cz) (O : List Nat) : Cz := { C with own := O }
theorem XOk.ow {C : Cz} {T : Tb} {X : Cx} (h : XOk C T X) (O : List Nat) : XOk (C.ow O) T X := ⟨h.N, h.nd, h.sc, h.calm, h.xe, h.fnn, h.grd, h.room, h.fns, h.cns, h.bl, h.gcd, h.cs, h.fs⟩
section
variable {C : Cz} {T : Tb} {X : Cx} {O B : List Nat} {x e : Expr} {st : Stmt} {sts : List Stmt} {f g : Env → M D} {F F2 : Env → M Fl} {pos p : Pos}
theorem ss_seq {O1 : List Nat} (a : SS C O1 B X st F) (b : SSs (C.ow O1) O B X sts F2) : SSs C O B X (st :: sts) fun env => bnd (F env) fun fl => match fl with
    | .nx env' => F2 env'
    | .bk env' => ret (.bk env')
    | .rt d => ret (.rt d) := by
  obtain ⟨t, p1, q1⟩ := a
  obtain ⟨u, p2, q2⟩ := b
  refine ⟨_, pss_cons p1 p2, fun Z env ds G r σ H E S w => ?_⟩
  refine q1 Z env ds G r σ H { E with nx := u E } S (wpR_mono (wpR_bnd.mp w) fun fl ds1 w1 => ?_)
  cases fl with
  | nx env1 => exact fun σ' G' r' H' S1 l => q2 Z env1 ds1 G' r' σ' H' E S1 (wpR_mono w1 fun fl ds2 w2 => w2.lk l)
  | bk env1 => exact fun σ' G' r' H' S1 l => wpR_ret w1 σ' G' r' H' S1 l
  | rt d => exact fun v G' r' H' n m => wpR_ret w1 v G' r' H' n m
theorem ss_dead (a : SS C O B X st F) (hd : ∀ env ds, wpR (F env ds) (fun _ _ => True) → wpR (F env ds) fun fl _ => ∀ env', fl ≠ .nx env') : SSs C O B X (st :: sts) fun env => bnd (F env) fun fl => match fl with
    | .nx env' => F2 env'
    | .bk env' => ret (.bk env')
    | .rt d => ret (.rt d) := by
  obtain ⟨t, p1, q1⟩ := a
  refine ⟨_, pss_cons p1 (pss_never (sts := sts)), fun Z env ds G r σ H E S w => ?_⟩
  have w0 := wpR_bnd.mp w
  have w1 := hd env ds (wpR_mono w0 fun _ _ _ => trivial)
  refine q1 Z env ds G r σ H { E with nx := tNever E } S ?_
  obtain ⟨fl, ds1, e1, w2⟩ := wpR_ok w0
  rw [e1] at w1 ⊢
  cases fl with
  | nx env1 => exact absurd rfl (w1 env1)
  | bk env1 => exact fun σ' G' r' H' S1 l => wpR_ret w2 σ' G' r' H' S1 l
  | rt d => exact fun v G' r' H' n m => wpR_ret w2 v G' r' H' n m
theorem ss_frz {i : Nat} (b : SSs (C.ow (C.own.filter fun j => j != i)) O B X sts F) : SSs C O B X sts F := by
  obtain ⟨u, p2, q2⟩ := b
  refine ⟨u, p2, fun Z env ds G r σ H E S w => ?_⟩
  obtain ⟨G', l, S'⟩ := S.frz i
  exact q2 Z env ds G' r σ H E S' (wpR_mono w fun fl ds2 w2 => w2.lk l)
theorem sss_nil : SSs C C.own B X [] fun env => ret (.nx env) := ⟨_, pss_nil, fun Z env ds G r σ H E S w => wpR_ret w σ G r H S Lk.refl⟩

/-! ### stores -/
theorem sws (env : PySem.Env) (x : Str) (p : Pos) (e : Expr) : swappedStores [.Name x p] e env = pure none := by
  cases e <;> rfl
def noSw : Expr → Bool
  | .ListComp _ _ _ _ => false
  | .SetComp _ _ _ _ => false
  | .DictComp _ _ _ _ _ => false
  | _ => true
theorem noSw_ok {e : Expr} (h : noSw e = true) (tg : Option Expr) (l : Nat) (env : PySem.Env) : swapsWith e tg l env = pure false := by
  cases e <;> first | rfl | cases h
theorem swTup {xs : List Expr} {k : Nat} {q : Pos} (e : Expr) (l : Nat) (env : PySem.Env) : swapsWith e (some (.Tuple xs k q)) l env = pure false := by
  cases e <;> rfl
/-- whether the store of a list comprehension goes before its clean-up -/
theorem sw_lc {elt : Expr} {gs : List Comprehension} {scope : Scope} {q py : Pos} {y : Str} {l : Nat} {env : PySem.Env} : ∃ b, swapsWith (.ListComp elt gs scope q) (some (.Name y py)) l env = pure b ∧ (b = true → env.scope.names.lookup y = some .local) := by
  refine ⟨_, rfl, fun h => ?_⟩
  simp only [Bool.and_eq_true, beq_iff_eq] at h
  exact h.1.1.2
theorem ss_asgT (h : XOk C T X) {tg : Tg} (m : mTg C tg x = true) (hs : swapsWithSole [x] e pos.line X.env = pure false) (hw : swappedStores [x] e X.env = pure none) (a : SE C X e f) : SS C C.own B X (.Assign [x] e pos) fun env => bnd (f env) fun y => bnd (lft (asgT tg y env)) fun env' => ret (.nx env') := by
  obtain ⟨t, p1, q1⟩ := a
  obtain ⟨ho, g, pg, qg⟩ := sg h tg x m
  refine ⟨_, ps_asg p1 pg hs hw (by rw [asg_ns (mTg_ns m)]; rfl), fun Z env ds G r σ H E S w => ?_⟩
  refine q1 env ds G r σ H _ S.sim (wpR_mono (wpR_bnd.mp w) fun d ds1 w1 v G1 r1 H1 n1 hv => ?_)
  obtain ⟨env', ee, w2⟩ := wpR_lft (wpR_bnd.mp w1)
  have S1 := S.go n1
  exact qg v d env env' G1 H1 r1 σ _ n1.s S1.sim.len hv ee fun σ' u => wpR_ret w2 σ' G1 r1 H1 (S1.updS u ho) n1.lk
/-- a name's store, whatever its reading: t is the value's -/
theorem ss_setT {i : Nat} {t : TE} (hi : i ∉ C.own) (ps : PS X st (tAsg t (gName i))) (q1 : ∀ (env : Env) (ds : Option DS) (G : Hp) (r : Option DA) (σ : St) (H : Hp) (Q : VK), Sim X.K C.own env ds G r σ H → wpR (f env ds) (fun d ds' => ∀ v G' r' H', Nx G r H ds' G' r' H' → Dq X.K G' r' v d → Q v H') → t σ H Q) :
    SS C C.own B X st fun env => bnd (f env) fun y => ret (.nx (env.set i (some y))) := by
  refine ⟨_, ps, fun Z env ds G r σ H E S w => ?_⟩
  refine q1 env ds G r σ H _ S.sim (wpR_mono (wpR_bnd.mp w) fun d ds1 w1 v G1 r1 H1 n1 hv => ?_)
  exact wpR_ret w1 _ G1 r1 H1 ((S.go n1).setD hi hv) n1.lk
theorem ss_setO {i : Nat} {t : TE} (ps : PS X st (tAsg t (gName i))) (q1 : ∀ (env : Env) (ds : Option DS) (G : Hp) (r : Option DA) (σ : St) (H : Hp) (Q : VK), Sim X.K C.own env ds G r σ H → wpR (f env ds) (fun d ds' => ∃ es, d = .list es ∧ ∀ p ys G' r' H', Nx G r H ds' G' r' H' → H' p = none → DqAll X.K G' r' ys es → Q (.ref p) (upd H' p (.lst ys))) → t σ H Q) :
    SS C (addO i C.own) B X st fun env => bnd (f env) fun y => bnd (lft (asL y)) fun xs => ret (.nx (env.set i (some (.list xs)))) := by
  refine ⟨_, ps, fun Z env ds G r σ H E S w => ?_⟩
  have w0 := wpR_bnd.mp w
  refine q1 env ds G r σ H _ S.sim (wpR_mono w0 fun d ds1 w1 => ?_)
  obtain ⟨es, e1, w2⟩ := wpR_lft (wpR_bnd.mp w1)
  cases asL_some e1
  refine ⟨es, rfl, fun p ys G1 r1 H1 n1 hp hq => ?_⟩
  have na : Nx G1 r1 H1 ds1 G1 r1 (upd H1 p (.lst ys)) := Nx.apart n1.s n1.d hp
  have S1 := S.go n1
  have ndp : notDA r1 p := Classical.byContradiction fun q => n1.d.live q hp
  have gp : G1 p = none := by
    cases q : G1 p with
    | none => rfl
    | some u => rw [n1.s _ _ q] at hp; cases hp
  exact wpR_ret w2 _ G1 r1 _ ((S1.go na).setO (S1.free hp) upd_same hq ndp gp (S1.newer hp)) n1.lk
end
end Ev

end
section
set_option maxHeartbeats 8000000
/-! # Ev15: more statements -/
namespace Ev
open PySem PySem.Spec L2

/-! ### several stores at once, some of new lists -/
inductive DqFs (K : PySem.W.Frag) (H0 : Hp) (G : Hp) (r : Option DA) (H : Hp) : List Bool → List V → List D → Prop
  | nil : DqFs K H0 G r H [] [] []
  | d {v : V} {d : D} {bs : List Bool} {vs : List V} {es : List D} : Dq K G r v d → DqFs K H0 G r H bs vs es → DqFs K H0 G r H (false :: bs) (v :: vs) (d :: es)
  | o {p : Addr} {ys : List V} {fs : List D} {bs : List Bool} {vs : List V} {es : List D} : H p = some (.lst ys) → DqAll K G r ys fs → notDA r p → G p = none → H0 p = none → (∀ j : Nat, bs[j]? = some true → vs[j]? ≠ some (V.ref p)) → DqFs K H0 G r H bs vs es → DqFs K H0 G r H (true :: bs) (V.ref p :: vs) (.list fs :: es)
section
variable {K : PySem.W.Frag} {H0 H0' : Hp} {G H : Hp} {r : Option DA} {ds : Option DS}
theorem DqFs.fresh : ∀ {bs : List Bool} {vs : List V} {es : List D} {j : Nat} {q : Addr}, DqFs K H0 G r H bs vs es → bs[j]? = some true → vs[j]? = some (V.ref q) → H0 q = none
  | _, _, _, _, _, .nil, e, _ => by simp at e
  | _, _, _, 0, _, .d _ _, e, _ => by simp at e
  | _, _, _, j + 1, _, .d _ t, e, e2 => t.fresh (by simpa using e) (by simpa using e2)
  | _, _, _, 0, _, .o _ _ _ _ h _ _, e, e2 => by
    simp at e2
    subst e2
    exact h
  | _, _, _, j + 1, _, .o _ _ _ _ _ _ t, e, e2 => t.fresh (by simpa using e) (by simpa using e2)
theorem DqFs.base : ∀ {bs : List Bool} {vs : List V} {es : List D}, DqFs K H0 G r H bs vs es → (∀ q, H0 q = none → H0' q = none) → DqFs K H0' G r H bs vs es
  | _, _, _, .nil, _ => .nil
  | _, _, _, .d a t, h => DqFs.d a (t.base h)
  | _, _, _, .o h1 h2 h3 h4 h5 h6 t, h => .o h1 h2 h3 h4 (h _ h5) h6 (t.base h)
theorem DqFs.len : ∀ {bs : List Bool} {vs : List V} {es : List D}, DqFs K H0 G r H bs vs es → vs.length = bs.length ∧ es.length = bs.length
  | _, _, _, .nil => ⟨rfl, rfl⟩
  | _, _, _, .d _ t => ⟨by simp [t.len.1], by simp [t.len.2]⟩
  | _, _, _, .o _ _ _ _ _ _ t => ⟨by simp [t.len.1], by simp [t.len.2]⟩
def stV : List Nat → List V → St → St
  | i :: is, v :: vs, σ => stV is vs (σ.set i (some v))
  | _, _, σ => σ
def owS : List Nat → List Bool → List Nat → List Nat
  | i :: is, true :: bs, O => owS is bs (addO i O)
  | _ :: is, false :: bs, O => owS is bs O
  | _, _, O => O
def okS : List Nat → List Bool → List Nat → Bool
  | [], [], _ => true
  | i :: is, true :: bs, O => okS is bs (addO i O)
  | i :: is, false :: bs, O => !(O.contains i) && okS is bs O
  | _, _, _ => false
theorem Sm.stores {Z : Gh} : ∀ {is : List Nat} {bs : List Bool} {vs : List V} {es : List D} {O : List Nat} {env : Env} {σ : St}, Sm K Z O env ds G r σ H → okS is bs O = true → DqFs K H0 G r H bs vs es → (∀ q, H0 q = none → Z.H q = none) → (∀ (j : Nat) q, bs[j]? = some true → vs[j]? = some (V.ref q) → Sm.Free O env σ q) →
    Sm K Z (owS is bs O) (stE is es env) ds G r (stV is vs σ) H
  | [], _, _, _, _, _, _, S, k, .nil, _, _ => S
  | _ :: _, _, _, _, _, _, _, S, k, .nil, _, _ => by simp [okS] at k
  | [], _, _, _, _, _, _, S, k, .d _ _, _, _ => by simp [okS] at k
  | [], _, _, _, _, _, _, S, k, .o _ _ _ _ _ _ _, _, _ => by simp [okS] at k
  | i :: is, _, _, _, O, env, σ, S, k, .d (v := v) (d := d) a t, hz, hf => by
    simp only [okS, Bool.and_eq_true, Bool.not_eq_true'] at k
    have hi : i ∉ O := by simpa using k.1
    simp only [owS, stE, stV]
    refine Sm.stores (S.setD hi a) k.2 t hz fun j q e1 e2 j' d' hj e3 e4 => ?_
    have ne : j' ≠ i := fun z => hi (by rw [← z]; exact hj)
    rw [set_ne ne] at e3 e4
    exact hf (j + 1) q (by simpa using e1) (by simpa using e2) j' d' hj e3 e4
  | i :: is, _, _, _, O, env, σ, S, k, .o (p := p) (ys := ys) (fs := fs) a b c d e f t, hz, hf => by
    simp only [okS] at k
    simp only [owS, stE, stV]
    refine Sm.stores (S.setO (hf 0 p rfl rfl) a b c d (hz _ e)) k t hz fun j q e1 e2 j' d' hj e3 e4 => ?_
    by_cases z : j' = i
    · subst z
      rcases get_set e4 with ⟨_, y, _⟩ | ⟨ne, _⟩
      · cases y
        exact f j e1 e2
      · exact ne rfl
    · rw [set_ne z] at e3 e4
      exact hf (j + 1) q (by simpa using e1) (by simpa using e2) j' d' ((mem_addO.mp hj).resolve_left z) e3 e4
end
section
variable {C : Cz} {T : Tb} {X : Cx} {O B : List Nat} {x e : Expr} {es : List Expr} {st : Stmt} {sts sts2 : List Stmt} {f g : Env → M D} {F F2 : Env → M Fl} {pos p apos cpos : Pos} {L : Env → M (List D)} {bs : List Bool}
def SAF (C : Cz) (X : Cx) (bs : List Bool) (xs : List Expr) (f : Env → M (List D)) : Prop := ∃ t : TA, PA X xs t ∧ ∀ (env : Env) (ds : Option DS) (G : Hp) (r : Option DA) (σ : St) (H : Hp) (Q : List V → Hp → Prop), Sim X.K C.own env ds G r σ H →
  wpR (f env ds) (fun es ds' => ∀ vs G' r' H', Nx G r H ds' G' r' H' → DqFs X.K H G' r' H' bs vs es → Q vs H') → t σ H Q
theorem saf_nil : SAF C X [] [] fun _ => ret [] := ⟨_, pa_nil, fun env ds G r σ H Q S w => wpR_ret w _ _ _ _ (Nx.refl S.sub S.drw) .nil⟩
theorem saf_d (hn : nst e = true) (a : SE C X e f) (b : SAF C X bs es L) : SAF C X (false :: bs) (e :: es) fun env => bnd (f env) fun x => bnd (L env) fun xs => ret (x :: xs) := by
  obtain ⟨t, p1, q1⟩ := a
  obtain ⟨u, p2, q2⟩ := b
  refine ⟨_, pa_cons p1 p2 (star_ns hn es X.env), fun env ds G r σ H Q S w => ?_⟩
  refine q1 env ds G r σ H _ S (wpR_mono (wpR_bnd.mp w) fun d ds1 w1 v G1 r1 H1 n1 h1 => ?_)
  refine q2 env ds1 G1 r1 σ H1 _ (n1.sim S) (wpR_mono (wpR_bnd.mp w1) fun ys ds2 w2 vs G2 r2 H2 n2 h2 => ?_)
  refine wpR_ret w2 (v :: vs) G2 r2 H2 (n1.trans n2) (.d (h1.more n2.g n2.e) (h2.base fun q z => ?_))
  exact Classical.byContradiction fun y => n1.k q y z
theorem saf_o (hn : nst e = true) (hl : ∀ env ds, wpR (f env ds) (fun _ _ => True) → wpR (f env ds) fun d _ => ∃ fs, d = .list fs) (a : SR C X e f) (b : SAF C X bs es L) : SAF C X (true :: bs) (e :: es) fun env => bnd (f env) fun x => bnd (L env) fun xs => ret (x :: xs) := by
  obtain ⟨t, p1, q1⟩ := a
  obtain ⟨u, p2, q2⟩ := b
  refine ⟨_, pa_cons p1 p2 (star_ns hn es X.env), fun env ds G r σ H Q S w => ?_⟩
  obtain ⟨d, ds1, e1, w1⟩ := wpR_ok (wpR_bnd.mp w)
  have w1' := wpR_bnd.mp w1
  have c := hl env ds (by rw [e1]; trivial)
  rw [e1] at c
  obtain ⟨fs, rfl⟩ := c
  refine q1 env ds G r σ H _ S ?_
  rw [e1]
  refine ⟨fs, rfl, fun p ys G1 r1 H1 n1 hp hq => ?_⟩
  have na : Nx G1 r1 H1 ds1 G1 r1 (upd H1 p (.lst ys)) := Nx.apart n1.s n1.d hp
  refine q2 env ds1 G1 r1 σ _ _ (na.sim (n1.sim S)) (wpR_mono w1' fun zs ds2 w2 vs G2 r2 H2 n2 h2 => ?_)
  have ndp : notDA r1 p := Classical.byContradiction fun q => n1.d.live q hp
  have gp : G1 p = none := by
    cases q : G1 p with
    | none => rfl
    | some u => rw [n1.s _ _ q] at hp; cases hp
  have gp2 : G2 p = none := by
    cases q : G2 p with
    | none => rfl
    | some u =>
      rcases n2.f p (by rw [q]; simp) with z | z
      · exact absurd gp z
      · rw [upd_same] at z; cases z
  have base : ∀ q, (upd H1 p (HO.lst ys)) q = none → H q = none := fun q z => Classical.byContradiction fun y => (n1.trans na).k q y z
  refine wpR_ret w2 (.ref p :: vs) G2 r2 H2 ((n1.trans na).trans n2) (.o (n2.h p _ ndp upd_same) (hq.more n2.g n2.e) (n2.notDA ndp upd_same) gp2 (Classical.byContradiction fun y => n1.k p y hp) (fun j k1 k2 => ?_) (h2.base base))
  have z := h2.fresh k1 k2
  rw [upd_same] at z
  cases z
theorem SAF.cg {f g : Env → M (List D)} (a : SAF C X bs es f) (e : ∀ env, g env = f env) : SAF C X bs es g := by
  have : g = f := funext e
  rw [this]; exact a
theorem ss_cg {f g : Env → M Fl} (a : SS C O B X st f) (e : ∀ env, g env = f env) : SS C O B X st g := by
  have : g = f := funext e
  rw [this]; exact a
theorem sss_cg {f g : Env → M Fl} (a : SSs C O B X sts f) (e : ∀ env, g env = f env) : SSs C O B X sts g := by
  have : g = f := funext e
  rw [this]; exact a
/-- the stores of a pair, of three: what the value's reading owes -/
theorem par_core {is : List Nat} (ok : okS is bs C.own = true) {t : TA} (q : ∀ (env : Env) (ds : Option DS) (G : Hp) (r : Option DA) (σ : St) (H : Hp) (Q : List V → Hp → Prop), Sim X.K C.own env ds G r σ H →
    wpR (L env ds) (fun es ds' => ∀ vs G' r' H', Nx G r H ds' G' r' H' → DqFs X.K H G' r' H' bs vs es → Q vs H') → t σ H Q) (Z : Gh) (env : Env) (ds : Option DS) (G : Hp) (r : Option DA) (σ : St) (H : Hp) (E : Ends) (S : Sm X.K Z C.own env ds G r σ H)
    (w : wpR (bnd (L env) (fun xs => ret (Fl.nx (stE is xs env))) ds) (WF X.K Z (owS is bs C.own) B G r E)) (Q : List V → Hp → Prop) (hQ : ∀ vs H1, vs.length = bs.length → E.nx (stV is vs σ) H1 → Q vs H1) : t σ H Q := by
  refine q env ds G r σ H _ S.sim (wpR_mono (wpR_bnd.mp w) fun xs ds1 w1 vs G1 r1 H1 n1 h1 => hQ vs H1 h1.len.1 ?_)
  exact wpR_ret w1 _ G1 r1 H1 ((S.go n1).stores ok h1 (fun q z => S.newer z) fun j q e1 e2 => S.free (h1.fresh e1 e2)) n1.lk
theorem okS_len : ∀ {is : List Nat} {bs : List Bool} {O : List Nat}, okS is bs O = true → bs.length = is.length
  | [], [], _, _ => rfl
  | i :: is, true :: bs, O, h => by
    simp only [okS] at h
    simp [okS_len h]
  | i :: is, false :: bs, O, h => by
    simp only [okS, Bool.and_eq_true] at h
    simp [okS_len h.2]
  | [], _ :: _, _, h => by simp [okS] at h
  | _ :: _, [], _, h => by simp [okS] at h
theorem ss_par2 {i j : Nat} {n m : Str} {a b : Expr} {px py pt pt2 : Pos} {kt k2 : Nat} (h : XOk C T X) (hi : X.N[i]? = some n) (hj : X.N[j]? = some m) (hij : i ≠ j) (hx : X.env.scope.names.lookup n = some .local) (hy : X.env.scope.names.lookup m = some .local)
    (hw : swappedStores [.Tuple [.Name n px, .Name m py] kt pt] (.Tuple [a, b] k2 pt2) X.env = pure (some [n, m])) (ok : okS [i, j] bs C.own = true) (s : SAF C X bs [a, b] L) :
    SS C (owS [i, j] bs C.own) B X (.Assign [.Tuple [.Name n px, .Name m py] kt pt] (.Tuple [a, b] k2 pt2) pos) fun env => bnd (L env) fun xs => ret (.nx (stE [i, j] xs env)) := by
  obtain ⟨t, pa, q⟩ := s
  refine ⟨_, ps_par h.calm (by rw [h.N]; exact h.nd) hi hj hij hx hy pa hw, fun Z env ds G r σ H E S w => ?_⟩
  refine par_core ok q Z env ds G r σ H E S w _ fun vs H1 l k => ?_
  rw [okS_len ok] at l
  match vs, l with
  | [v, w], _ => exact ⟨v, w, rfl, k⟩
theorem ss_par3 {i j l : Nat} {n m o : Str} {a b c : Expr} {px py pz pt pt2 : Pos} {kt k2 : Nat} (h : XOk C T X) (hi : X.N[i]? = some n) (hj : X.N[j]? = some m) (hl : X.N[l]? = some o) (hij : i ≠ j) (hil : i ≠ l) (hjl : j ≠ l) (hx : X.env.scope.names.lookup n = some .local) (hy : X.env.scope.names.lookup m = some .local) (hz : X.env.scope.names.lookup o = some .local)
    (hw : swappedStores [.Tuple [.Name n px, .Name m py, .Name o pz] kt pt] (.Tuple [a, b, c] k2 pt2) X.env = pure (some [n, m, o])) (ok : okS [i, j, l] bs C.own = true) (s : SAF C X bs [a, b, c] L) :
    SS C (owS [i, j, l] bs C.own) B X (.Assign [.Tuple [.Name n px, .Name m py, .Name o pz] kt pt] (.Tuple [a, b, c] k2 pt2) pos) fun env => bnd (L env) fun xs => ret (.nx (stE [i, j, l] xs env)) := by
  obtain ⟨t, pa, q⟩ := s
  refine ⟨_, ps_par3 h.calm (by rw [h.N]; exact h.nd) hi hj hl hij hil hjl hx hy hz pa hw, fun Z env ds G r σ H E S w => ?_⟩
  refine par_core ok q Z env ds G r σ H E S w _ fun vs H1 l k => ?_
  rw [okS_len ok] at l
  match vs, l with
  | [u, v, w], _ => exact ⟨u, v, w, rfl, k⟩

/-! ### methods of own lists -/
theorem tyL {K : PySem.W.Frag} {H : Hp} {a : Addr} {xs : List V} (h : H a = some (.lst xs)) : tyV K "list" (.ref a) H := Or.inl ⟨rfl, _, Sq_at h⟩
theorem ss_app {i : Nat} {n : Str} (h : XOk C T X) (m : nmV C i n = true) (hi : i ∈ C.own) (hl : (apos.endLine == cpos.line) = true) (hn : nst e = true) (a : SE C X e f) :
    SS C C.own B X (.Expr (.Call (.Attribute (.Name n p) "append" apos) [e] [] cpos) pos) fun env => bnd (lft ((getv env i).bind asL)) fun xs => bnd (f env) fun x => lft (if lenOk (xs.length + 1) then some (.nx (env.set i (some (.list (xs ++ [x]))))) else none) := by
  obtain ⟨t, pa, q⟩ := sa_cons hn a (F := fun _ => ret []) sa_nil
  have hs := star_ns hn [] X.env
  refine ⟨_, ps_expr (pe_bm PySem.F.plainAttrs_list PySem.F.slot_list_append PySem.F.type_list_append mt_append (nmV_ok h m) pa rfl (by rw [hs]; rfl) hl hs rfl), fun Z env ds G r σ H E S w => ?_⟩
  obtain ⟨xs, e1, w1⟩ := wpR_lft (wpR_bnd.mp w)
  obtain ⟨d, e2, e3⟩ := Option.bind_eq_some_iff.mp e1
  cases asL_some e3
  have e4 := getv_some e2
  obtain ⟨b, ys, fs, e5, e6, e7, e8, e9, _⟩ := S.sim.own i _ hi e4
  cases e5
  refine ⟨_, e6, tyL e7, ?_⟩
  refine q env ds G r σ H _ S.sim (wpR_bnd.mpr (wpR_mono (wpR_bnd.mp w1) fun d ds1 w2 => ?_))
  intro vs G1 r1 H1 n1 h1
  cases h1 with
  | cons h1 h2 =>
    cases h2
    obtain ⟨fl, e10, w3⟩ := wpR_lft w2
    split at e10
    · rename_i hz
      cases e10
      have hz' : xs.length + 1 ≤ sizeLine := lenOk_of hz
      have e8' := e8.more n1.g n1.e
      refine ⟨b, ys, _, rfl, rfl, n1.h _ _ e9 e7, by rw [e8.length]; omega, ?_⟩
      exact w3 _ G1 r1 _ ((S.go n1).wr hi e4 e6 (e8'.append (.cons h1 .nil))) n1.lk
    · cases e10
theorem ss_ext {i : Nat} {n : Str} (h : XOk C T X) (m : nmV C i n = true) (hi : i ∈ C.own) (hl : (apos.endLine == cpos.line) = true) (hn : nst e = true) (a : SO C X e f) :
    SS C C.own B X (.Expr (.Call (.Attribute (.Name n p) "extend" apos) [e] [] cpos) pos) fun env => bnd (lft ((getv env i).bind asL)) fun xs => bnd (f env) fun x => bnd (lft (asL x)) fun ys => lft (if lenOk (xs.length + ys.length) then some (.nx (env.set i (some (.list (xs ++ ys))))) else none) := by
  obtain ⟨t, pa, q⟩ := so_cons hn a (F := fun _ => ret []) so_nil
  have hs := star_ns hn [] X.env
  refine ⟨_, ps_expr (pe_bm PySem.F.plainAttrs_list PySem.F.slot_list_extend PySem.F.type_list_extend mt_extend (nmV_ok h m) pa rfl (by rw [hs]; rfl) hl hs rfl), fun Z env ds G r σ H E S w => ?_⟩
  obtain ⟨xs, e1, w1⟩ := wpR_lft (wpR_bnd.mp w)
  obtain ⟨d, e2, e3⟩ := Option.bind_eq_some_iff.mp e1
  cases asL_some e3
  have e4 := getv_some e2
  obtain ⟨b, ys, fs, e5, e6, e7, e8, e9, _⟩ := S.sim.own i _ hi e4
  cases e5
  refine ⟨_, e6, tyL e7, ?_⟩
  refine q env ds G r σ H _ S.sim (wpR_bnd.mpr (wpR_mono (wpR_bnd.mp w1) fun d ds1 w2 => ?_))
  intro vs G1 r1 H1 n1 h1
  cases h1 with
  | cons h1 h2 =>
    cases h2
    obtain ⟨zs, ez, w2⟩ := wpR_lft (wpR_bnd.mp w2)
    cases asL_some ez
    obtain ⟨fl, e10, w3⟩ := wpR_lft w2
    split at e10
    · rename_i hz
      cases e10
      have hz' : xs.length + zs.length ≤ sizeLine := lenOk_of hz
      have e8' := e8.more n1.g n1.e
      obtain ⟨c, us, rfl, ec, hc, _⟩ := h1.list n1.s n1.d
      refine ⟨b, c, ys, us, rfl, rfl, n1.h _ _ e9 e7, ec, by rw [e8.length, hc.length]; omega, ?_⟩
      exact w3 _ G1 r1 _ ((S.go n1).wr hi e4 e6 (e8'.append hc)) n1.lk
    · cases e10

/-! ### the others -/
theorem ss_ex (hs : noSw e = true) (a : SE C X e f) : SS C C.own B X (.Expr e pos) fun env => bnd (f env) fun _ => ret (.nx env) := by
  obtain ⟨t, p1, q1⟩ := a
  refine ⟨_, ps_expr p1 (noSw_ok hs none _ _), fun Z env ds G r σ H E S w => ?_⟩
  exact q1 env ds G r σ H _ S.sim (wpR_mono (wpR_bnd.mp w) fun d ds1 w1 v G1 r1 H1 n1 h1 => wpR_ret w1 σ G1 r1 H1 (S.go n1) n1.lk)
theorem ss_ret (a : SE C X e f) : SS C O B X (.Return (some e) pos) fun env => bnd (f env) fun d => ret (.rt d) := by
  obtain ⟨t, p1, q1⟩ := a
  refine ⟨_, ps_ret p1, fun Z env ds G r σ H E S w => ?_⟩
  exact q1 env ds G r σ H _ S.sim (wpR_mono (wpR_bnd.mp w) fun d ds1 w1 v G1 r1 H1 n1 h1 => wpR_ret w1 v G1 r1 H1 (S.nx.trans n1) h1)
theorem ss_retN : SS C O B X (.Return none pos) fun env => bnd (ret .none) fun d => ret (.rt d) :=
  ⟨_, ps_retN, fun Z env ds G r σ H E S w => wpR_ret (wpR_bnd.mp w) .non G r H S.nx .non⟩
theorem ss_doc {c : Str} {j : Nat} : SS C C.own B X (.Expr (.Constant (.str c) j p) pos) fun env => ret (.nx env) :=
  ⟨_, ps_doc, fun Z env ds G r σ H E S w => wpR_ret w σ G r H S Lk.refl⟩
theorem ss_pass : SS C C.own B X (.Pass pos) fun env => ret (.nx env) :=
  ⟨_, ps_pass, fun Z env ds G r σ H E S w => wpR_ret w σ G r H S Lk.refl⟩
theorem ss_brk : SS C O C.own X (.Break pos) fun env => ret (.bk env) :=
  ⟨_, ps_break, fun Z env ds G r σ H E S w => wpR_ret w σ G r H S Lk.refl⟩
theorem ss_never : SS C O B X st fun _ => stk := ⟨_, ps_never, fun Z env ds G r σ H E S w => w.elim⟩
theorem ss_if {c : Env → M Bool} (a : ST C X e c) (b1 : SSs C O B X sts F) (b2 : SSs C O B X sts2 F2) : SS C O B X (.If e sts sts2 pos) fun env => bnd (c env) fun t => if t then F env else F2 env := by
  obtain ⟨t, p1, q1⟩ := a
  obtain ⟨u, p2, q2⟩ := b1
  obtain ⟨v, p3, q3⟩ := b2
  refine ⟨_, ps_if p1 p2 p3, fun Z env ds G r σ H E S w => ?_⟩
  refine q1 env ds G r σ H _ S.sim (wpR_mono (wpR_bnd.mp w) fun b ds1 w1 G1 r1 H1 n1 => ?_)
  cases b with
  | true => exact q2 Z env ds1 G1 r1 σ H1 E (S.go n1) (wpR_mono w1 fun fl ds2 w2 => w2.lk n1.lk)
  | false => exact q3 Z env ds1 G1 r1 σ H1 E (S.go n1) (wpR_mono w1 fun fl ds2 w2 => w2.lk n1.lk)
theorem ss_whl {c : Env → M Bool} (h : XOk C T X) (n : Nat) (a : ST C X e c) (b : SSs C C.own C.own X sts F) : SS C C.own B X (.While e sts [] pos) fun env => whlL c F n env := by
  obtain ⟨t, p1, q1⟩ := a
  obtain ⟨u, p2, q2⟩ := b
  refine ⟨_, ps_while (by rw [h.xe]; exact PassesOwn.never) p1 p2, fun Z env ds G r σ H E S w => ?_⟩
  refine ⟨fun m σ' H' => ∃ env' ds' G' r', Sm X.K Z C.own env' ds' G' r' σ' H' ∧ Lk G r G' r' ∧ wpR (whlL c F m env' ds') (WF X.K Z C.own B G r E), ⟨n, env, ds, G, r, S, Lk.refl, w⟩, ?_⟩
  rintro m σ1 H1 ⟨env1, ds1, G1, r1, S1, l1, w1⟩
  cases m with
  | zero => exact w1.elim
  | succ m =>
    unfold whlL at w1
    refine q1 env1 ds1 G1 r1 σ1 H1 _ S1.sim (wpR_mono (wpR_bnd.mp w1) fun b ds2 w2 G2 r2 H2 n2 => ?_)
    have S2 := S1.go n2
    have l2 := l1.trans n2.lk
    cases b with
    | true =>
      refine ⟨fun σ' H' => ∃ env' ds' G' r', Sm X.K Z C.own env' ds' G' r' σ' H' ∧ Lk G r G' r' ∧ wpR (whlL c F m env' ds') (WF X.K Z C.own B G r E), fun σ' H' z => ⟨m, Nat.lt_succ_self m, z⟩, ?_⟩
      refine q2 Z env1 ds2 G2 r2 σ1 H2 _ S2 (wpR_mono (wpR_bnd.mp w2) fun fl ds3 w3 => ?_)
      cases fl with
      | nx env3 => exact fun σ' G' r' H' S3 l3 => ⟨env3, ds3, G', r', S3, l2.trans l3, w3⟩
      | bk env3 => exact fun σ' G' r' H' S3 l3 => wpR_ret w3 σ' G' r' H' S3 (l2.trans l3)
      | rt d => exact fun v G' r' H' n3 h3 => wpR_ret w3 v G' r' H' n3 h3
    | false => exact wpR_ret w2 σ1 G2 r2 H2 S2 l2
theorem ss_for {tg : Tg} {L : Env → M (List D)} (h : XOk C T X) (hs : notSet e = true) (m : mTg C tg x = true) (a : SIs C X x e L) (b : SSs C C.own C.own X sts F) :
    SS C C.own B X (.For x e sts [] pos) fun env => bnd (L env) fun xs => forL (fun y env => bnd (lft (asgT tg y env)) fun env' => F env') xs env := by
  obtain ⟨wi, pi, qi⟩ := a
  obtain ⟨u, p2, q2⟩ := b
  obtain ⟨ho, g, pg, qg⟩ := sg h tg x m
  refine ⟨_, ps_for (by rw [h.xe]; exact PassesOwn.never) h.calm pi pg p2 (notSet_ok hs X.env), fun Z env ds G r σ H E S w => ?_⟩
  refine qi env ds G r σ H _ S.sim (wpR_mono (wpR_bnd.mp w) fun xs ds1 w1 J G1 r1 H1 n1 wk1 => ?_)
  let W : Nat → St → Hp → Prop := fun i σ' H' => ∃ env' ds' G' r', Sm X.K Z C.own env' ds' G' r' σ' H' ∧ Lk G r G' r' ∧ Wk X.K G' r' (LIs G') J xs ∧ wpR (forL (fun y env => bnd (lft (asgT tg y env)) fun env' => F env') (xs.drop i) env' ds') (WF X.K Z C.own B G r E)
  refine ⟨fun i m σ' H' => m = xs.length - i ∧ i ≤ xs.length ∧ W i σ' H', ⟨xs.length, by omega, Nat.zero_le _, env, ds1, G1, r1, S.go n1, n1.lk, wk1, w1⟩, ?_⟩
  rintro i m σ1 H2 ⟨rfl, hi, env1, ds2, G2, r2, S2, l2, wk2, w2⟩
  have wko : Wk X.K G2 r2 (LIo r2 H2) J xs := wk2.map (Same.refl G2) (.inr rfl) fun a vs l => ⟨S2.sim.sub _ _ l, S2.sim.drw.apart l⟩
  by_cases hlt : i < xs.length
  · refine .inr ⟨wko.go S2.sim.sub hlt, W (i + 1), fun σ' H' z => ⟨xs.length - (i + 1), by omega, rfl, hlt, z⟩, fun v H3 y => ?_⟩
    have ex : xs[i]? = some xs[i] := List.getElem?_eq_getElem hlt
    obtain ⟨G3, n3, hx⟩ := wko.yld S2.sim.sub S2.sim.drw ex y
    rw [List.drop_eq_getElem_cons hlt] at w2
    unfold forL at w2
    have w3 := wpR_bnd.mp (wpR_bnd.mp w2)
    obtain ⟨env3, ee, w4⟩ := wpR_lft w3
    have S3 := S2.go n3
    refine qg v _ env1 env3 G3 H3 r2 σ1 _ n3.s S3.sim.len hx ee fun σ' u' => ?_
    refine q2 Z env3 ds2 G3 r2 σ' H3 _ (S3.updS u' ho) (wpR_mono w4 fun fl ds4 w5 => ?_)
    have l3 := l2.trans n3.lk
    cases fl with
    | nx env4 => exact fun σ4 G4 r4 H4 S4 l4 => ⟨env4, ds4, G4, r4, S4, l3.trans l4, wk2.map (n3.g.trans l4.g) ((n3.lk.trans l4).e) (fun a vs l => l4.g _ _ (n3.g _ _ l)), w5⟩
    | bk env4 => exact fun σ4 G4 r4 H4 S4 l4 => wpR_ret w5 σ4 G4 r4 H4 S4 (l3.trans l4)
    | rt d => exact fun v G' r' H' n4 h4 => wpR_ret w5 v G' r' H' n4 h4
  · have ei : xs.length ≤ i := by omega
    refine .inl ⟨wko.stop S2.sim.sub ei hi, ?_⟩
    rw [List.drop_of_length_le ei] at w2
    exact wpR_ret w2 σ1 G2 r2 H2 S2 l2
end
end Ev

end
section
set_option maxHeartbeats 8000000
/-! # EvS: the law's draws: what is written -/
namespace Ev
open PySem PySem.Spec L2
section
variable {K : PySem.W.Frag} {Z : Gh} {O : List Nat} {env : Env} {s s' : DS} {G H H' : Hp} {x : DA} {σ : St}
theorem Sm.draw (S : Sm K Z O env (some s) G (some x) σ H) (e : ∀ b, notDA (some x) b → H' b = H b) (d : DrOk (some s') G (some x) H') : Sm K Z O env (some s') G (some x) σ H' := by
  have sub : Same G H' := fun b u q => by rw [e b (S.sim.drw.apart q)]; exact S.sim.sub _ _ q
  have out : ∀ b u, notDA Z.r b → Z.H b = some u → notDA (some x) b := fun b u hb q => by
    refine Classical.byContradiction fun z => ?_
    rcases S.nx.n b z with y | y
    · exact y hb
    · rw [q] at y; cases y
  refine ⟨⟨sub, S.sim.len, S.sim.var, fun i d' hi q => ?_, S.sim.sep, d⟩, ⟨S.nx.g, S.nx.e, fun b u hb q => ?_, fun b q => ?_, S.nx.f, S.nx.n, sub, d⟩, S.fr⟩
  · obtain ⟨a, xs, es, e1, e2, e3, e4, e5, e6⟩ := S.sim.own i d' hi q
    exact ⟨a, xs, es, e1, e2, by rw [e a e5]; exact e3, e4, e5, e6⟩
  · rw [e b (out b u hb q)]; exact S.nx.h b u hb q
  · by_cases z : notDA (some x) b
    · rw [e b z]; exact S.nx.k b q
    · exact d.live z
end
section
variable {C : Cz} {T : Tb} {X : Cx} {O B : List Nat} {x : Expr} {f g : Env → M D} {i : Nat} {n : Str} {p p1 p2 p3 p4 pos pos' : Pos} {j : Nat}
theorem ss_dAt (h : XOk C T X) (m : nmV C i n = true) (hs : noSw x = true) (a : SE C X x f) : SS C C.own B X (.Assign [.Subscript (.Name n p) (.Constant (.str "at") j p1) p2] x pos) fun env => bnd (f env) fun y => upDS (getv env i) (.nx env) fun s => (asI y).map fun k => { s with cnt := k } := by
  obtain ⟨t, pa, q⟩ := a
  refine ⟨_, ps_dput (hu1 h) (nmV_ok h m) pe_str pa (noSw_ok hs _ _ _), fun Z env ds G r σ H E S w => ?_⟩
  refine q env ds G r σ H _ S.sim (wpR_mono (wpR_bnd.mp w) fun d ds1 w1 v G1 r1 H1 n1 h1 => ?_)
  obtain ⟨e, s, s', rfl, es, k⟩ := upDS_ok w1
  obtain ⟨c, ec, rfl⟩ := Option.map_eq_some_iff.mp es
  cases asI_some ec
  cases h1
  have S1 := S.go n1
  obtain ⟨y, rfl, g1, m1, m2, m3⟩ := S1.sim.draws e
  refine ⟨_, g1, _, _, rfl, DPut.k (k := .inr "at") m1 (show 3 < sizeLine by decide), k σ G1 (some y) _ (S1.draw (fun b hb => upd_ne (hb y rfl).1) ?_) n1.lk⟩
  obtain ⟨_, _, _, ne, n1', n2', n3'⟩ := S1.sim.drw
  have nc : y.c ≠ y.d := fun z => by rw [z, m1] at m2; cases m2
  have nl : y.l ≠ y.d := fun z => by rw [z, m1] at m3; cases m3
  exact ⟨upd_same, by rw [upd_ne nc]; exact m2, by rw [upd_ne nl]; exact m3, ne, n1', n2', n3'⟩
theorem ss_dLeft {k : Nat} {y : Str} (h : XOk C T X) (m : nmV C i n = true) (m2 : nmV C k y = true) (hs : noSw x = true) (a : SE C X x f) : SS C C.own B X (.Assign [.Subscript (.Subscript (.Name n p) (.Constant (.str "lefts") j p1) p2) (.Name y p3) p4] x pos)
    fun env => bnd (f env) fun z => bnd (lft ((getv env k).bind asI)) fun n => upDS (getv env i) (.nx env) fun s => (asI z).bind fun y => (ixN s.lefts.length n).map fun m => { s with lefts := s.lefts.set m y } := by
  obtain ⟨t, pa, q⟩ := a
  refine ⟨_, ps_asg pa (pg_sub (pe_key h m "lefts") (nmV_ok h m2) set_list) (by unfold swapsWithSole; exact noSw_ok hs _ pos.line X.env) (by cases x <;> rfl) rfl, fun Z env ds G r σ H E S w => ?_⟩
  refine q env ds G r σ H _ S.sim (wpR_mono (wpR_bnd.mp w) fun d ds1 w1 v G1 r1 H1 n1 h1 => ?_)
  obtain ⟨c, ec, w2⟩ := wpR_lft (wpR_bnd.mp w1)
  obtain ⟨e, s, s', rfl, es, k'⟩ := upDS_ok w2
  obtain ⟨c2, e2, e3⟩ := Option.bind_eq_some_iff.mp es
  obtain ⟨m', em, rfl⟩ := Option.map_eq_some_iff.mp e3
  cases asI_some e2
  cases h1
  have S1 := S.go n1
  obtain ⟨y, rfl, g1, m1, m2, m3⟩ := S1.sim.draws e
  refine ⟨_, g1, _, _, rfl, (dget m1).2.1, _, so_int S1.sim ec, _, _, _, m', rfl, rfl, m3, by rw [List.length_map]; exact em, k' σ G1 (some y) _ (S1.draw (fun b hb => upd_ne (hb y rfl).2.2) ?_) n1.lk⟩
  obtain ⟨_, _, _, ne, n1', n2', n3'⟩ := S1.sim.drw
  have nl : y.d ≠ y.l := fun z => by rw [← z, m1] at m3; cases m3
  refine ⟨by rw [upd_ne nl]; exact m1, by rw [upd_ne ne]; exact m2, ?_, ne, n1', n2', n3'⟩
  rw [upd_same, List.map_set]
theorem DqAll.set {K : PySem.W.Frag} {G : Hp} {r : Option DA} : ∀ {vs : List V} {ds : List D} {m : Nat} {v : V} {d : D}, DqAll K G r vs ds → Dq K G r v d → DqAll K G r (vs.set m v) (ds.set m d)
  | _, _, _, _, _, .nil, _ => .nil
  | _, _, 0, _, _, .cons _ t, q => .cons q t
  | _, _, m + 1, _, _, .cons h t, q => .cons h (DqAll.set t q)
theorem ss_put {k : Env → M D} {xk : Expr} (h : XOk C T X) (m : nmV C i n = true) (hi : i ∈ C.own) (hp : plx xk = true) (hs : noSw x = true) (ak : SE C X xk k) (a : SE C X x f) :
    SS C C.own B X (.Assign [.Subscript (.Name n p) xk p2] x pos) fun env => bnd (f env) fun x => bnd (lft ((getv env i).bind asL)) fun xs => bnd (k env) fun j => lft (((asI j).bind (L2.ixN xs.length)).map fun m => .nx (env.set i (some (.list (xs.set m x))))) := by
  obtain ⟨t, pa, q⟩ := a
  obtain ⟨t2, pa2, q2⟩ := ak
  refine ⟨_, ps_asg pa (pg_sub (nmV_ok h m) pa2 set_list (by cases xk <;> first | (intro v; rfl) | cases hp)) (by unfold swapsWithSole; exact noSw_ok hs _ pos.line X.env) (by cases x <;> rfl) rfl, fun Z env ds G r σ H E S w => ?_⟩
  refine q env ds G r σ H _ S.sim (wpR_mono (wpR_bnd.mp w) fun d ds1 w1 v G1 r1 H1 n1 h1 => ?_)
  obtain ⟨xs, e1, w2⟩ := wpR_lft (wpR_bnd.mp w1)
  obtain ⟨d0, e2, e3⟩ := Option.bind_eq_some_iff.mp e1
  cases asL_some e3
  have e4 := getv_some e2
  have S1 := S.go n1
  obtain ⟨b, ys, fs, e5, e6, e7, e8, e9, _⟩ := S1.sim.own i _ hi e4
  cases e5
  refine ⟨_, e6, ?_⟩
  refine q2 env ds1 G1 r1 σ H1 _ S1.sim (wpR_mono (wpR_bnd.mp w2) fun dj ds2 w3 vj G2 r2 H2 n2 h2 => ?_)
  obtain ⟨fl, e10, w4⟩ := wpR_lft w3
  obtain ⟨m0, e11, rfl⟩ := Option.map_eq_some_iff.mp e10
  obtain ⟨c, e12, e13⟩ := Option.bind_eq_some_iff.mp e11
  cases asI_some e12
  cases h2
  have S2 := S1.go n2
  refine ⟨b, ys, c, m0, rfl, rfl, n2.h _ _ e9 e7, by rw [e8.length]; exact e13, ?_⟩
  exact w4 σ G2 r2 _ (S2.wr hi e4 e6 ((e8.more n2.g n2.e).set (h1.more n2.g n2.e))) (n1.trans n2).lk
theorem ss_dRet {k0 k1 k2 k3 : Nat} {q0 q1 q2 q3 : Pos} (h : XOk C T X) (m : nmV C i n = true) (hi : i ∈ C.own) (hl : ∀ env ds, wpR (f env ds) (fun _ _ => True) → wpR (f env ds) fun d _ => ∃ fs, d = .list fs) (a : SR C X x f) :
    SS C O B X (.Return (some (.Dict [some (.Constant (.str "cells") k0 q0), some (.Constant (.str "lefts") k1 q1), some (.Constant (.str "at") k2 q2)] [.Name n p, x, .Constant (.int 0) k3 q3] p1)) pos)
    fun env => bnd (f env) fun y => mkDS (.rt (.dict [])) (((getv env i).bind asL).bind intsOf) ((asL y).bind intsOf) := by
  obtain ⟨t, pa, q⟩ := a
  refine ⟨_, ps_ret (pe_disp (pps_cons pe_str (nmV_ok h m) (pps_cons pe_str pa (pps_cons pe_str pe_int pps_nil))) rfl rfl (by simp) (show 3 ≤ 15 by decide)), fun Z env ds G r σ H E S w => ?_⟩
  intro b nb
  have n0 : Nx G r H ds G r (upd H b (.dK [])) := Nx.apart S.sim.sub S.sim.drw nb
  have S0 := S.go n0
  obtain ⟨d, ds1, e1, w1⟩ := wpR_ok (wpR_bnd.mp w)
  have z := hl env ds (by rw [e1]; trivial)
  rw [e1] at z
  obtain ⟨fs, rfl⟩ := z
  -- what the answer needs
  unfold mkDS at w1
  split at w1
  · rename_i c l ec el
    obtain ⟨d1, ed1, ed2⟩ := Option.bind_eq_some_iff.mp ec
    obtain ⟨d2, ed3, ed4⟩ := Option.bind_eq_some_iff.mp ed1
    cases asL_some ed4
    have e4 := getv_some ed3
    obtain ⟨a, xs, es, z5, e6, e7, e8, e9, e10⟩ := S.sim.own i _ hi e4
    cases z5
    refine ⟨_, e6, ?_⟩
    refine q env ds G r σ _ _ S0.sim ?_
    rw [e1]
    refine ⟨fs, rfl, fun c' ys G1 r1 H1 n1 hc hy => ?_⟩
    have na : Nx G1 r1 H1 none G1 r1 (upd H1 c' (.lst ys)) := Nx.apart n1.s n1.d hc
    have all := (n0.trans n1).trans na
    have r1n : r1 = none := by
      have dd := n1.d
      cases r1 with
      | none => rfl
      | some _ => exact dd.elim
    subst r1n
    have rn : r = none := by
      rcases (n0.trans n1).e with z | z
      · exact z
      · exact z.symm
    subst rn
    have zrn : Z.r = none := by
      rcases S.nx.e with z | z
      · exact z
      · exact z.symm
    have nda : ∀ b : Addr, notDA none b := fun _ x hx => by cases hx
    have hb1 : H1 b = some (.dK []) := n1.h b _ (nda b) upd_same
    have hbc : b ≠ c' := ne_of_none hb1 hc
    have ha1 : H1 a = some (.lst xs) := (n0.trans n1).h a _ (nda a) e7
    have hac : a ≠ c' := ne_of_none ha1 hc
    have hab : a ≠ b := ne_of_none e7 nb
    have gb : G1 b = none := by
      cases q : G1 b with
      | none => rfl
      | some u =>
        rcases (n0.trans n1).f b (by rw [q]; simp) with z | z
        · exact absurd (S.sim.sub _ _ (Option.ne_none_iff_exists'.mp z).choose_spec) (by rw [nb]; simp)
        · have q2 := n1.s _ _ q
          rw [hb1] at q2
          cases q2
          rcases n1.f b (by rw [q]; simp) with z | z
          · exact absurd (S.sim.sub _ _ (Option.ne_none_iff_exists'.mp z).choose_spec) (by rw [nb]; simp)
          · rw [upd_same] at z; cases z
    have gc : G1 c' = none := by
      cases q : G1 c' with
      | none => rfl
      | some u => rw [n1.s _ _ q] at hc; cases hc
    have ga : G1 a = none := by
      cases q : G1 a with
      | none => rfl
      | some u =>
        rcases (n0.trans n1).f a (by rw [q]; simp) with z | z
        · exact absurd e10 z
        · rw [e7] at z; cases z
    have xi := e8.ints ed2
    obtain ⟨d3, ed5, ed6⟩ := Option.bind_eq_some_iff.mp el
    cases asL_some ed5
    have yi := hy.ints ed6
    refine ⟨by rw [upd_ne hbc]; exact hb1, [(.inr "cells", .ref a), (.inr "lefts", .ref c'), (.inr "at", .int 0)], rfl, (show 3 ≤ 15 by decide), ?_⟩
    have w2 : ∀ v G' r' H', Nx Z.G Z.r Z.H (some ⟨c, l, 0⟩) G' r' H' → Dq X.K G' r' v (.dict []) → E.rt v H' := w1
    refine w2 _ G1 (some ⟨b, a, c'⟩) _ ⟨S.nx.g.trans (n0.trans n1).g, .inl zrn, fun u o hu q => ?_, fun u q => ?_, fun u q => (S.nx.trans (n0.trans n1)).f u q, fun u q => ?_, fun u o q => ?_, ?_⟩ (.drw (x := ⟨b, a, c'⟩) rfl)
    · have q2 := S.nx.h u o hu q
      have hub : u ≠ b := ne_of_none q2 nb
      rw [upd_ne hub]
      exact all.h u o (nda u) q2
    · by_cases z : u = b
      · rw [z, upd_same]; simp
      · rw [upd_ne z]; exact all.k u (S.nx.k u q)
    · refine .inr ?_
      by_cases z1 : u = b
      · rw [z1]; exact S.newer nb
      · by_cases z2 : u = a
        · rw [z2]; exact S.fr i _ a hi e4 e6
        · by_cases z3 : u = c'
          · rw [z3]
            exact (S.go (n0.trans n1)).newer hc
          · exact absurd (fun x hx => by cases hx; exact ⟨z1, z2, z3⟩) q
    · have z1 : u ≠ b := ne_of_none q gb
      have z2 : u ≠ c' := ne_of_none q gc
      rw [upd_ne z1, upd_ne z2]
      exact n1.s _ _ q
    · refine ⟨by rw [upd_same]; rfl, ?_, ?_, hac, gb, ga, gc⟩
      · show upd _ b _ a = _
        rw [upd_ne hab, upd_ne hac, ha1, xi]
      · show upd _ b _ c' = _
        rw [upd_ne (Ne.symm hbc), upd_same, yi]
  · exact w1.elim
end
end Ev

end
section
set_option maxHeartbeats 16000000
/-! # Ev16: the look at statements, and that the evaluator is right where it says yes -/
namespace Ev
open PySem PySem.Spec L2
/-- two ways come together: the own lists must be the same; none: does not go on -/
def jo : Option (List Nat) → Option (List Nat) → Option (Option (List Nat))
  | none, w => some w
  | some a, none => some (some a)
  | some a, some b => if a = b then some (some a) else none
def gd (b : Bool) (w : Option (List Nat)) : Option (Option (List Nat)) := if b then some w else none
def locE (C : Cz) (x : Str) : Bool := C.sc.names.lookup x == some .local
/-- the stores of a pair are in the usual order -/
def unsw (C : Cz) (ts vs : List Expr) : Bool := decide (3 < ts.length) || vs.all (foldedForSure 8) || ts.any fun t => match t with
  | .Name n _ => !(locE C n)
  | _ => true
def asgK (C : Cz) (x e : Expr) : Bool := match x with
  | .Tuple ts _ _ => (match e with
    | .Tuple vs _ _ => unsw C ts vs
    | _ => true)
  | _ => false
def freshL : E → Bool
  | .lst _ => true
  | .lc _ _ _ _ => true
  | .bi .list _ => true
  | _ => false
def mFs (C : Cz) : List Bool → Es → List Expr → Bool
  | [], .nil, [] => true
  | true :: bs, .cons e es, x :: xs => nst x && (freshL e && (mE C e x && mFs C bs es xs))
  | false :: bs, .cons e es, x :: xs => nst x && (mE C e x && mFs C bs es xs)
  | _, _, _ => false
def nmP (C : Cz) (i : Nat) (n : Str) : Bool := decide (C.N[i]? = some n) && locE C n
def hard (vs : List Expr) : Bool := !(vs.all (foldedForSure 8)) && !(vs.all (constantsAlone 8))
def isDoc : Stmt → Bool
  | .Expr (.Constant (.str _) _ _) _ => true
  | .Pass _ => true
  | _ => false
mutual
def mS (C : Cz) (B : List Nat) : S → Stmt → Option (Option (List Nat))
  | .asg (.n i) e, st => match st with
    | .Assign [.Name n _] x _ => gd (nmL C i n && (!(C.own.contains i) && mE C e x)) (some C.own)
    | _ => none
  | .asg (.t ts) e, st => match st with
    | .Assign [xt] x _ => gd (mTg C (.t ts) xt && (asgK C xt x && mE C e x)) (some C.own)
    | _ => none
  | .asgO i e, st => match st with
    | .Assign [.Name n _] x _ => gd (nmL C i n && (freshE e && mE C e x)) (some (addO i C.own))
    | _ => none
  | .par is bs es, st => match st with
    | .Assign [.Tuple ts _ _] (.Tuple xs _ _) _ => (match is, ts, xs with
      | [i, j], [.Name n p, .Name m q], [a, b] => gd ((C.sc.kind == ScopeKind.function) && (nmP C i n && (nmP C j m && (decide (i ≠ j) && ((p.line == q.line) && (hard [a, b] && (okS [i, j] bs C.own && mFs C bs es [a, b]))))))) (some (owS [i, j] bs C.own))
      | [i, j, l], [.Name n p, .Name m q, .Name o w], [a, b, c] => gd ((C.sc.kind == ScopeKind.function) && (nmP C i n && (nmP C j m && (nmP C l o && (decide (i ≠ j) && (decide (i ≠ l) && (decide (j ≠ l) && ((p.line == q.line) && ((p.line == w.line) && (hard [a, b, c] && (okS [i, j, l] bs C.own && mFs C bs es [a, b, c]))))))))))) (some (owS [i, j, l] bs C.own))
      | _, _, _ => none)
    | _ => none
  | .put i k e, st => match st with
    | .Assign [.Subscript (.Name n _) xk _] x _ => gd (nmV C i n && (C.own.contains i && (plx xk && (mE C k xk && (noSw x && mE C e x))))) (some C.own)
    | _ => none
  | .app i e, st => match st with
    | .Expr (.Call (.Attribute (.Name n _) y apos) [x] [] cpos) _ => gd (decide (y = "append") && (nmV C i n && (C.own.contains i && ((apos.endLine == cpos.line) && (nst x && mE C e x))))) (some C.own)
    | _ => none
  | .ext i e, st => match st with
    | .Expr (.Call (.Attribute (.Name n _) y apos) [x] [] cpos) _ => gd (decide (y = "extend") && (nmV C i n && (C.own.contains i && ((apos.endLine == cpos.line) && (nst x && (mV C e x || mE C e x)))))) (some C.own)
    | _ => none
  | .ex e, st => match st with
    | .Expr x _ => gd (noSw x && mE C e x) (some C.own)
    | _ => none
  | .ret e, st => match st with
    | .Return (some x) _ => gd (mE C e x) none
    | .Return none _ => gd (match e with
      | .k .none => true
      | _ => false) none
    | _ => none
  | .ife c a b, st => match st with
    | .If x p q _ => (match mE C c x, mSs C B a p, mSs C B b q with
      | true, some u, some v => jo u v
      | _, _, _ => none)
    | _ => none
  | .whl c b, st => match st with
    | .While x p [] _ => (match mE C c x, mSs C C.own b p with
      | true, some u => gd (decide (u = none ∨ u = some C.own)) (some C.own)
      | _, _ => none)
    | _ => none
  | .for_ tg it b, st => match st with
    | .For xt x p [] _ => (match notSet x && (mTg C tg xt && mItS C it xt x), mSs C C.own b p with
      | true, some u => gd (decide (u = none ∨ u = some C.own)) (some C.own)
      | _, _ => none)
    | _ => none
  | .brk, st => match st with
    | .Break _ => gd (decide (C.own = B)) none
    | _ => none
  | .raise, _ => some none
  | .frz _, _ => none
  | .doc, st => gd (isDoc st) (some C.own)
  | .dAt i e, st => match st with
    | .Assign [.Subscript (.Name n _) (.Constant (.str y) _ _) _] x _ => gd (decide (y = "at") && (nmV C i n && (noSw x && mE C e x))) (some C.own)
    | _ => none
  | .dLeft i k e, st => match st with
    | .Assign [.Subscript (.Subscript (.Name n _) (.Constant (.str y) _ _) _) (.Name z _) _] x _ => gd (decide (y = "lefts") && (nmV C i n && (nmV C k z && (noSw x && mE C e x)))) (some C.own)
    | _ => none
  | .dRet i e, st => match st with
    | .Return (some (.Dict [some (.Constant (.str a) _ _), some (.Constant (.str b) _ _), some (.Constant (.str c) _ _)] [.Name n _, x, .Constant (.int z) _ _] _)) _ =>
      gd (decide (a = "cells") && (decide (b = "lefts") && (decide (c = "at") && (decide (z = 0) && (nmV C i n && (C.own.contains i && (freshL e && mE C e x))))))) none
    | _ => none
def mSs (C : Cz) (B : List Nat) : Ss → List Stmt → Option (Option (List Nat))
  | .nil, sts => gd sts.isEmpty (some C.own)
  | .cons (.frz i) ss, sts => mSs (C.ow (C.own.filter fun j => j != i)) B ss sts
  | .cons s ss, sts => match sts with
    | st :: sts => (match mS C B s st with
      | some (some O) => mSs (C.ow O) B ss sts
      | some none => some none
      | none => none)
    | [] => none
end
theorem gd_some {b : Bool} {w u : Option (List Nat)} (h : gd b w = some u) : b = true ∧ u = w := by
  unfold gd at h
  split at h
  · rename_i z; cases h; exact ⟨z, rfl⟩
  · cases h
section
variable {C : Cz} {T : Tb} {X : Cx} {x e : Expr}
theorem locE_ok (h : XOk C T X) {n : Str} (m : locE C n = true) : X.env.scope.names.lookup n = some .local := by
  rw [h.sc]
  simpa [locE] using m
theorem nmP_ok (h : XOk C T X) {i : Nat} {n : Str} (m : nmP C i n = true) : X.N[i]? = some n ∧ X.env.scope.names.lookup n = some .local := by
  simp only [nmP, Bool.and_eq_true, decide_eq_true_eq] at m
  exact ⟨by rw [h.N]; exact m.1, locE_ok h m.2⟩
theorem freshL_list : ∀ {a : E}, freshL a = true → ∀ (env : Env) (ds : Option DS), wpR (evE T a env ds) (fun _ _ => True) → wpR (evE T a env ds) fun d _ => ∃ fs, d = .list fs
  | .lst es, _, env, ds, w => by
    simp only [evE] at w ⊢
    refine wpR_bnd.mpr (wpR_mono (wpR_bnd.mp w) fun ys ds1 w1 => ?_)
    obtain ⟨d, e, _⟩ := wpR_lft w1
    rw [e]
    split at e
    · cases e; exact ⟨_, rfl⟩
    · cases e
  | .bi .list es, _, env, ds, w => by
    simp only [evE] at w ⊢
    refine wpR_bnd.mpr (wpR_mono (wpR_bnd.mp w) fun zs ds1 w1 => ?_)
    obtain ⟨d, e, _⟩ := wpR_lft w1
    rw [e]
    exact bi_form e
  | .lc tg it c e, _, env, ds, w => by
    simp only [evE] at w ⊢
    refine wpR_bnd.mpr (wpR_mono (wpR_bnd.mp w) fun zs ds1 w1 => ?_)
    refine wpR_bnd.mpr (wpR_mono (wpR_bnd.mp w1) fun ys ds2 w2 => ?_)
    obtain ⟨d, e, _⟩ := wpR_lft w2
    rw [e]
    split at e
    · cases e; exact ⟨_, rfl⟩
    · cases e
theorem freshL_E : ∀ {a : E}, freshL a = true → freshE a = true
  | .lst _, _ => rfl
  | .bi .list _, _ => rfl
  | .lc _ _ _ _, _ => rfl
theorem sndFs (h : XOk C T X) : ∀ {bs : List Bool} {es : Es} {xs : List Expr}, mFs C bs es xs = true → SAF C X bs xs (evEs T es)
  | [], .nil, [], _ => saf_nil.cg fun env => by simp only [evEs]
  | true :: bs, .cons e es, x :: xs, m => by
    simp only [mFs, Bool.and_eq_true] at m
    obtain ⟨m1, m2, m3, m4⟩ := m
    exact (saf_o m1 (freshL_list m2) ((sndE e C X x h m3).2.2 (freshL_E m2)) (sndFs h m4)).cg fun env => by simp only [evEs]
  | false :: bs, .cons e es, x :: xs, m => by
    simp only [mFs, Bool.and_eq_true] at m
    obtain ⟨m1, m2, m3⟩ := m
    exact (saf_d m1 (sndE e C X x h m2).1 (sndFs h m3)).cg fun env => by simp only [evEs]
theorem unsw_ok (h : XOk C T X) {ts vs : List Expr} {k k2 : Nat} {p q : Pos} (m : unsw C ts vs = true) : swappedStores [.Tuple ts k p] (.Tuple vs k2 q) X.env = pure none := by
  unfold swappedStores
  simp
  intro h1 h2 h3 h4 h5 h6 y hy hf
  exfalso
  unfold unsw at m
  simp only [Bool.or_eq_true, decide_eq_true_eq, List.all_eq_true, List.any_eq_true] at m
  rcases m with (m | m) | ⟨t, ht, m⟩
  · by_cases z : ts.length = 2
    · omega
    · have := h1 z; omega
  · rw [m y hy] at hf; cases hf
  · apply h5 t ht
    split
    · rename_i n pos
      have m' : locE C n = false := by simpa using m
      have : X.env.kindOf n ≠ some .local := fun z => by
        have : locE C n = true := by
          unfold locE
          rw [← h.sc]
          show (X.env.kindOf n == some .local) = true
          rw [z]; rfl
        rw [this] at m'; cases m'
      rw [if_neg fun z => this z.1]
    · rfl
theorem asgK_ok (h : XOk C T X) (m : asgK C x e = true) (l : Nat) : swapsWithSole [x] e l X.env = pure false ∧ swappedStores [x] e X.env = pure none := by
  cases x with
  | Tuple ts k p =>
    refine ⟨swTup (xs := ts) (k := k) (q := p) e l X.env, ?_⟩
    cases e with
    | Tuple vs k2 q => exact unsw_ok h m
    | _ => rfl
  | _ => cases m
theorem par2_ok (h : XOk C T X) {n m : Str} {p q pt pt2 : Pos} {a b : Expr} {k k2 : Nat} (hk : X.env.blockKind = .function) (hn : X.env.scope.names.lookup n = some .local) (hm : X.env.scope.names.lookup m = some .local) (ne : n ≠ m) (hl : (p.line == q.line) = true) (hs : nst a = true ∧ nst b = true) (hh : hard [a, b] = true) :
    swappedStores [.Tuple [.Name n p, .Name m q] k pt] (.Tuple [a, b] k2 pt2) X.env = pure (some [n, m]) := by
  unfold hard at hh
  simp only [Bool.and_eq_true, Bool.not_eq_true'] at hh
  have e1 : X.env.kindOf n = some .local := hn
  have e2 : X.env.kindOf m = some .local := hm
  have e3 : p.line = q.line := by simpa using hl
  have l1 : (Expr.Name n p).pos.line = q.line := e3
  have ed : [n, m].eraseDups = [n, m] := by
    simp [List.eraseDups_cons, ne, Ne.symm ne]
  unfold swappedStores
  simp [hk, e1, e2, e3, l1, ne, hh.1, hh.2, List.filterMap_cons, ed]
  rintro (z | z)
  · cases a <;> first | (exfalso; simp [nst] at hs; done) | (exfalso; simp at z; done)
  · cases b <;> first | (exfalso; simp [nst] at hs; done) | (exfalso; simp at z; done)
theorem par3_ok (h : XOk C T X) {n m o : Str} {p q w pt pt2 : Pos} {a b c : Expr} {k k2 : Nat} (hk : X.env.blockKind = .function) (hn : X.env.scope.names.lookup n = some .local) (hm : X.env.scope.names.lookup m = some .local) (ho : X.env.scope.names.lookup o = some .local) (ne : n ≠ m) (ne2 : n ≠ o) (ne3 : m ≠ o)
    (hl : (p.line == q.line) = true) (hl2 : (p.line == w.line) = true) (hs : nst a = true ∧ nst b = true ∧ nst c = true) (hh : hard [a, b, c] = true) :
    swappedStores [.Tuple [.Name n p, .Name m q, .Name o w] k pt] (.Tuple [a, b, c] k2 pt2) X.env = pure (some [n, m, o]) := by
  unfold hard at hh
  simp only [Bool.and_eq_true, Bool.not_eq_true'] at hh
  have e1 : X.env.kindOf n = some .local := hn
  have e2 : X.env.kindOf m = some .local := hm
  have e4 : X.env.kindOf o = some .local := ho
  have e3 : p.line = q.line := by simpa using hl
  have e5 : q.line = w.line := by
    rw [← e3]; simpa using hl2
  have l1 : (Expr.Name n p).pos.line = w.line := e3.trans e5
  have ed : [n, m, o].eraseDups = [n, m, o] := by
    simp [List.eraseDups_cons, ne, ne2, ne3, Ne.symm ne, Ne.symm ne2, Ne.symm ne3]
  unfold swappedStores
  simp [hk, e1, e2, e4, e3, e5, l1, ne, ne2, ne3, hh.1, hh.2, List.filterMap_cons, ed]
  rintro (z | z | z)
  · cases a <;> first | (exfalso; simp [nst] at hs; done) | (exfalso; simp at z; done)
  · cases b <;> first | (exfalso; simp [nst] at hs; done) | (exfalso; simp at z; done)
  · cases c <;> first | (exfalso; simp [nst] at hs; done) | (exfalso; simp at z; done)
theorem fk_ok (h : XOk C T X) (m : (C.sc.kind == ScopeKind.function) = true) : X.env.blockKind = .function := by
  have e : X.env.scope.kind = .function := by rw [h.sc]; simpa using m
  unfold PySem.Env.blockKind
  rw [e]; rfl
theorem mFs_ns : ∀ {bs : List Bool} {es : Es} {xs : List Expr}, mFs C bs es xs = true → nsts xs = true
  | [], .nil, [], _ => rfl
  | true :: bs, .cons e es, x :: xs, m => by
    simp only [mFs, Bool.and_eq_true] at m
    simp [nsts, m.1, mFs_ns m.2.2.2]
  | false :: bs, .cons e es, x :: xs, m => by
    simp only [mFs, Bool.and_eq_true] at m
    simp [nsts, m.1, mFs_ns m.2.2]
theorem lc_ing {xe : Expr} {gs : List Comprehension} {scope : Scope} {q : Pos} {tg : Tg} {it : It} {c b : E} (h : XOk C T X) (m : mE C (.lc tg it c b) (.ListComp xe gs scope q) = true) : ∃ xt xi ifs, gs = [⟨xt, xi, ifs, 0⟩] ∧ SIo C X xt xi (evIt T it) ∧ notSet xi = true ∧
    blkC C.N C.sc scope (tgN C (tgS tg)) = true ∧ mTg (C.blk scope) tg xt = true ∧ (∀ X', XOk (C.blk scope) T X' → STs (C.blk scope) X' ifs fun env => if isNo c then ret true else bnd (evE T c env) fun y => lft (asB y)) ∧ ∀ X', XOk (C.blk scope) T X' → SE (C.blk scope) X' xe (evE T b) := by
  simp only [mE] at m
  split at m
  · rename_i _ xe' xt xi ifs an scope' pos' eq
    cases eq
    simp only [Bool.and_eq_true, decide_eq_true_eq] at m
    obtain ⟨m0, m1, m2, m3, m4, m5, m6⟩ := m
    subst m0
    refine ⟨xt, xi, ifs, rfl, sndItO it C X xt xi h m4, m1, m2, m3, fun X' h' => ?_, fun X' h' => (sndE b (C.blk scope) X' xe h' m6).1⟩
    cases ifs with
    | nil =>
      have q : isNo c = true := m5
      simp only [q, if_true]
      exact sts_nil
    | cons xc r =>
      cases r with
      | nil =>
        have q : isNo c = false ∧ mE (C.blk scope) c xc = true := by simpa using m5
        simp only [q.1, Bool.false_eq_true, if_false]
        exact sts_one (sndE c (C.blk scope) X' xc h' q.2).2.1
      | cons => cases m5
  · cases m
theorem mE_sw {a : E} (m : mE C a x = true) : noSw x = true ∨ ∃ tg it c b xe gs scope q, a = .lc tg it c b ∧ x = .ListComp xe gs scope q := by
  cases x <;> first | exact .inl rfl | skip
  all_goals (cases a <;> first | exact .inr ⟨_, _, _, _, _, _, _, _, rfl, rfl⟩ | (exfalso; simp [mE] at m; done) | (exfalso; simp only [mE] at m; split at m <;> first | cases m | (rename_i z; cases z)))
def SpE (C : Cz) (X : Cx) (t : TE) (f : Env → M D) : Prop := ∀ (env : Env) (ds : Option DS) (G : Hp) (r : Option DA) (σ : St) (H : Hp) (Q : VK), Sim X.K C.own env ds G r σ H →
  wpR (f env ds) (fun d ds' => ∀ v G' r' H', Nx G r H ds' G' r' H' → Dq X.K G' r' v d → Q v H') → t σ H Q
/-- the value of a name's store: how its reading does -/
theorem setEv {i : Nat} {n : Str} {p pos : Pos} {a : E} (h : XOk C T X) (m : nmL C i n = true) (me : mE C a x = true) : (∃ t : TE, PS X (.Assign [.Name n p] x pos) (tAsg t (gName i)) ∧ SpE C X t (evE T a)) ∧
    (freshE a = true → ∃ t : TE, PS X (.Assign [.Name n p] x pos) (tAsg t (gName i)) ∧ SpR C X t (evE T a)) := by
  have gp : X.N[i]? = some n ∧ Loc X.env.scope n ∧ (X.fn n = true ∨ X.env.scope.names.lookup n = some .local) := by
    simp only [nmL, Bool.and_eq_true, decide_eq_true_eq] at m
    obtain ⟨m1, m2⟩ := m
    refine ⟨by rw [h.N]; exact m1, ?_⟩
    unfold loc at m2
    rw [← h.sc] at m2
    split at m2
    · rename_i e; exact ⟨.inl e, .inr e⟩
    · rename_i e; exact ⟨.inr e, .inl (h.fnn _ m2)⟩
    · cases m2
  have hN : X.N.Nodup := by rw [h.N]; exact h.nd
  have z := sndE a C X x h me
  have plain : swapsWith x (some (.Name n p)) pos.line X.env = pure false → (∃ t : TE, PS X (.Assign [.Name n p] x pos) (tAsg t (gName i)) ∧ SpE C X t (evE T a)) ∧
    (freshE a = true → ∃ t : TE, PS X (.Assign [.Name n p] x pos) (tAsg t (gName i)) ∧ SpR C X t (evE T a)) := fun sw => by
    refine ⟨?_, fun fr => ?_⟩
    · obtain ⟨t, p1, q1⟩ := z.1
      exact ⟨t, ps_set hN gp.1 gp.2.1 p1 sw gp.2.2, q1⟩
    · obtain ⟨t, p1, q1⟩ := z.2.2 fr
      exact ⟨t, ps_set hN gp.1 gp.2.1 p1 sw gp.2.2, q1⟩
  rcases mE_sw me with sw | ⟨tg, it, c, b, xe, gs, scope, q, rfl, rfl⟩
  · exact plain (noSw_ok sw _ _ _)
  · obtain ⟨bb, e1, e2⟩ := sw_lc (elt := xe) (gs := gs) (scope := scope) (q := q) (py := p) (y := n) (l := pos.line) (env := X.env)
    cases bb with
    | false => exact plain e1
    | true =>
      obtain ⟨xt, xi, ifs, rfl, i1, i2, i3, i4, i5, i6⟩ := lc_ing h me
      obtain ⟨t, ps, sp⟩ := lc_set h i1 (notSet_ok i2 X.env) i3 (tgN_snd C (tgS tg)) i4 i5 i6 gp.1 (e2 rfl) e1
      have ev : evE T (.lc tg it c b) = fun env => bnd (evIt T it env) fun xs => bnd (lcL (lcF tg (fun env => if isNo c then ret true else bnd (evE T c env) fun y => lft (asB y)) (evE T b) env) xs) fun ys => lft (if lenOk xs.length then some (.list ys) else none) := by
        funext env; simp only [evE, lcF]
      have sp' : SpR C X t (evE T (.lc tg it c b)) := by rw [ev]; exact sp
      refine ⟨⟨t, ps, ?_⟩, fun _ => ⟨t, ps, sp'⟩⟩
      · intro env ds G r σ H Q S w
        refine sp' env ds G r σ H Q S ?_
        have w' := freshL_list (T := T) (a := .lc tg it c b) rfl env ds (wpR_mono w fun _ _ _ => trivial)
        obtain ⟨d, ds', e, k⟩ := wpR_ok w
        rw [e]
        rw [e] at w'
        obtain ⟨es, rfl⟩ := w'
        refine ⟨es, rfl, fun p ys G' r' H' n hp hq => ?_⟩
        have n2 := Nx.new (o := .lst ys) n.s n.d hp
        exact k _ _ _ _ (n.trans n2) (.lst upd_same (hq.more n2.g n2.e))
end
def Goes (w : Option (List Nat)) (O : List Nat) : Prop := ∀ o, w = some o → O = o
theorem jo_goes {u v w : Option (List Nat)} {O : List Nat} (h : jo u v = some w) (g : Goes w O) : Goes u O ∧ Goes v O := by
  unfold jo at h
  split at h
  · cases h
    exact ⟨fun o e => (by cases e), g⟩
  · cases h
    exact ⟨g, fun o e => (by cases e)⟩
  · split at h
    · rename_i e
      cases h
      subst e
      exact ⟨g, g⟩
    · cases h
theorem names_ne {C : Cz} (nd : C.N.Nodup) {i j : Nat} {n m : Str} (hi : C.N[i]? = some n) (hj : C.N[j]? = some m) (ne : i ≠ j) : n ≠ m := by
  intro e
  subst e
  obtain ⟨h1, e1⟩ := List.getElem?_eq_some_iff.mp hi
  obtain ⟨h2, e2⟩ := List.getElem?_eq_some_iff.mp hj
  exact ne ((List.getElem_inj nd).mp (e1.trans e2.symm))

section
variable {T : Tb} {F : Nat}
theorem liveE {f : Env → M D} (env : Env) (ds : Option DS) (w : wpR (bnd (f env) (fun d => ret (Fl.rt d)) ds) (fun _ _ => True)) : wpR (bnd (f env) (fun d => ret (Fl.rt d)) ds) fun fl _ => ∀ env', fl ≠ .nx env' := by
  refine wpR_bnd.mpr (wpR_mono (wpR_bnd.mp w) fun d ds' _ => ?_)
  intro env' e
  cases e
mutual
theorem deadS : ∀ (s : S) (C : Cz) (B : List Nat) (st : Stmt), mS C B s st = some none → ∀ (env : Env) (ds : Option DS), wpR (evS T F s env ds) (fun _ _ => True) → wpR (evS T F s env ds) fun fl _ => ∀ env', fl ≠ .nx env'
  | .asg (.n i) e, C, B, st, m => by
    simp only [mS] at m; split at m
    · have := (gd_some m).2; cases this
    · cases m
  | .asg (.t ts) e, C, B, st, m => by
    simp only [mS] at m; split at m
    · have := (gd_some m).2; cases this
    · cases m
  | .asgO i e, C, B, st, m => by
    simp only [mS] at m; split at m
    · have := (gd_some m).2; cases this
    · cases m
  | .par is bs es, C, B, st, m => by
    simp only [mS] at m; split at m
    · split at m
      · have := (gd_some m).2; cases this
      · have := (gd_some m).2; cases this
      · cases m
    · cases m
  | .put i k e, C, B, st, m => by
    simp only [mS] at m; split at m
    · have := (gd_some m).2; cases this
    · cases m
  | .app i e, C, B, st, m => by
    simp only [mS] at m; split at m
    · have := (gd_some m).2; cases this
    · cases m
  | .ext i e, C, B, st, m => by
    simp only [mS] at m; split at m
    · have := (gd_some m).2; cases this
    · cases m
  | .ex e, C, B, st, m => by
    simp only [mS] at m; split at m
    · have := (gd_some m).2; cases this
    · cases m
  | .ret e, C, B, st, m => fun env ds w => by
    simp only [evS] at w ⊢
    exact liveE (f := evE T e) env ds w
  | .ife c a b, C, B, st, m => fun env ds w => by
    simp only [mS] at m
    split at m
    · split at m
      · rename_i u v e1 e2 e3
        simp only [evS] at w ⊢
        have hj : u = none ∧ v = none := by
          unfold jo at m
          split at m
          · cases m; exact ⟨rfl, rfl⟩
          · cases m
          · split at m <;> cases m
        rw [hj.1] at e2
        rw [hj.2] at e3
        refine wpR_bnd.mpr (wpR_mono (wpR_bnd.mp w) fun t ds1 w1 => ?_)
        cases t with
        | true => exact deadSs a C B _ e2 env ds1 w1
        | false => exact deadSs b C B _ e3 env ds1 w1
      · cases m
    · cases m
  | .whl c b, C, B, st, m => by
    simp only [mS] at m; split at m
    · split at m
      · have := (gd_some m).2; cases this
      · cases m
    · cases m
  | .for_ tg it b, C, B, st, m => by
    simp only [mS] at m; split at m
    · split at m
      · have := (gd_some m).2; cases this
      · cases m
    · cases m
  | .brk, C, B, st, m => fun env ds w => by
    simp only [evS]
    intro env' e
    cases e
  | .raise, C, B, st, m => fun env ds w => by
    simp only [evS] at w
    exact w.elim
  | .frz i, C, B, st, m => by simp only [mS] at m; cases m
  | .doc, C, B, st, m => by
    simp only [mS] at m
    have := (gd_some m).2; cases this
  | .dAt i e, C, B, st, m => by
    simp only [mS] at m; split at m
    · have := (gd_some m).2; cases this
    · cases m
  | .dLeft i k e, C, B, st, m => by
    simp only [mS] at m; split at m
    · have := (gd_some m).2; cases this
    · cases m
  | .dRet i e, C, B, st, m => fun env ds w => by
    simp only [evS] at w ⊢
    refine wpR_bnd.mpr (wpR_mono (wpR_bnd.mp w) fun d ds' w1 => ?_)
    unfold mkDS at w1 ⊢
    split at w1
    · intro env' z; cases z
    · exact w1.elim
theorem deadSs : ∀ (ss : Ss) (C : Cz) (B : List Nat) (sts : List Stmt), mSs C B ss sts = some none → ∀ (env : Env) (ds : Option DS), wpR (evSs T F ss env ds) (fun _ _ => True) → wpR (evSs T F ss env ds) fun fl _ => ∀ env', fl ≠ .nx env'
  | .nil, C, B, sts, m => by
    simp only [mSs] at m
    have := (gd_some m).2; cases this
  | .cons s ss, C, B, sts, m => fun env ds w => by
    by_cases c : ∃ i, s = .frz i
    · obtain ⟨i, rfl⟩ := c
      simp only [mSs] at m
      simp only [evSs, evS] at w ⊢
      exact deadSs ss _ B sts m env ds w
    · have m' : (match sts with
        | st :: sts => (match mS C B s st with
          | some (some O) => mSs (C.ow O) B ss sts
          | some none => some none
          | none => none)
        | [] => none) = some none := by
        cases s <;> first | exact absurd ⟨_, rfl⟩ c | (simpa only [mSs] using m)
      cases sts with
      | nil => cases m'
      | cons st sts =>
        simp only at m'
        simp only [evSs] at w ⊢
        refine wpR_bnd.mpr ?_
        have w0 := wpR_bnd.mp w
        split at m'
        · rename_i O e1
          refine wpR_mono w0 fun fl ds1 w1 => ?_
          cases fl with
          | nx env1 => exact deadSs ss _ B sts m' env1 ds1 w1
          | bk env1 => intro env' e; cases e
          | rt d => intro env' e; cases e
        · rename_i e1
          have z := deadS s C B st e1 env ds (wpR_mono w0 fun _ _ _ => trivial)
          obtain ⟨fl, ds1, e2, w1⟩ := wpR_ok w0
          rw [e2] at z ⊢
          cases fl with
          | nx env1 => exact absurd rfl (z env1)
          | bk env1 => intro env' e; cases e
          | rt d => intro env' e; cases e
        · cases m'
end
end
end Ev

end
section
set_option maxHeartbeats 16000000
/-! # Ev17: the evaluator is right at every statement that the look takes -/
namespace Ev
open PySem PySem.Spec L2
section
variable {T : Tb} {F : Nat}
theorem cg3 {C : Cz} {O O' B : List Nat} {X : Cx} {st : Stmt} {f g : Env → M Fl} (a : SS C O B X st f) (eo : O' = O) (e : ∀ env, g env = f env) : SS C O' B X st g := by
  subst eo
  exact ss_cg a e
theorem mSs_cons {C : Cz} {B : List Nat} {s : S} {ss : Ss} {sts : List Stmt} (c : ¬ ∃ i, s = .frz i) : mSs C B (.cons s ss) sts = match sts with
    | st :: sts => (match mS C B s st with
      | some (some O) => mSs (C.ow O) B ss sts
      | some none => some none
      | none => none)
    | [] => none := by
  cases s <;> first | exact absurd ⟨_, rfl⟩ c | (simp only [mSs] <;> rfl)
mutual
theorem sndS : ∀ (s : S) (C : Cz) (B : List Nat) (X : Cx) (st : Stmt) (w : Option (List Nat)), XOk C T X → mS C B s st = some w → ∀ O, Goes w O → SS C O B X st (evS T F s)
  | .asg (.n i) e, C, B, X, st, w, h, m, O, g => by
    simp only [mS] at m
    split at m
    · rename_i n p x pos
      obtain ⟨m0, rfl⟩ := gd_some m
      cases g _ rfl
      simp only [Bool.and_eq_true, Bool.not_eq_true'] at m0
      obtain ⟨m1, m2, m3⟩ := m0
      obtain ⟨t, ps, q⟩ := (setEv (p := p) (pos := pos) h m1 m3).1
      exact ss_cg (ss_setT (by simpa using m2) ps q) fun env => by simp only [evS, asgT]; rfl
    · cases m
  | .asg (.t ts) e, C, B, X, st, w, h, m, O, g => by
    simp only [mS] at m
    split at m
    · rename_i xt x pos
      obtain ⟨m0, rfl⟩ := gd_some m
      cases g _ rfl
      simp only [Bool.and_eq_true] at m0
      obtain ⟨m1, m2, m3⟩ := m0
      obtain ⟨k1, k2⟩ := asgK_ok h m2 pos.line
      exact ss_cg (ss_asgT h m1 k1 k2 (sndE e C X x h m3).1) fun env => by simp only [evS]
    · cases m
  | .asgO i e, C, B, X, st, w, h, m, O, g => by
    simp only [mS] at m
    split at m
    · rename_i n p x pos
      obtain ⟨m0, rfl⟩ := gd_some m
      cases g _ rfl
      simp only [Bool.and_eq_true] at m0
      obtain ⟨m1, m2, m3⟩ := m0
      obtain ⟨t, ps, q⟩ := (setEv (p := p) (pos := pos) h m1 m3).2 m2
      exact ss_cg (ss_setO ps q) fun env => by simp only [evS]
    · cases m
  | .par is bs es, C, B, X, st, w, h, m, O, g => by
    simp only [mS] at m
    split at m
    · rename_i ts k1 p1 xs k2 p2 pos
      split at m
      · rename_i i j n p m' q a b
        obtain ⟨m0, rfl⟩ := gd_some m
        cases g _ rfl
        simp only [Bool.and_eq_true, decide_eq_true_eq] at m0
        obtain ⟨mk, mi, mj, mij, ml, mh, mo, mf⟩ := m0
        obtain ⟨ni, li⟩ := nmP_ok h mi
        obtain ⟨nj, lj⟩ := nmP_ok h mj
        have ns := mFs_ns mf
        simp only [nsts, Bool.and_eq_true] at ns
        have ne : n ≠ m' := names_ne h.nd (by rw [← h.N]; exact ni) (by rw [← h.N]; exact nj) mij
        exact ss_cg (ss_par2 h ni nj mij li lj (par2_ok h (fk_ok h mk) li lj ne ml ⟨ns.1, ns.2.1⟩ mh) mo (sndFs h mf)) fun env => by simp only [evS]
      · rename_i i j l n p m' q o w a b c
        obtain ⟨m0, rfl⟩ := gd_some m
        cases g _ rfl
        simp only [Bool.and_eq_true, decide_eq_true_eq] at m0
        obtain ⟨mk, mi, mj, mo', mij, mil, mjl, ml, ml2, mh, mo, mf⟩ := m0
        obtain ⟨ni, li⟩ := nmP_ok h mi
        obtain ⟨nj, lj⟩ := nmP_ok h mj
        obtain ⟨nl, ll⟩ := nmP_ok h mo'
        have ns := mFs_ns mf
        simp only [nsts, Bool.and_eq_true] at ns
        have e1 : C.N[i]? = some n := by rw [← h.N]; exact ni
        have e2 : C.N[j]? = some m' := by rw [← h.N]; exact nj
        have e3 : C.N[l]? = some o := by rw [← h.N]; exact nl
        exact ss_cg (ss_par3 h ni nj nl mij mil mjl li lj ll (par3_ok h (fk_ok h mk) li lj ll (names_ne h.nd e1 e2 mij) (names_ne h.nd e1 e3 mil) (names_ne h.nd e2 e3 mjl) ml ml2 ⟨ns.1, ns.2.1, ns.2.2.1⟩ mh) mo (sndFs h mf)) fun env => by simp only [evS]
      · cases m
    · cases m
  | .put i k e, C, B, X, st, w, h, m, O, g => by
    simp only [mS] at m
    split at m
    · obtain ⟨m0, rfl⟩ := gd_some m
      cases g _ rfl
      simp only [Bool.and_eq_true, decide_eq_true_eq] at m0
      obtain ⟨m1, m2, m3, m4, m5, m6⟩ := m0
      exact ss_cg (ss_put h m1 (by simpa using m2) m3 m5 (sndE k C X _ h m4).1 (sndE e C X _ h m6).1) fun env => by simp only [evS]
    · cases m
  | .app i e, C, B, X, st, w, h, m, O, g => by
    simp only [mS] at m
    split at m
    · obtain ⟨m0, rfl⟩ := gd_some m
      cases g _ rfl
      simp only [Bool.and_eq_true, decide_eq_true_eq] at m0
      obtain ⟨m1, m2, m3, m4, m5, m6⟩ := m0
      subst m1
      exact ss_cg (ss_app h m2 (by simpa using m3) m4 m5 (sndE e C X _ h m6).1) fun env => by simp only [evS]
    · cases m
  | .ext i e, C, B, X, st, w, h, m, O, g => by
    simp only [mS] at m
    split at m
    · obtain ⟨m0, rfl⟩ := gd_some m
      cases g _ rfl
      simp only [Bool.and_eq_true, decide_eq_true_eq] at m0
      obtain ⟨m1, m2, m3, m4, m5, m6⟩ := m0
      subst m1
      exact ss_cg (ss_ext h m2 (by simpa using m3) m4 m5 (so_of h m6 fun z => (sndE e C X _ h z).1)) fun env => by simp only [evS]
    · cases m
  | .ex e, C, B, X, st, w, h, m, O, g => by
    simp only [mS] at m
    split at m
    · obtain ⟨m0, rfl⟩ := gd_some m
      cases g _ rfl
      simp only [Bool.and_eq_true] at m0
      exact ss_cg (ss_ex m0.1 (sndE e C X _ h m0.2).1) fun env => by simp only [evS]
    · cases m
  | .ret e, C, B, X, st, w, h, m, O, g => by
    simp only [mS] at m
    split at m
    · obtain ⟨m0, rfl⟩ := gd_some m
      exact ss_cg (ss_ret (sndE e C X _ h m0).1) fun env => by simp only [evS]
    · obtain ⟨m0, rfl⟩ := gd_some m
      split at m0
      · exact ss_cg ss_retN fun env => by simp only [evS, evE]
      · cases m0
    · cases m
  | .ife c a b, C, B, X, st, w, h, m, O, g => by
    simp only [mS] at m
    split at m
    · split at m
      · rename_i u v e1 e2 e3
        obtain ⟨g1, g2⟩ := jo_goes m g
        refine ss_cg (ss_if (sndE c C X _ h e1).2.1 (sndSs a C B X _ u h e2 O g1) (sndSs b C B X _ v h e3 O g2)) fun env => ?_
        simp only [evS, evT, asBool]
      · cases m
    · cases m
  | .whl c b, C, B, X, st, w, h, m, O, g => by
    simp only [mS] at m
    split at m
    · split at m
      · rename_i u e1 e2
        obtain ⟨m0, rfl⟩ := gd_some m
        cases g _ rfl
        have gu : Goes u C.own := fun o e => by
          rcases of_decide_eq_true m0 with z | z
          · rw [z] at e; cases e
          · rw [z] at e; cases e; rfl
        refine ss_cg (ss_whl h F (sndE c C X _ h e1).2.1 (sndSs b C C.own X _ u h e2 C.own gu)) fun env => ?_
        simp only [evS]
        rfl
      · cases m
    · cases m
  | .for_ tg it b, C, B, X, st, w, h, m, O, g => by
    simp only [mS] at m
    split at m
    · split at m
      · rename_i u e1 e2
        obtain ⟨m0, rfl⟩ := gd_some m
        cases g _ rfl
        simp only [Bool.and_eq_true] at e1
        have gu : Goes u C.own := fun o e => by
          rcases of_decide_eq_true m0 with z | z
          · rw [z] at e; cases e
          · rw [z] at e; cases e; rfl
        exact ss_cg (ss_for h e1.1 e1.2.1 (sndItS it C X _ _ h e1.2.2) (sndSs b C C.own X _ u h e2 C.own gu)) fun env => by simp only [evS]
      · cases m
    · cases m
  | .brk, C, B, X, st, w, h, m, O, g => by
    simp only [mS] at m
    split at m
    · obtain ⟨m0, rfl⟩ := gd_some m
      have e := of_decide_eq_true m0
      subst e
      exact ss_cg ss_brk fun env => by simp only [evS]
    · cases m
  | .raise, C, B, X, st, w, h, m, O, g => ss_cg ss_never fun env => by simp only [evS]
  | .frz i, C, B, X, st, w, h, m, O, g => by simp only [mS] at m; cases m
  | .doc, C, B, X, st, w, h, m, O, g => by
    simp only [mS] at m
    obtain ⟨m0, rfl⟩ := gd_some m
    cases g _ rfl
    unfold isDoc at m0
    split at m0
    · exact ss_cg ss_doc fun env => by simp only [evS]
    · exact ss_cg ss_pass fun env => by simp only [evS]
    · cases m0
  | .dAt i e, C, B, X, st, w, h, m, O, g => by
    simp only [mS] at m
    split at m
    · obtain ⟨m0, rfl⟩ := gd_some m
      cases g _ rfl
      simp only [Bool.and_eq_true, decide_eq_true_eq] at m0
      obtain ⟨m1, m2, m3, m4⟩ := m0
      subst m1
      exact ss_cg (ss_dAt h m2 m3 (sndE e C X _ h m4).1) fun env => by simp only [evS]
    · cases m
  | .dLeft i k e, C, B, X, st, w, h, m, O, g => by
    simp only [mS] at m
    split at m
    · obtain ⟨m0, rfl⟩ := gd_some m
      cases g _ rfl
      simp only [Bool.and_eq_true, decide_eq_true_eq] at m0
      obtain ⟨m1, m2, m3, m4, m5⟩ := m0
      subst m1
      exact ss_cg (ss_dLeft h m2 m3 m4 (sndE e C X _ h m5).1) fun env => by simp only [evS]
    · cases m
  | .dRet i e, C, B, X, st, w, h, m, O, g => by
    simp only [mS] at m
    split at m
    · obtain ⟨m0, rfl⟩ := gd_some m
      simp only [Bool.and_eq_true, decide_eq_true_eq] at m0
      obtain ⟨m1, m2, m3, m4, m5, m6, m7, m8⟩ := m0
      subst m1 m2 m3 m4
      exact ss_cg (ss_dRet h m5 (by simpa using m6) (freshL_list m7) ((sndE e C X _ h m8).2.2 (freshL_E m7))) fun env => by simp only [evS]
    · cases m
theorem sndSs : ∀ (ss : Ss) (C : Cz) (B : List Nat) (X : Cx) (sts : List Stmt) (w : Option (List Nat)), XOk C T X → mSs C B ss sts = some w → ∀ O, Goes w O → SSs C O B X sts (evSs T F ss)
  | .nil, C, B, X, sts, w, h, m, O, g => by
    simp only [mSs] at m
    obtain ⟨m0, rfl⟩ := gd_some m
    cases g _ rfl
    cases sts with
    | nil => exact sss_cg sss_nil fun env => by simp only [evSs]
    | cons => cases m0
  | .cons s ss, C, B, X, sts, w, h, m, O, g => by
    by_cases c : ∃ i, s = .frz i
    · obtain ⟨i, rfl⟩ := c
      simp only [mSs] at m
      exact sss_cg (ss_frz (sndSs ss _ B X sts w (h.ow _) m O g)) fun env => by
        simp only [evSs, evS]
        rfl
    · have m' := mSs_cons (C := C) (B := B) (ss := ss) (sts := sts) c
      rw [m] at m'
      cases sts with
      | nil => cases m'
      | cons st sts =>
        simp only at m'
        have m' := m'.symm
        split at m'
        · rename_i O1 e1
          refine sss_cg (ss_seq (sndS s C B X st _ h e1 O1 fun o e => by cases e; rfl) (sndSs ss _ B X sts w (h.ow _) m' O g)) fun env => ?_
          simp only [evSs] <;> rfl
        · rename_i e1
          refine sss_cg (ss_dead (F2 := evSs T F ss) (sndS s C B X st _ h e1 O fun o e => by cases e) (deadS s C B st e1)) fun env => ?_
          simp only [evSs] <;> rfl
        · cases m'
end
end
end Ev

end
section
set_option maxHeartbeats 8000000
/-! # Ev18: defs, the law's end -/
namespace Ev
open PySem PySem.Spec L2
/-- a def, as it is looked at -/
structure Df where
  name : Str
  ps : List Str
  kws : List (Nat × List Nat)
  N : List Str
  gcd : Bool
  fns : List (Str × List Str × List (Nat × List Nat))
  cns : List Str
  ss : Ss
def Df.cz (d : Df) (sc : Scope) : Cz := ⟨d.N, sc, fun _ => true, d.fns, d.cns, d.gcd, []⟩
def scB (N ps : List Str) (sc : Scope) : Bool := (sc.kind == .function) && (!sc.isCoroutine && (!sc.isGenerator && (decide N.Nodup && (decide (N.take ps.length = ps) && (ps.all (fun x => sc.names.lookup x == some .local || sc.names.lookup x == some .cell) && sc.names.all fun y => y.2 != .free)))))
theorem scB_ok {N ps : List Str} {sc : Scope} (h : scB N ps sc = true) : FnScope N ps sc := by
  simp only [scB, Bool.and_eq_true, decide_eq_true_eq, Bool.not_eq_true', List.all_eq_true, Bool.or_eq_true, beq_iff_eq, bne_iff_ne] at h
  obtain ⟨h1, h2, h3, h4, h5, h6, h7⟩ := h
  exact ⟨h1, h2, h3, h4, h5, h6, h7⟩
def ckD (d : Df) (st : Stmt) : Bool := scB d.N d.ps (defScope st) && (mSs (d.cz (defScope st)) [] d.ss (defBody st)).isSome
/-- what the module's names are bound to -/
structure Md (mg : Str → Option Value) : Prop where
  bl : ∀ x ∈ bnames, mg x = none
def FnP (P : Program) (w : World) (K : PySem.W.Frag) (mg : Str → Option Value) (base : Heap) (k : Nat) (fn : Fn) : Prop := ∃ f fd, FnG P w K mg base k f fd fn ∧ FnB K fd fn ∧ mg fn.name = some (.ref f) ∧ PySem.W.keepIn K (.ref f) = true
def CsP (K : PySem.W.Frag) (mg : Str → Option Value) (c : Str × D) : Prop := ∃ u v, mg c.1 = some u ∧ RelV v u ∧ ∀ G r, Dq K G r v c.2
section
variable {P : Program} {w : World} {K : PySem.W.Frag} {mg : Str → Option Value} {base : Heap}
theorem FnP.mono {j k : Nat} {fn : Fn} (h : FnP P w K mg base j fn) (l : j ≤ k) : FnP P w K mg base k fn := by
  obtain ⟨f, fd, g, r⟩ := h
  exact ⟨f, fd, ⟨fun A outer s H args us vs Q xs ds G r hr => g.run A outer s H args us vs Q xs ds G r (hr.mono l)⟩, r⟩
theorem ints_cs {c : Str × D} {i : Int} {t : Tok} (h : mg c.1 = some (.int i t)) (e : c.2 = .int i) : CsP K mg c := ⟨_, .int i, h, ⟨t, rfl⟩, fun G r => by rw [e]; exact .int i⟩
theorem fn_def {k : Nat} {f : Addr} {fd : FuncData} {d : Df} {T : Tb} {st : Stmt} (F : Fun K d.name d.name st f fd) (ck : ckD d st = true) (n : Nat) (hf : d.fns = T.fs.map fun f => (f.name, f.ps, f.kws)) (hc : d.cns = T.cs.map (·.1)) (M : Md mg)
    (hg : d.gcd = true → mg "gcd" = some (.builtin "math.gcd")) (cs : ∀ c ∈ T.cs, CsP K mg c) (fs : ∀ fn ∈ T.fs, FnP P w K mg base k fn) :
    FnG P w K mg base (k + 1) f fd ⟨d.name, d.ps, d.kws, run T n d.N.length d.ss⟩ := by
  simp only [ckD, Bool.and_eq_true] at ck
  obtain ⟨ck1, ck2⟩ := ck
  have S := scB_ok ck1
  obtain ⟨wo, mm⟩ := Option.isSome_iff_exists.mp ck2
  obtain ⟨oc, od, kV, doc, pm, an, cdv, ct, osl, rfl, lk, hcd⟩ := F.ex
  refine ⟨fun A outer s H args us vs Q xs ds G r hr hgd e0 hb rv hl sm dr hq hw => ?_⟩
  have lv : vs.length = d.ps.length := by rw [hq.length]; exact hl
  have inn : K.In s.heap := e0.mod.kin.keeps fun b o e => (e0.bs b o e).1
  have lim : s.heap.NoLimit := e0.mod.nolimit.keeps fun b o e => (e0.bs b o e).1
  have kinds : ∀ y ∈ d.ps.zip us, (defScope st).names.lookup y.1 = some .local ∨ ((defScope st).names.lookup y.1 = some .cell ∧ ((cellsFrom (s.heap.objs.size + 1) (defScope st).names []).lookup y.1).isSome = true) := by
    rintro ⟨m, v⟩ hy
    rcases S.par m (List.of_mem_zip hy).1 with q | q
    · exact .inl q
    · exact .inr ⟨q, PySem.W.cellsFrom_some _ _ _ (.inl q)⟩
  refine codeAny_call_function hr.depth (inn _ _ lk) rfl S.co S.gen rfl (PySem.W.codeRec_of inn hcd) (hb _ _ _ _ ?_)
  refine wpAny_newFunctionEnv_cells S.kind kinds fun env he s1 x => ?_
  subst he
  refine ⟨lim.keeps x.toInCall.keep, codeAny_func ?_⟩
  have I := inv_start (CX := CX0) (P := P) (w := w) (E := E0) (mg := mg) (base := base) (qual := d.name) (f := f) (cd := cdv) S hr.hd e0 lv rv x
  have XO : XOk (d.cz (defScope st)) T (cxOf CX0 P w K mg base d.N d.name (defScope st) f cdv A outer s H E0).nox := by
    refine ⟨rfl, S.nd, rfl, rfl, rfl, fun _ _ => rfl, hgd, (hr.deeper _).mono (Nat.zero_le _), hf, hc, M.bl, hg, fun i y u e => ?_, fun j fn e => ?_⟩
    · obtain ⟨u', v, h1, h2, h3⟩ := cs _ (List.mem_of_getElem? e)
      exact ⟨u', v, h1, h2, h3⟩
    · obtain ⟨f', fd', h1, h2, h3, h4⟩ := fs _ (List.mem_of_getElem? e)
      exact ⟨k, f', fd', hr.deeper _, h1, h2, h3, h4⟩
  obtain ⟨t, ps, sp⟩ := sndSs (F := n) d.ss _ [] _ (defBody st) wo XO mm (wo.getD []) fun o e => by rw [e]; rfl
  have SM : Sm K ⟨G, r, H⟩ [] (xs.map some ++ List.replicate (d.N.length - xs.length) none) ds G r (start d.N vs) H := by
    have hd : d.ps.length ≤ d.N.length := by
      have := congrArg List.length S.pre
      rw [List.length_take] at this
      omega
    have gt : ∀ (i : Nat) (z : D), (xs.map some ++ List.replicate (d.N.length - xs.length) none)[i]? = some (some z) → xs[i]? = some z := fun i z e => by
      by_cases c : i < xs.length
      · rw [List.getElem?_append_left (by simpa using c), List.getElem?_map] at e
        obtain ⟨a, e1, e2⟩ := Option.map_eq_some_iff.mp e
        rw [e1]; exact e2
      · rw [List.getElem?_append_right (by simpa using c), List.getElem?_replicate] at e
        split at e <;> cases e
    refine ⟨⟨sm, ?_, fun i z _ e => ?_, fun i z hi => by simp at hi, fun i j a hi => by simp at hi, dr⟩, Nx.refl sm dr, fun i z a hi => by simp at hi⟩
    · unfold L2.start
      rw [List.length_append, List.length_append, List.length_map, List.length_map, List.length_replicate, List.length_replicate, lv, hl]
    · obtain ⟨v, h1, h2⟩ := hq.get (gt i z e)
      refine ⟨v, ?_, h2⟩
      unfold L2.start
      have lt := (List.getElem?_eq_some_iff.mp h1).1
      rw [List.getElem?_append_left (by simpa using lt), List.getElem?_map, h1]
      rfl
  have w' : wpR (evSs T n d.ss (xs.map some ++ List.replicate (d.N.length - xs.length) none) ds) (WF K ⟨G, r, H⟩ (wo.getD []) [] G r { nx := fun _ H' => Q .non H', rt := Q }) := by
    have w0 : wpR (run T n d.N.length d.ss xs ds) _ := hw
    unfold run at w0
    refine wpR_mono (wpR_bnd.mp w0) fun fl ds1 w1 => ?_
    cases fl with
    | nx env' => exact fun σ' G' r' H' S1 l => wpR_ret w1 .non G' r' H' S1.nx .non
    | bk env' => exact w1.elim
    | rt z => exact fun v G' r' H' n1 h1 => wpR_ret w1 v G' r' H' n1 h1
  refine wpAny_mono (ps.nox.run [] s1 (start d.N vs) H _ I (sp ⟨G, r, H⟩ _ ds G r (start d.N vs) H _ SM w')) (fun fl s' hs => ?_) fun e s' hs => ?_
  · have fin : ∀ {σ' : St} {H' : Hp} {v : V} {u : Value}, L2.Inv (cxOf CX0 P w K mg base d.N d.name (defScope st) f cdv A outer s H E0) [] σ' H' s' → RelV v u → Q v H' → CE outer P w H s Q u s' :=
      fun {σ' H' v u} J rv' q => ⟨v, H', J.os, J.bare, J.base, J.hok, rv', q⟩
    cases fl with
    | ret u =>
      obtain ⟨v, σ', H', J, rv', q⟩ := hs
      exact fin J rv' q
    | next =>
      obtain ⟨σ', H', J, q⟩ := hs
      exact fin (v := V.non) (u := Value.none) J rfl q
    | brk =>
      obtain ⟨_, _, _, q⟩ := hs
      exact q.elim
    | cont =>
      obtain ⟨_, _, _, q⟩ := hs
      exact q.elim
  · refine wpAny_mono hs (fun _ _ z => ?_) fun _ _ z => ?_
    · exact z
    · exact z
end
open PyProof.Rows (AllBare IntsAre)
/-- the script as an argument -/
theorem dq_script {K : PySem.W.Frag} {H : Hp} {a : Addr} {ns : List Int} (h : SqL K H a (ns.map V.int)) : Dq K H none (.ref a) (scrD ns) := by
  cases ns with
  | nil => exact .scr0 h
  | cons n ns => exact .scr h
section
variable {P : Program} {w : World} {K : PySem.W.Frag} {mg mb : Str → Option Value} {k : Nat} {fa a : Addr} {fd : FuncData} {x : Str} {fn : Fn} {t : Shared} {us : List Value} {ns : List Int}
/-- a run from an abstract heap that knows the script alone -/
theorem run_from {H : Hp} (kin : K.In t.heap) (n1 : t.heap.Ns mainGlobals mg) (n2 : t.heap.Ns builtinsNs mb) (n3 : ∀ x : Str, x ≠ "__name__" → mb x = bootBuiltins x) (nl : t.heap.NoLimit) (ng : t.gens = #[])
    (ob : t.heap.get? a = some { cls := .type "list", data := .seq us.toArray }) (room : Room k callerA) (F : ∀ base : Heap, K.In base → base.Ns mainGlobals mg → FnG P w K mg base k fa fd fn) (bd : ∀ (s : Shared) (u : Value), BindsTo s fd ⟨[u], []⟩ [(x, u)]) (ps : fn.ps = [x])
    (law : wpR (fn.m [scrD ns] none) fun d _ => d = .bool true) (only : Only H) (sq : SqL K H a (ns.map V.int)) (ok : HOk P w H t.heap) (alone : ∀ b, H b ≠ none → b = a) (out : H a ≠ none → K.lookup a = none) :
    codeAny (model P w) callerA (.call (.ref fa) ⟨[.ref a], []⟩) (fun r s' => r = .ok (.ret (.bool true)) ∧ OldK t.heap s'.heap ∧ s'.os = t.os ∧ AllBare s'.gens) t := by
  have hide : ∀ {b : Addr} {o : Obj}, t.heap.get? b = some o → H b = none → (hidT t.heap H).get? b = some o := fun g n => hidT_get g n
  have nodict : ∀ {b : Addr} {o : Obj} {es : Array DictEntry} {ep : Nat}, t.heap.get? b = some o → o.data = .dict es ep → H b = none := by
    intro b o es ep g d
    cases q : H b with
    | none => rfl
    | some z =>
      have e := alone b (by rw [q]; simp)
      rw [e, ob] at g
      cases g
      cases d
  have nsq : ∀ {b : Addr} {m : Str → Option Value}, t.heap.Ns b m → (hidT t.heap H).Ns b m := by
    rintro b m ⟨o, es, ep, g, d, z⟩
    exact ⟨o, es, ep, hide g (nodict g d), d, z⟩
  have kb : K.In (hidT t.heap H) := by
    intro b o g
    refine hide (kin b o g) ?_
    cases q : H b with
    | none => rfl
    | some z =>
      have e := alone b (by rw [q]; simp)
      rw [e] at g q
      rw [out (by rw [q]; simp)] at g
      cases g
  have md : Mod K mg (hidT t.heap H) := ⟨kb, nsq n1, ⟨mb, nsq n2, n3⟩, (let ⟨mc, y1, y2⟩ := nl; ⟨mc, nsq y1, y2⟩)⟩
  have env0 : Env0 P w K mg (hidT t.heap H) callerA [] t H := ⟨rfl, md, fun b o g => of_hidT g, Nat.le_of_eq (hidT_size _ _), trivial, fun b hb => absurd (show b ∈ ([] : List Addr) from hb) (by simp), ok, .of_eq ng⟩
  have bd' : BindsTo t fd ⟨[.ref a], []⟩ (fn.ps.zip [.ref a]) := by rw [ps]; exact bd t (.ref a)
  have run := (F _ kb (nsq n1)).run callerA [] t H ⟨[.ref a], []⟩ [.ref a] [.ref a] (fun v _ => v = .bl true) [scrD ns] none H none room rfl env0 bd' (.cons rfl .nil) (by rw [ps]; rfl) (Same.refl H) trivial (.cons (dq_script sq) .nil)
    (wpR_mono law fun d ds' e v G' r' H' _ q => by
      subst e
      cases q
      rfl)
  refine codeAny_mono run fun r s' hr => ?_
  cases r with
  | error e => exact hr.elim
  | ok fl =>
    cases fl with
    | next => exact hr.elim
    | brk => exact hr.elim
    | cont => exact hr.elim
    | ret u =>
      obtain ⟨v, H', hos, hbare, hun, hok, hrel, hv⟩ := hr
      subst hv
      cases hrel
      refine ⟨rfl, OldK.of_keep fun b o g => ?_, hos, hbare⟩
      cases q : H b with
      | none => exact hun.keep b o g q (by intro z; exact absurd (show b ∈ ([] : List Addr) from z) (by simp)) (by simp)
      | some z =>
        rcases only b with y | ⟨ob', xs, y⟩
        · rw [q] at y; cases y
        · obtain ⟨e1, _⟩ := ok b _ y
          obtain ⟨e2, _⟩ := hok b _ (hun.frzs b ob' _ y)
          rw [g] at e1
          cases e1
          exact e2
theorem run_law (kin : K.In t.heap) (n1 : t.heap.Ns mainGlobals mg) (n2 : t.heap.Ns builtinsNs mb) (n3 : ∀ x : Str, x ≠ "__name__" → mb x = bootBuiltins x) (nl : t.heap.NoLimit) (ng : t.gens = #[])
    (ob : t.heap.get? a = some { cls := .type "list", data := .seq us.toArray }) (ia : IntsAre us ns) (sz : ns.length ≤ sizeLine) (room : Room k callerA) (F : ∀ base : Heap, K.In base → base.Ns mainGlobals mg → FnG P w K mg base k fa fd fn) (bd : ∀ (s : Shared) (u : Value), BindsTo s fd ⟨[u], []⟩ [(x, u)]) (ps : fn.ps = [x])
    (law : wpR (fn.m [scrD ns] none) fun d _ => d = .bool true) :
    codeAny (model P w) callerA (.call (.ref fa) ⟨[.ref a], []⟩) (fun r s' => r = .ok (.ret (.bool true)) ∧ OldK t.heap s'.heap ∧ s'.os = t.os ∧ AllBare s'.gens) t := by
  have rv := vals_ints ia
  have len := ia.length
  cases lk : K.lookup a with
  | some o =>
    have e := kin a o lk
    rw [ob] at e
    cases e
    have sq : SqL K (fun _ => none) a (ns.map V.int) := .inr ⟨_, us.toArray, _, lk, rfl, rfl, rfl, by rw [List.size_toArray, len]; exact sz, by simpa using rv⟩
    exact run_from (H := fun _ => none) kin n1 n2 n3 nl ng ob room F bd ps law (fun _ => .inl rfl) sq (fun b u z => by cases z) (fun b z => absurd rfl z) fun z => absurd rfl z
  | none =>
    let H : Hp := fun b => if b = a then some (.frz { cls := .type "list", data := .seq us.toArray } (.lst (ns.map V.int))) else none
    have at1 : H a = some (.frz { cls := .type "list", data := .seq us.toArray } (.lst (ns.map V.int))) := if_pos rfl
    have at2 : ∀ b, b ≠ a → H b = none := fun b n => if_neg n
    refine run_from (H := H) kin n1 n2 n3 nl ng ob room F bd ps law (fun b => ?_) (.inl (.inr ⟨_, at1⟩)) (fun b u z => ?_) (fun b z => Classical.byContradiction fun y => z (at2 b y)) fun _ => lk
    · by_cases c : b = a
      · rw [c]; exact .inr ⟨_, _, at1⟩
      · exact .inl (at2 b c)
    · by_cases c : b = a
      · subst c
        rw [at1] at z
        cases z
        exact ⟨ob, by rw [List.length_map]; exact sz, us, _, rv, ob⟩
      · rw [at2 b c] at z; cases z
end
/-- the goal that k_head leaves -/
theorem walk_law {l : PySem.W.OpenLaw} {n k : Nat} {q : Program} {loose : List Str} {XP : (Str → Option Value) → Heap → Prop} {YP : World → Heap → Prop} {d : DefRec} {K : Params → PySem.W.Frag} {x : Str} {fn : Fn} (hn : l.most = some n) (hn2 : n ≤ sizeLine) (hdf : d.params.defaults = []) (room : Room k callerA)
    (hY : ∀ (w : World) (h : Heap), YP w h → (K w.params).In h)
    (F : ∀ (w : World) (mg : Str → Option Value) (fa : Addr) (h : Heap), (K w.params).In h → h.Ns mainGlobals mg → mg d.name = some (.ref fa) →
      ∃ fd : FuncData, (∀ (s : Shared) (u : Value), BindsTo s fd ⟨[u], []⟩ [(x, u)]) ∧ ∀ base : Heap, (K w.params).In base → base.Ns mainGlobals mg → FnG l.prog w (K w.params) mg base k fa fd fn)
    (ps : fn.ps = [x]) (law : ∀ ns : List Int, ns.length ≤ n → wpR (fn.m [scrD ns] none) fun d _ => d = .bool true) :
    PySem.W.WalkO q loose XP YP l.row.toRowW d [] (fun f vs => PySem.call f vs) := by
  refine Att.attach_call hn hdf fun w s₀ t mg mb fa o pm cd doc a us ns G Y _ _ _ hmg ob ia sz ng => ?_
  have kin := hY w _ Y
  obtain ⟨fd, bd, hF⟩ := F w mg fa _ kin G.T.g hmg
  exact run_law kin G.T.g G.T.b G.T.builtins G.T.nolimit ng ob ia (Nat.le_trans sz hn2) room hF bd ps (law ns sz)
end Ev

end
section
set_option maxHeartbeats 8000000
/-! # Ev19: short words for a law's defs -/
namespace Ev
open PySem PySem.Spec L2
theorem fnB_of {K : PySem.W.Frag} {x : Str} {st : Stmt} {f : Addr} {fd : FuncData} {fn : Fn} (F : Fun K x x st f fd)
    (hp : ∀ (kV doc pm : Value) (an : Option Addr) (cdv ct : Value) (us : List Value), us.length = fn.ps.length → bindArgs (PySem.W.fnOf x x (defArgs st) (defBody st) (defScope st) .none kV doc pm an cdv ct) ⟨us, []⟩ = pure (fn.ps.zip us))
    (hk : ∀ (n : Nat) (js : List Nat), (n, js) ∈ fn.kws → ∀ (kV doc pm : Value) (an : Option Addr) (cdv ct : Value) (us ws as : List Value), us.length = n → ws.length = js.length → argsOf fn.ps.length us (js.zip ws) = some as →
      bindArgs (PySem.W.fnOf x x (defArgs st) (defBody st) (defScope st) .none kV doc pm an cdv ct) ⟨us, (js.map fun j => fn.ps.getD j "").zip ws⟩ = pure (fn.ps.zip as)) : FnB K fd fn := by
  obtain ⟨oc, od, kV, doc, pm, an, cdv, ct, osl, rfl, lk, hcd⟩ := F.ex
  exact ⟨fun s us hl => .of_eq (hp kV doc pm an cdv ct us hl), fun n js hm s us ws as l1 l2 e => .of_eq (hk n js hm kV doc pm an cdv ct us ws as l1 l2 e)⟩
theorem fq_mk {K : PySem.W.Frag} {h : Heap} {mg : Str → Option Value} {x : Str} {st : Stmt} {f : Addr} {oc : Value} {od an : Option Addr} {osl : Array (Option Value)} {kV doc pm cdv ct : Value} (X : K.In h) (G : h.Ns mainGlobals mg) (a : PySem.W.nsIn K mainGlobals x = some (some (.ref f)))
    (l : K.lookup f = some ⟨oc, od, .func (PySem.W.fnOf x x (defArgs st) (defBody st) (defScope st) .none kV doc pm an cdv ct), osl⟩) (c : PySem.W.codeIn K cdv x = true) (k : PySem.W.keepIn K (.ref f) = true) : ∃ f fd, mg x = some (.ref f) ∧ Fun K x x st f fd :=
  ⟨f, _, PySem.W.mg_of X G a, fun_mk l c k⟩
theorem nNil {K : PySem.W.Frag} : ∀ x ∈ ([] : List Str), PySem.W.nsIn K mainGlobals x = some none := fun x h => by cases h
theorem nCons {K : PySem.W.Frag} {x : Str} {xs : List Str} (h : PySem.W.nsIn K mainGlobals x = some none) (t : ∀ y ∈ xs, PySem.W.nsIn K mainGlobals y = some none) : ∀ y ∈ x :: xs, PySem.W.nsIn K mainGlobals y = some none := fun y hy => by
  rcases List.mem_cons.mp hy with z | z
  · rw [z]; exact h
  · exact t y z
theorem bl_of {K : PySem.W.Frag} {h : Heap} {mg : Str → Option Value} (X : K.In h) (G : h.Ns mainGlobals mg) (e : ∀ x ∈ bnames, PySem.W.nsIn K mainGlobals x = some none) : ∀ x ∈ bnames, mg x = none := fun x hx => PySem.W.mg_none_of X G (e x hx)
section
variable {P : Program} {w : World} {K : PySem.W.Frag} {mg : Str → Option Value} {base : Heap} {k : Nat}
theorem csNil : ∀ c ∈ ([] : List (Str × D)), CsP K mg c := fun c h => by cases h
theorem csCons {c : Str × D} {cs : List (Str × D)} (h : CsP K mg c) (t : ∀ c ∈ cs, CsP K mg c) : ∀ d ∈ c :: cs, CsP K mg d := fun d hd => by
  rcases List.mem_cons.mp hd with z | z
  · rw [z]; exact h
  · exact t d z
theorem csInt {x : Str} {i : Int} (h : ∃ t, mg x = some (.int i t)) : CsP K mg (x, .int i) := by
  obtain ⟨t, h⟩ := h
  exact ints_cs h rfl
abbrev CsO {K : PySem.W.Frag} {h : Heap} (_ : K.In h) (mg : Str → Option Value) (c : Str × D) : Prop := CsP K mg c
theorem csT {hh : Heap} {x : Str} {a : Addr} {is : List Int} {od : Option Addr} {its : Array Value} {n : Nat} {sl : Array (Option Value)} (X : K.In hh) (G : hh.Ns mainGlobals mg) (h : PySem.W.nsIn K mainGlobals x = some (some (.ref a))) (l : K.lookup a = some ⟨.type "tuple", od, .seq its n, sl⟩) (v : its.size ≤ sizeLine ∧ Vals (is.map V.int) its.toList) : CsP K mg (x, .tuple (is.map .int)) :=
  ⟨_, .ref a, PySem.W.mg_of X G h, rfl, fun G r => .tup (.inr ⟨_, its, n, l, rfl, rfl, v.1, v.2⟩) (dq_ints is)⟩
theorem fsNil : ∀ f ∈ ([] : List Fn), FnP P w K mg base k f := fun c h => by cases h
theorem fsCons {f : Fn} {fs : List Fn} (h : FnP P w K mg base k f) (t : ∀ f ∈ fs, FnP P w K mg base k f) : ∀ g ∈ f :: fs, FnP P w K mg base k g := fun d hd => by
  rcases List.mem_cons.mp hd with z | z
  · rw [z]; exact h
  · exact t d z
end
end Ev

end
section
set_option maxHeartbeats 4000000
/-! # EvM: what the evaluator answers, for the mathematics -/
namespace Ev
open PySem
/-! ### bounds -/
def Bd (n : Nat) (a : Int) : Prop := a.natAbs < 10 ^ n
theorem Bd.mono {n m : Nat} {a : Int} (h : Bd n a) (l : n ≤ m) : Bd m a := Nat.lt_of_lt_of_le h (Nat.pow_le_pow_right (by decide) l)
theorem Bd.neg {n : Nat} {a : Int} (h : Bd n a) : Bd n (-a) := by unfold Bd at *; rwa [Int.natAbs_neg]
theorem Bd.add {n : Nat} {a b : Int} (h : Bd n a) (k : Bd n b) : Bd (n + 1) (a + b) := by
  unfold Bd at *
  have : (10 : Nat) ^ (n + 1) = 10 ^ n * 10 := Nat.pow_succ ..
  omega
theorem Bd.sub {n : Nat} {a b : Int} (h : Bd n a) (k : Bd n b) : Bd (n + 1) (a - b) := by
  unfold Bd at *
  have : (10 : Nat) ^ (n + 1) = 10 ^ n * 10 := Nat.pow_succ ..
  omega
theorem Bd.mul {n m : Nat} {a b : Int} (h : Bd n a) (k : Bd m b) : Bd (n + m) (a * b) := by
  unfold Bd at *
  rw [Int.natAbs_mul, Nat.pow_add]
  exact Nat.mul_lt_mul'' h k
theorem Bd.fdiv {n : Nat} {a : Int} (h : Bd n a) (b : Int) : Bd n (a.fdiv b) := Nat.lt_of_le_of_lt (Int.natAbs_fdiv_le_natAbs a b) h
theorem Bd.ediv {n : Nat} {a : Int} (h : Bd n a) (b : Int) : Bd n (a / b) := Nat.lt_of_le_of_lt (Int.natAbs_ediv_le_natAbs a b) h
theorem Bd.of {n : Nat} {a : Int} (h1 : -10 ^ n < a) (h2 : a < 10 ^ n) : Bd n a := by
  unfold Bd
  have e : ((10 ^ n : Nat) : Int) = 10 ^ n := by push_cast; rfl
  omega
theorem Bd.lt {n : Nat} {a : Int} (h : Bd n a) : -10 ^ n < a ∧ a < 10 ^ n := by
  unfold Bd at h
  have e : ((10 ^ n : Nat) : Int) = 10 ^ n := by push_cast; rfl
  omega
theorem bits_le {n : Nat} {a : Int} (h : Bd n a) : Builtin.Int.intBits a ≤ 4 * n + 1 := by
  unfold Builtin.Int.intBits
  split
  · omega
  · rename_i h0
    have h0' : a.natAbs ≠ 0 := by simpa using h0
    have : a.natAbs < 2 ^ (4 * n) := Nat.lt_of_lt_of_le h (by rw [Nat.pow_mul]; exact Nat.pow_le_pow_left (by decide) n)
    have := (Nat.log2_lt h0').mpr this
    omega
theorem bl27 : bitsLine = 2 ^ 27 := by decide
theorem mulOk_bd {n m : Nat} {a b : Int} (h : Bd n a) (k : Bd m b) (l : n + m ≤ 1000000 := by omega) : mulOk a b = true := by
  have h1 := bits_le h
  have h2 := bits_le k
  unfold mulOk Builtin.Int.intTooBig
  simp only [Bool.not_eq_true', Bool.and_eq_false_iff, decide_eq_false_iff_not]
  right
  have := bl27
  omega
theorem mulOk_l {a b : Int} (h : a.natAbs < 2 ^ 64) : mulOk a b = true := by
  unfold mulOk Builtin.Int.intBits
  simp only [Bool.not_eq_true', Bool.and_eq_false_iff, decide_eq_false_iff_not]
  left
  left
  split
  · decide
  · rename_i h0
    have h0' : a.natAbs ≠ 0 := by simpa using h0
    have := (Nat.log2_lt h0').mpr h
    show ¬ (a.natAbs.log2 + 1 > 64)
    omega
theorem mulOk_r {a b : Int} (h : b.natAbs < 2 ^ 64) : mulOk a b = true := by
  have e : mulOk a b = mulOk b a := by
    unfold mulOk
    rw [Bool.and_comm (decide (_ > _)), Int.add_comm]
  rw [e]
  exact mulOk_l h
theorem divOk_bd {n : Nat} {a b : Int} (h : Bd n b) (l : n ≤ 2000 := by omega) : divOk a b = true := by
  have h2 := bits_le h
  unfold Builtin.Int.intBits at h2
  unfold divOk Builtin.divisionGoesByPylong
  simp only [Bool.not_eq_true', Bool.and_eq_false_iff, decide_eq_false_iff_not]
  left
  split
  · omega
  · rename_i h0
    rw [if_neg h0] at h2
    omega

/-! ### wishes -/
section
variable {α β : Type} {ds : Option DS}
theorem wp_bnd {m : M α} {f : α → M β} {Q : β → Option DS → Prop} : wpR (bnd m f ds) Q = wpR (m ds) (fun a s => wpR (f a s) Q) := propext wpR_bnd
theorem wp_ret {a : α} {Q : α → Option DS → Prop} : wpR (ret a ds) Q = Q a ds := rfl
theorem wp_some {a : α} {Q : α → Option DS → Prop} : wpR (lft (some a) ds) Q = Q a ds := rfl
theorem wp_none {Q : α → Option DS → Prop} : wpR (lft (none : Option α) ds) Q = False := rfl
theorem wp_stk {Q : α → Option DS → Prop} : wpR ((stk : M α) ds) Q = False := rfl
theorem wp_ite {c : Prop} [Decidable c] {m1 m2 : M α} {Q : α → Option DS → Prop} : wpR ((if c then m1 else m2) ds) Q = if c then wpR (m1 ds) Q else wpR (m2 ds) Q := by split <;> rfl
@[simp] theorem bnd_ret {a : α} {f : α → M β} : bnd (ret a) f = f a := (rfl)
@[simp] theorem lft_some {a : α} : lft (some a) = ret a := (rfl)
@[simp] theorem bnd_assoc {γ : Type} {m : M α} {f : α → M β} {g : β → M γ} : bnd (bnd m f) g = bnd m fun a => bnd (f a) g := by
  funext s
  unfold bnd
  cases m s <;> rfl
theorem bnd_ret_r {m : M α} : bnd m ret = m := by
  funext s
  unfold bnd ret
  cases m s <;> rfl
/-- a loop over a list, by an invariant -/
theorem wp_forL {b : D → Env → M Fl} {Q : Fl → Option DS → Prop} (inv : Nat → Env → Option DS → Prop) : ∀ (xs : List D) (k : Nat) (env : Env) (ds : Option DS), inv k env ds →
    (∀ i (hi : i < xs.length) env ds, inv (k + i) env ds → wpR (b xs[i] env ds) fun fl ds' => match fl with
      | .nx e => inv (k + i + 1) e ds'
      | .bk e => Q (.nx e) ds'
      | .rt d => Q (.rt d) ds') →
    (∀ env ds, inv (k + xs.length) env ds → Q (.nx env) ds) → wpR (forL b xs env ds) Q
  | [], k, env, ds, h, _, fin => fin env ds h
  | x :: xs, k, env, ds, h, step, fin => by
    unfold forL
    rw [wp_bnd]
    refine wpR_mono (step 0 (by simp) env ds h) fun fl ds' w => ?_
    cases fl with
    | nx e =>
      refine wp_forL inv xs (k + 1) e ds' w (fun i hi env ds hv => ?_) fun env ds hv => fin env ds ?_
      · have z := step (i + 1) (by simpa using hi) env ds (by rwa [show k + (i + 1) = k + 1 + i by omega])
        rw [show k + (i + 1) + 1 = k + 1 + i + 1 by omega] at z
        exact z
      · rw [List.length_cons, show k + (xs.length + 1) = k + 1 + xs.length by omega]
        exact hv
    | bk e => exact w
    | rt d => exact w
/-- a comprehension that only computes -/
theorem lcL_pure {f : D → M (Option D)} {g : D → Option D} : ∀ {xs : List D}, (∀ x ∈ xs, f x = ret (g x)) → lcL f xs = ret (xs.filterMap g)
  | [], _ => rfl
  | x :: xs, h => by
    unfold lcL
    rw [h x List.mem_cons_self, bnd_ret, lcL_pure fun y hy => h y (List.mem_cons_of_mem _ hy), bnd_ret]
    cases e : g x <;> simp [List.filterMap_cons, e]
theorem lcL_map {f : D → M (Option D)} {g : D → D} {xs : List D} (h : ∀ x ∈ xs, f x = ret (some (g x))) : lcL f xs = ret (xs.map g) := by
  rw [lcL_pure (g := fun x => some (g x)) h, List.filterMap_eq_map']
theorem lcL_ints {γ : Type} {f : D → M (Option D)} {u v : γ → D} {xs : List γ} (h : ∀ x ∈ xs, f (u x) = ret (some (v x))) : lcL f (xs.map u) = ret (xs.map v) := by
  induction xs with
  | nil => rfl
  | cons x xs ih =>
    rw [List.map_cons]
    unfold lcL
    rw [h x List.mem_cons_self, bnd_ret, ih fun y hy => h y (List.mem_cons_of_mem _ hy), bnd_ret]
    rfl
end
theorem rngD_eq (a b : Int) : rngD a b = ((List.range (b - a).toNat).map fun i => (.int (a + (i : Nat)) : D)) := rfl
theorem rngD_len (a b : Int) : (rngD a b).length = (b - a).toNat := by simp [rngD]
theorem rngD_get (a b : Int) (i : Nat) (h : i < (rngD a b).length) : (rngD a b)[i] = .int (a + i) := by simp [rngD]
theorem lenOk_le {n : Nat} (h : n ≤ 16777216) : lenOk n = true := by
  unfold lenOk
  rw [decide_eq_true_iff]
  exact h
theorem rngOk_le {i : Int} (h : -(2 ^ 62) ≤ i) (h2 : i < 2 ^ 62) : rngOk i = true := by
  unfold rngOk
  rw [decide_eq_true h, decide_eq_true h2]; rfl

/-! ### repr -/
mutual
def okd : D → Bool
  | .none => true
  | .bool _ => true
  | .int i => decide (i.natAbs < 10 ^ 500)
  | .str _ => false
  | .list xs => okds xs
  | .tuple xs => okds xs
  | .dict _ => false
def okds : List D → Bool
  | [] => true
  | x :: xs => okd x && okds xs
end
mutual
theorem okd_show : ∀ {d : D}, okd d = true → d.showable = true ∧ d.hasDict = false ∧ d.leavesShort 600 = true
  | .none, _ => ⟨rfl, rfl, rfl⟩
  | .bool _, _ => ⟨rfl, rfl, rfl⟩
  | .int i, h => by
    have h' : i.natAbs < 10 ^ 500 := by simpa [okd] using h
    refine ⟨?_, rfl, ?_⟩
    · simp only [PyData.showable, decide_eq_true_eq]
      by_cases z : i.natAbs = 0
      · rw [z]; decide
      · exact (Nat.log2_lt z).mpr (Nat.lt_of_lt_of_le h' (by decide +kernel))
    · simp only [PyData.leavesShort, decide_eq_true_eq]
      have := int_text_length_le10 (by decide : 0 < 500) h'
      show (Str.ofString (toString i)).length ≤ 600
      rw [ofString_length]
      omega
  | .str _, h => by simp [okd] at h
  | .list xs, h => by
    obtain ⟨a, b, c⟩ := okds_show (xs := xs) (by simpa [okd] using h)
    exact ⟨by simpa [PyData.showable] using a, by simpa [PyData.hasDict] using b, by simpa [PyData.leavesShort] using c⟩
  | .tuple xs, h => by
    obtain ⟨a, b, c⟩ := okds_show (xs := xs) (by simpa [okd] using h)
    exact ⟨by simpa [PyData.showable] using a, by simpa [PyData.hasDict] using b, by simpa [PyData.leavesShort] using c⟩
  | .dict _, h => by simp [okd] at h
theorem okds_show : ∀ {xs : List D}, okds xs = true → PyData.showableAll xs = true ∧ PyData.hasDictAll xs = false ∧ PyData.leavesShortAll 600 xs = true
  | [], _ => ⟨rfl, rfl, rfl⟩
  | x :: xs, h => by
    have h' : okd x = true ∧ okds xs = true := by simpa [okds] using h
    obtain ⟨a, b, c⟩ := okd_show h'.1
    obtain ⟨a', b', c'⟩ := okds_show h'.2
    exact ⟨by simp [PyData.showableAll, a, a'], by simp [PyData.hasDictAll, b, b'], by simp [PyData.leavesShortAll, c, c']⟩
end
theorem reprOk_of {d : D} (h : okd d = true) (h2 : d.depth ≤ 64) (h3 : d.bulk ≤ 27000) : reprOk d = true := by
  obtain ⟨a, b, c⟩ := okd_show h
  have l := PyData.shown_le_bulk 600 (by decide) d c
  have : d.shown.length ≤ 16777216 := by omega
  unfold reprOk
  simp only [a, b, Bool.not_false, Bool.and_true, Bool.true_and, Bool.and_eq_true, decide_eq_true_eq]
  exact ⟨h2, this⟩

/-! ### the evaluator, form by form -/
@[simp] theorem getv_0 {o : Option D} {env : Env} : getv (o :: env) 0 = o := by
  unfold getv
  cases o <;> rfl
@[simp] theorem getv_s {o : Option D} {env : Env} {n : Nat} : getv (o :: env) (n + 1) = getv env n := (rfl)
@[simp] theorem asI_i {i : Int} : asI (.int i) = some i := (rfl)
@[simp] theorem asB_b {i : Bool} : asB (.bool i) = some i := (rfl)
@[simp] theorem asL_l {i : List D} : asL (.list i) = some i := (rfl)
@[simp] theorem asSeq_l {i : List D} : asSeq (.list i) = some i := (rfl)
@[simp] theorem asSeq_t {i : List D} : asSeq (.tuple i) = some i := (rfl)
@[simp] theorem bin_add {a b : Int} : binD .add (.int a) (.int b) = some (.int (a + b)) := (rfl)
@[simp] theorem bin_sub {a b : Int} : binD .sub (.int a) (.int b) = some (.int (a - b)) := (rfl)
@[simp] theorem bin_mul {a b : Int} : binD .mul (.int a) (.int b) = if mulOk a b then some (.int (a * b)) else none := (rfl)
@[simp] theorem bin_fdiv {a b : Int} : binD .fdiv (.int a) (.int b) = if b != 0 && divOk a b then some (.int (a.fdiv b)) else none := (rfl)
@[simp] theorem bin_mod {a b : Int} : binD .mod (.int a) (.int b) = if b != 0 then some (.int (a.fmod b)) else none := (rfl)
@[simp] theorem bin_pow {a b : Int} : binD .pow (.int a) (.int b) = if powOk a b then some (.int (a ^ b.toNat)) else none := (rfl)
@[simp] theorem bin_addL {a b : List D} : binD .add (.list a) (.list b) = if lenOk (a.length + b.length) then some (.list (a ++ b)) else none := (rfl)
@[simp] theorem bin_addT {a b : List D} : binD .add (.tuple a) (.tuple b) = if lenOk (a.length + b.length) then some (.tuple (a ++ b)) else none := (rfl)
@[simp] theorem bin_rep {a : List D} {k : Int} : binD .mul (.list a) (.int k) = if repOk a.length k then some (.list (List.replicate k.toNat a).flatten) else none := (rfl)
@[simp] theorem cmp_lt {a b : Int} : cmpD .lt (.int a) (.int b) = some (decide (a < b)) := (rfl)
@[simp] theorem cmp_le {a b : Int} : cmpD .le (.int a) (.int b) = some (decide (a ≤ b)) := (rfl)
@[simp] theorem cmp_gt {a b : Int} : cmpD .gt (.int a) (.int b) = some (decide (b < a)) := (rfl)
@[simp] theorem cmp_ge {a b : Int} : cmpD .ge (.int a) (.int b) = some (decide (b ≤ a)) := (rfl)
@[simp] theorem cmp_eqI {a b : Int} : cmpD .eq (.int a) (.int b) = some (decide (a = b)) := by
  show (if SeqAt.shaped (.int a) && SeqAt.shaped (.int b) then some (PyData.eqv (.int a) (.int b)) else none) = _
  have h : ∀ i, SeqAt.shaped (.int i) = true := fun i => rfl
  rw [h, h]
  show some (PyData.eqv (.int a) (.int b)) = _
  by_cases e : a = b
  · subst e; simp [PyData.eqv]
  · simp [PyData.eqv, e]
@[simp] theorem cmp_neI {a b : Int} : cmpD .ne (.int a) (.int b) = some (!decide (a = b)) := by
  show (if SeqAt.shaped (.int a) && SeqAt.shaped (.int b) then some (!PyData.eqv (.int a) (.int b)) else none) = _
  have h : ∀ i, SeqAt.shaped (.int i) = true := fun i => rfl
  rw [h, h]
  show some (!PyData.eqv (.int a) (.int b)) = _
  by_cases e : a = b
  · subst e; simp [PyData.eqv]
  · simp [PyData.eqv, e]
@[simp] theorem cmp_is {a : D} : cmpD .is a .none = some (isNone a) := by cases a <;> rfl
@[simp] theorem cmp_isnot {a : D} : cmpD .isnot a .none = some (!isNone a) := by cases a <;> rfl
@[simp] theorem cmp_isB {a b : Bool} : cmpD .is (.bool a) (.bool b) = some (decide (a = b)) := (rfl)
@[simp] theorem cmp_isnotB {a b : Bool} : cmpD .isnot (.bool a) (.bool b) = some (!decide (a = b)) := (rfl)
@[simp] theorem isNone_n : isNone .none = true := (rfl)
@[simp] theorem isNone_i {i : Int} : isNone (.int i) = false := (rfl)
@[simp] theorem isNone_t {i : List D} : isNone (.tuple i) = false := (rfl)
@[simp] theorem isNone_l {i : List D} : isNone (.list i) = false := (rfl)
@[simp] theorem isNone_b {i : Bool} : isNone (.bool i) = false := (rfl)
@[simp] theorem neg_i {i : Int} : negD (.int i) = some (.int (-i)) := (rfl)
@[simp] theorem bi_abs {i : Int} : biD .abs [.int i] = some (.int (if i < 0 then -i else i)) := (rfl)
@[simp] theorem bi_gcd {a b : Int} : biD .gcd [.int a, .int b] = some (.int ((Nat.gcd a.natAbs b.natAbs : Nat) : Int)) := (rfl)
@[simp] theorem bi_int {i : Int} : biD .int [.int i] = some (.int i) := (rfl)
@[simp] theorem bi_intB {i : Bool} : biD .int [.bool i] = some (.int (if i then 1 else 0)) := (rfl)
@[simp] theorem bi_lenL {i : List D} : biD .len [.list i] = some (.int i.length) := (rfl)
@[simp] theorem bi_lenT {i : List D} : biD .len [.tuple i] = some (.int i.length) := (rfl)
@[simp] theorem bi_listL {i : List D} : biD .list [.list i] = some (.list i) := (rfl)
@[simp] theorem bi_listT {i : List D} : biD .list [.tuple i] = some (.list i) := (rfl)
@[simp] theorem bi_tupleL {i : List D} : biD .tuple [.list i] = some (.tuple i) := (rfl)
@[simp] theorem bi_tupleT {i : List D} : biD .tuple [.tuple i] = some (.tuple i) := (rfl)
@[simp] theorem bi_max2 {i j : Int} : biD .max2 [.int i, .int j] = some (.int (if j > i then j else i)) := (rfl)
@[simp] theorem bi_min2 {i j : Int} : biD .min2 [.int i, .int j] = some (.int (if j < i then j else i)) := (rfl)
@[simp] theorem bi_max1 {i : List D} : biD .max1 [.list i] = maxD i := (rfl)
@[simp] theorem bi_max1T {i : List D} : biD .max1 [.tuple i] = maxD i := (rfl)
@[simp] theorem bi_min1 {i : List D} : biD .min1 [.list i] = minD i := (rfl)
@[simp] theorem bi_min1T {i : List D} : biD .min1 [.tuple i] = minD i := (rfl)
@[simp] theorem bi_sum {i : List D} : biD .sum [.list i] = sumD i := (rfl)
@[simp] theorem bi_sumT {i : List D} : biD .sum [.tuple i] = sumD i := (rfl)
@[simp] theorem bi_repr {d : D} : biD .repr [d] = if reprOk d then some (.str d.shown) else none := by cases d <;> rfl
@[simp] theorem isi_ii {i : Int} : isiD .int (.int i) = some true := (rfl)
@[simp] theorem isi_bi {i : Int} : isiD .bool (.int i) = some false := (rfl)
@[simp] theorem isi_tt {i : List D} : isiD .tuple (.tuple i) = some true := (rfl)
@[simp] theorem isi_ti {i : Int} : isiD .tuple (.int i) = some false := (rfl)
@[simp] theorem isi_ib {i : Bool} : isiD .int (.bool i) = some true := (rfl)
@[simp] theorem isi_bb {i : Bool} : isiD .bool (.bool i) = some true := (rfl)
@[simp] theorem isi_it {i : List D} : isiD .int (.tuple i) = some false := (rfl)
@[simp] theorem ix_l {xs : List D} {i : Int} : ixD (.list xs) (.int i) = L2.atI xs i := (rfl)
@[simp] theorem ix_t {xs : List D} {i : Int} : ixD (.tuple xs) (.int i) = L2.atI xs i := (rfl)
@[simp] theorem sl_l {xs : List D} {i j : Option Int} : slD (.list xs) i j = some (.list (cutA xs i j)) := (rfl)
@[simp] theorem sl_t {xs : List D} {i j : Option Int} : slD (.tuple xs) i j = some (.tuple (cutA xs i j)) := (rfl)
theorem atI_lit {xs : List D} {n : Nat} : L2.atI xs (n : Int) = xs[n]? := by
  unfold L2.atI L2.ixN
  rw [if_pos (Int.natCast_nonneg n)]
  by_cases h : n < xs.length
  · rw [if_pos (Int.ofNat_lt.mpr h)]; rfl
  · rw [if_neg (by omega)]
    rw [List.getElem?_eq_none (by omega)]; rfl
@[simp] theorem atI_0 {x : D} {xs : List D} : L2.atI (x :: xs) 0 = some x := atI_lit (n := 0)
@[simp] theorem atI_1 {x y : D} {xs : List D} : L2.atI (x :: y :: xs) 1 = some y := atI_lit (n := 1)
@[simp] theorem atI_2 {x y z : D} {xs : List D} : L2.atI (x :: y :: z :: xs) 2 = some z := atI_lit (n := 2)
@[simp] theorem atI_3 {x y z u : D} {xs : List D} : L2.atI (x :: y :: z :: u :: xs) 3 = some u := atI_lit (n := 3)
@[simp] theorem asgT_n {i : Nat} {d : D} {env : Env} : asgT (.n i) d env = some (env.set i (some d)) := by simp only [asgT]
@[simp] theorem asgT_t {ts : Tgs} {xs : List D} {env : Env} : asgT (.t ts) (.tuple xs) env = asgTs ts xs env := by simp only [asgT]
@[simp] theorem asgT_l {ts : Tgs} {xs : List D} {env : Env} : asgT (.t ts) (.list xs) env = asgTs ts xs env := by simp only [asgT]
@[simp] theorem asgTs_n {env : Env} : asgTs .nil [] env = some env := by simp only [asgTs]
@[simp] theorem asgTs_c {t : Tg} {ts : Tgs} {x : D} {xs : List D} {env : Env} : asgTs (.cons t ts) (x :: xs) env = (asgT t x env).bind (asgTs ts xs) := by simp only [asgTs]
@[simp] theorem stE_c {i : Nat} {is : List Nat} {x : D} {xs : List D} {env : Env} : stE (i :: is) (x :: xs) env = stE is xs (env.set i (some x)) := (rfl)
@[simp] theorem stE_n {xs : List D} {env : Env} : stE [] xs env = env := by cases xs <;> rfl
@[simp] theorem args_1 {a : D} : argsOf 1 [a] [] = some [a] := (rfl)
@[simp] theorem args_2 {a b : D} : argsOf 2 [a, b] [] = some [a, b] := (rfl)
@[simp] theorem args_3 {a b c : D} : argsOf 3 [a, b, c] [] = some [a, b, c] := (rfl)
@[simp] theorem args_4 {a b c d : D} : argsOf 4 [a, b, c, d] [] = some [a, b, c, d] := (rfl)
@[simp] theorem args_5 {a b c d e : D} : argsOf 5 [a, b, c, d, e] [] = some [a, b, c, d, e] := (rfl)
section
variable {T : Tb} {env : Env} {F : Nat}
@[simp] theorem ev_v {i : Nat} : evE T (.v i) env = lft (getv env i) := by simp only [evE]
@[simp] theorem ev_k {d : D} : evE T (.k d) env = ret d := by simp only [evE]
@[simp] theorem ev_g {i : Nat} : evE T (.g i) env = lft ((T.cs[i]?).map (·.2)) := by simp only [evE]
@[simp] theorem ev_bin {o : Bo} {a b : E} : evE T (.bin o a b) env = bnd (evE T a env) fun x => bnd (evE T b env) fun y => lft (binD o x y) := by simp only [evE]
@[simp] theorem ev_neg {a : E} : evE T (.neg a) env = bnd (evE T a env) fun x => lft (negD x) := by simp only [evE]
@[simp] theorem ev_not {a : E} : evE T (.not a) env = bnd (evE T a env) fun x => lft ((asB x).map fun b => .bool (!b)) := by simp only [evE]
@[simp] theorem ev_and {a : E} {es : Es} : evE T (.and a es) env = bnd (evE T a env) fun x => evAnd T es x env := by simp only [evE]
@[simp] theorem ev_or {a : E} {es : Es} : evE T (.or a es) env = bnd (evE T a env) fun x => evOr T es x env := by simp only [evE]
@[simp] theorem ev_cmp {o : Co} {a b : E} : evE T (.cmp o a b) env = bnd (evE T a env) fun x => bnd (evE T b env) fun y => lft ((cmpD o x y).map .bool) := by simp only [evE]
@[simp] theorem ev_chain {o o' : Co} {a b c : E} : evE T (.chain o o' a b c) env = bnd (evE T a env) fun x => bnd (evE T b env) fun y => bnd (lft (cmpD o x y)) fun t => if t then bnd (evE T c env) fun z => lft ((cmpD o' y z).map .bool) else ret (.bool false) := by simp only [evE]
@[simp] theorem ev_ife {c a b : E} : evE T (.ife c a b) env = bnd (evE T c env) fun x => bnd (lft (asB x)) fun t => if t then evE T a env else evE T b env := by simp only [evE]
@[simp] theorem ev_tup {es : Es} : evE T (.tup es) env = bnd (evEs T es env) fun xs => lft (if lenOk xs.length then some (.tuple xs) else none) := by simp only [evE]
@[simp] theorem ev_lst {es : Es} : evE T (.lst es) env = bnd (evEs T es env) fun xs => lft (if lenOk xs.length then some (.list xs) else none) := by simp only [evE]
@[simp] theorem ev_ix {a i : E} : evE T (.ix a i) env = bnd (evE T a env) fun x => bnd (evE T i env) fun y => lft (ixD x y) := by simp only [evE]
@[simp] theorem ev_sl {a l h : E} : evE T (.sl a l h) env = bnd (evE T a env) fun x => bnd (if isNo l then ret none else bnd (evE T l env) fun y => lft ((asI y).map some)) fun l => bnd (if isNo h then ret none else bnd (evE T h env) fun y => lft ((asI y).map some)) fun h => lft (slD x l h) := by simp only [evE]
@[simp] theorem ev_rev {a : E} : evE T (.rev a) env = bnd (evE T a env) fun x => lft (revD x) := by simp only [evE]
@[simp] theorem ev_emp : evE T .emp env = ret empD := by simp only [evE]
@[simp] theorem ev_lrg {a b : E} : evE T (.lrg a b) env = bnd (evE T a env) fun x => bnd (evE T b env) fun y => lft (lrgD x y) := by simp only [evE]
@[simp] theorem ev_callL {j : Nat} {es : Es} : evE T (.callL j es) env = bnd (evEs T es env) fun xs => match T.fs[j]? with
    | some f => bnd (bnd (lft (argsOf f.ps.length xs [])) f.m) fun d => lft (if noL d then some d else none)
    | none => stk := by
  simp only [evE] <;> rfl
@[simp] theorem noL_n : noL .none = true := (rfl)
@[simp] theorem noL_b {b : Bool} : noL (.bool b) = true := (rfl)
@[simp] theorem noL_i {i : Int} : noL (.int i) = true := (rfl)
@[simp] theorem noL_s {x : Str} : noL (.str x) = true := (rfl)
@[simp] theorem noL_t {ds : List D} : noL (.tuple ds) = noLs ds := (rfl)
@[simp] theorem noLs_n : noLs [] = true := (rfl)
@[simp] theorem noLs_c {d : D} {ds : List D} : noLs (d :: ds) = (noL d && noLs ds) := (rfl)
@[simp] theorem ev_sset {a : E} : evE T (.sset a) env = bnd (evE T a env) fun x => lft (ssetD x) := by simp only [evE]
@[simp] theorem ev_srt {a : E} : evE T (.srt a) env = bnd (evE T a env) fun x => lft (srtD x) := by simp only [evE]
@[simp] theorem sset_t {ds : List D} : ssetD (.tuple ds) = (intsOf ds).bind fun ns => if decide (ns.length < 4000) && decide ((dd ns).length < 64) then some (.list ((dd ns).map .int)) else none := (rfl)
@[simp] theorem srt_l {ds : List D} : srtD (.list ds) = (intsOf ds).map fun ns => .list ((srt ns).map .int) := (rfl)
@[simp] theorem cmp_isin {a : Int} {y : D} : cmpD .isin (.int a) y = inD a y := (rfl)
@[simp] theorem cmp_notin {a : Int} {y : D} : cmpD .notin (.int a) y = (inD a y).map (!·) := (rfl)
@[simp] theorem in_l {a : Int} {ds : List D} : inD a (.list ds) = (intsOf ds).map fun js => decide (a ∈ js) := (rfl)
@[simp] theorem in_t {a : Int} {ds : List D} : inD a (.tuple ds) = (intsOf ds).map fun js => decide (a ∈ js) := (rfl)
@[simp] theorem ev_lrg1 {a : E} : evE T (.lrg1 a) env = bnd (evE T a env) fun x => lft (lrgD (.int 0) x) := by simp only [evE]
@[simp] theorem lrg_i {i j : Int} : lrgD (.int i) (.int j) = if rngOk i && rngOk j && lenOk (j - i).toNat then some (.list (rngD i j)) else none := (rfl)
@[simp] theorem isi_emp {t : Ty} : isiD t (.dict [(.bool true, .none)]) = some false := (rfl)
@[simp] theorem rev_l {xs : List D} : revD (.list xs) = some (.list xs.reverse) := (rfl)
@[simp] theorem ev_call {j : Nat} {es : Es} {ks : Ks} : evE T (.call j es ks) env = bnd (evEs T es env) fun xs => bnd (evKs T ks env) fun kv => match T.fs[j]? with
    | some f => bnd (lft (argsOf f.ps.length xs kv)) f.m
    | none => stk := by simp only [evE] <;> rfl
@[simp] theorem ev_bi {f : Bi} {es : Es} : evE T (.bi f es) env = bnd (evEs T es env) fun xs => lft (biD f xs) := by simp only [evE]
@[simp] theorem ev_isi {t : Ty} {a : E} : evE T (.isi t a) env = bnd (evE T a env) fun x => lft ((isiD t x).map .bool) := by simp only [evE]
@[simp] theorem ev_dAt {i : Nat} : evE T (.dAt i) env = onDS (getv env i) fun s => some (.int s.cnt) := by simp only [evE]
@[simp] theorem ev_dLen {i : Nat} : evE T (.dLen i) env = onDS (getv env i) fun s => some (.int s.cells.length) := by simp only [evE]
@[simp] theorem ev_dCell {i k : Nat} : evE T (.dCell i k) env = bnd (lft ((getv env k).bind asI)) fun n => onDS (getv env i) fun s => (L2.atI s.cells n).map .int := by simp only [evE]
@[simp] theorem ev_dLeft {i k : Nat} : evE T (.dLeft i k) env = bnd (lft ((getv env k).bind asI)) fun n => onDS (getv env i) fun s => (L2.atI s.lefts n).map .int := by simp only [evE]
@[simp] theorem ev_scr {i : Nat} : evE T (.scr i) env = lft (((getv env i).bind unscr).map fun ns => .list ((orZero ns).map .int)) := by simp only [evE]
theorem ev_lc {tg : Tg} {it : It} {c e : E} : evE T (.lc tg it c e) env = bnd (evIt T it env) fun xs => bnd (lcL (fun x => bnd (lft (asgT tg x env)) fun env' => bnd (if isNo c then ret true else bnd (evE T c env') fun y => lft (asB y)) fun t => if t then bnd (evE T e env') fun y => ret (some y) else ret none) xs) fun ys => lft (if lenOk xs.length then some (.list ys) else none) := by simp only [evE]
@[simp] theorem ev_an {x : D} : evAnd T .nil x env = ret x := by simp only [evAnd]
@[simp] theorem ev_ac {e : E} {es : Es} {x : D} : evAnd T (.cons e es) x env = bnd (lft (asB x)) fun t => if t then bnd (evE T e env) fun y => evAnd T es y env else ret (.bool false) := by simp only [evAnd]
@[simp] theorem ev_on {x : D} : evOr T .nil x env = ret x := by simp only [evOr]
@[simp] theorem ev_oc {e : E} {es : Es} {x : D} : evOr T (.cons e es) x env = bnd (lft (asB x)) fun t => if t then ret (.bool true) else bnd (evE T e env) fun y => evOr T es y env := by simp only [evOr]
@[simp] theorem ev_en : evEs T .nil env = ret [] := by simp only [evEs]
@[simp] theorem ev_ec {e : E} {es : Es} : evEs T (.cons e es) env = bnd (evE T e env) fun x => bnd (evEs T es env) fun xs => ret (x :: xs) := by simp only [evEs]
@[simp] theorem ev_kn : evKs T .nil env = ret [] := by simp only [evKs]
@[simp] theorem ev_kc {j : Nat} {e : E} {ks : Ks} : evKs T (.cons j e ks) env = bnd (evE T e env) fun x => bnd (evKs T ks env) fun xs => ret ((j, x) :: xs) := by simp only [evKs]
@[simp] theorem ev_ie {a : E} : evIt T (.e a) env = bnd (evE T a env) fun x => lft (asSeq x) := by simp only [evIt]
@[simp] theorem ev_r1 {a : E} : evIt T (.r1 a) env = bnd (evE T a env) fun x => bnd (lft (asI x)) fun i => lft (if rngOk i then some (rngD 0 i) else none) := by simp only [evIt]
@[simp] theorem ev_r2 {a b : E} : evIt T (.r2 a b) env = bnd (evE T a env) fun x => bnd (evE T b env) fun y => bnd (lft (asI x)) fun i => bnd (lft (asI y)) fun j => lft (if rngOk i && rngOk j then some (rngD i j) else none) := by simp only [evIt]
theorem ev_zip {a b : E} : evIt T (.zip a b) env = bnd (evE T a env) fun x => bnd (evE T b env) fun y => match x, y with
    | .list xs, .list ys => ret (zipD xs ys)
    | .tuple xs, .tuple ys => ret (zipD xs ys)
    | .list xs, .tuple ys => ret (zipD xs ys)
    | .tuple xs, .list ys => ret (zipD xs ys)
    | _, _ => stk := by simp only [evIt] <;> rfl
@[simp] theorem ev_enum {a : E} : evIt T (.enum a) env = bnd (evE T a env) fun x => bnd (lft (asSeq x)) fun xs => ret (enumD 0 xs) := by simp only [evIt]
@[simp] theorem ev_T {e : E} : evT T e env = bnd (evE T e env) fun x => lft (asB x) := (rfl)
@[simp] theorem ev_asg {tg : Tg} {e : E} : evS T F (.asg tg e) env = bnd (evE T e env) fun x => bnd (lft (asgT tg x env)) fun env' => ret (.nx env') := by simp only [evS]
@[simp] theorem ev_asgO {i : Nat} {e : E} : evS T F (.asgO i e) env = bnd (evE T e env) fun x => bnd (lft (asL x)) fun xs => ret (.nx (env.set i (some (.list xs)))) := by simp only [evS]
@[simp] theorem ev_par {is : List Nat} {bs : List Bool} {es : Es} : evS T F (.par is bs es) env = bnd (evEs T es env) fun xs => ret (.nx (stE is xs env)) := by simp only [evS]
@[simp] theorem ev_put {i : Nat} {k e : E} : evS T F (.put i k e) env = bnd (evE T e env) fun x => bnd (lft ((getv env i).bind asL)) fun xs => bnd (evE T k env) fun j => lft (((asI j).bind (L2.ixN xs.length)).map fun m => .nx (env.set i (some (.list (xs.set m x))))) := by simp only [evS]
@[simp] theorem ev_app {i : Nat} {e : E} : evS T F (.app i e) env = bnd (lft ((getv env i).bind asL)) fun xs => bnd (evE T e env) fun x => lft (if lenOk (xs.length + 1) then some (.nx (env.set i (some (.list (xs ++ [x]))))) else none) := by simp only [evS]
@[simp] theorem ev_ext {i : Nat} {e : E} : evS T F (.ext i e) env = bnd (lft ((getv env i).bind asL)) fun xs => bnd (evE T e env) fun x => bnd (lft (asL x)) fun ys => lft (if lenOk (xs.length + ys.length) then some (.nx (env.set i (some (.list (xs ++ ys))))) else none) := by simp only [evS]
@[simp] theorem ev_ex {e : E} : evS T F (.ex e) env = bnd (evE T e env) fun _ => ret (.nx env) := by simp only [evS]
@[simp] theorem ev_ret {e : E} : evS T F (.ret e) env = bnd (evE T e env) fun x => ret (.rt x) := by simp only [evS]
@[simp] theorem ev_if {c : E} {a b : Ss} : evS T F (.ife c a b) env = bnd (evE T c env) fun x => bnd (lft (asB x)) fun t => if t then evSs T F a env else evSs T F b env := by simp only [evS, evT, bnd_assoc]
@[simp] theorem ev_whl {c : E} {b : Ss} : evS T F (.whl c b) env = whlL (evT T c) (fun env => evSs T F b env) F env := by simp only [evS]
@[simp] theorem ev_for {tg : Tg} {it : It} {b : Ss} : evS T F (.for_ tg it b) env = bnd (evIt T it env) fun xs => forL (fun x env => bnd (lft (asgT tg x env)) fun env' => evSs T F b env') xs env := by simp only [evS]
@[simp] theorem ev_brk : evS T F .brk env = ret (.bk env) := by simp only [evS]
@[simp] theorem ev_raise : evS T F .raise env = stk := by simp only [evS]
@[simp] theorem ev_frz {i : Nat} : evS T F (.frz i) env = ret (.nx env) := by simp only [evS]
@[simp] theorem ev_doc : evS T F .doc env = ret (.nx env) := by simp only [evS]
@[simp] theorem ev_sAt {i : Nat} {e : E} : evS T F (.dAt i e) env = bnd (evE T e env) fun x => upDS (getv env i) (.nx env) fun s => (asI x).map fun k => { s with cnt := k } := by simp only [evS]
@[simp] theorem ev_sLeft {i k : Nat} {e : E} : evS T F (.dLeft i k e) env = bnd (evE T e env) fun x => bnd (lft ((getv env k).bind asI)) fun n => upDS (getv env i) (.nx env) fun s => (asI x).bind fun y => (L2.ixN s.lefts.length n).map fun m => { s with lefts := s.lefts.set m y } := by simp only [evS]
@[simp] theorem ev_sRet {i : Nat} {e : E} : evS T F (.dRet i e) env = bnd (evE T e env) fun y => mkDS (.rt (.dict [])) (((getv env i).bind asL).bind intsOf) ((asL y).bind intsOf) := by simp only [evS]
@[simp] theorem ev_sn : evSs T F .nil env = ret (.nx env) := by simp only [evSs]
@[simp] theorem ev_sc {s : S} {ss : Ss} : evSs T F (.cons s ss) env = bnd (evS T F s env) fun f => match f with
    | .nx env' => evSs T F ss env'
    | .bk env' => ret (.bk env')
    | .rt d => ret (.rt d) := by simp only [evSs] <;> rfl
@[simp] theorem end_rt {d : D} : endD (.rt d) = ret d := (rfl)
@[simp] theorem end_nx : endD (.nx env) = ret .none := (rfl)
end
theorem intsOf_map : ∀ xs : List Int, intsOf (xs.map PyData.int) = some xs
  | [] => rfl
  | x :: xs => by rw [List.map_cons, intsOf, intsOf_map xs]; rfl
end Ev

end
section
set_option maxHeartbeats 4000000
/-! # EvL: the law's own first words -/
namespace Ev
open PySem
namespace L
def b_u_law_begin : Ss := (.cons (.asgO 1 (.scr 0)) (.cons (.dRet 1 (.lc (.n 2) (.e (.v 1)) (.no) (.ife (.cmp .ge (.v 2) (.bin .pow (.k (.int 10)) (.k (.int 18)))) (.v 2) (.k (.int 0))))) .nil))
def c_u_law_begin : List (Str × D) := []
def f_u_law_begin : Fn := ⟨"_law_begin", ["script"], [], run ⟨[], c_u_law_begin⟩ 1000000 3 b_u_law_begin⟩
def b_u_law_like : Ss := (.cons (.ret (.cmp .eq (.bi .repr (.cons (.v 0) .nil)) (.bi .repr (.cons (.v 1) .nil)))) .nil)
def c_u_law_like : List (Str × D) := []
def f_u_law_like : Fn := ⟨"_law_like", ["got", "due"], [], run ⟨[], c_u_law_like⟩ 1000000 2 b_u_law_like⟩
def b_u_law_mixed : Ss := (.cons (.asg (.n 0) (.bin .mod (.bi .int (.cons (.v 0) .nil)) (.k (.int 2147483647)))) (.cons (.ret (.bin .mod (.bin .mul (.bin .mod (.bin .add (.bin .add (.bin .mul (.v 0) (.bin .add (.k (.int 48271)) (.bin .mul (.bin .mul (.k (.int 2)) (.v 1)) (.v 1)))) (.bin .mul (.k (.int 69621)) (.v 1))) (.k (.int 11))) (.k (.int 2147483647))) (.k (.int 69621))) (.k (.int 2147483629)))) .nil))
def c_u_law_mixed : List (Str × D) := []
def f_u_law_mixed : Fn := ⟨"_law_mixed", ["cell", "k"], [], run ⟨[], c_u_law_mixed⟩ 1000000 2 b_u_law_mixed⟩
def b_u_law_draw : Ss := (.cons (.asg (.n 2) (.dAt 0)) (.cons (.dAt 0 (.bin .add (.v 2) (.k (.int 1)))) (.cons (.asg (.n 3) (.bin .mod (.bi .int (.cons (.v 2) .nil)) (.dLen 0))) (.cons (.asg (.n 4) (.dLeft 0 3)) (.cons (.ife (.cmp .gt (.v 4) (.k (.int 0))) (.cons (.dLeft 0 3 (.bin .fdiv (.v 4) (.v 1))) (.cons (.ret (.bin .mod (.bi .int (.cons (.v 4) .nil)) (.v 1))) .nil)) .nil) (.cons (.asg (.n 5) (.call 0 (.cons (.call 0 (.cons (.dCell 0 3) (.cons (.v 2) .nil)) .nil) (.cons (.bin .add (.k (.int 40)) (.v 2)) .nil)) .nil)) (.cons (.ret (.bin .mod (.bin .fdiv (.bi .int (.cons (.bin .add (.bin .mul (.v 5) (.k (.int 2147483647))) (.call 0 (.cons (.v 5) (.cons (.bin .add (.k (.int 7)) (.v 2)) .nil)) .nil)) .nil)) (.k (.int 64))) (.v 1))) .nil)))))))
def c_u_law_draw : List (Str × D) := []
def f_u_law_draw : Fn := ⟨"_law_draw", ["draws_so", "limit"], [], run ⟨[f_u_law_mixed], c_u_law_draw⟩ 1000000 6 b_u_law_draw⟩
def b_u_law_divisor : Ss := (.cons (.par [0, 1] [false, false] (.cons (.bi .abs (.cons (.v 0) .nil)) (.cons (.bi .abs (.cons (.v 1) .nil)) .nil))) (.cons (.for_ (.n 2) (.r1 (.k (.int 100000))) (.cons (.ife (.cmp .eq (.v 1) (.k (.int 0))) (.cons (.ret (.v 0)) .nil) .nil) (.cons (.par [0, 1] [false, false] (.cons (.v 1) (.cons (.bin .mod (.v 0) (.v 1)) .nil))) .nil))) (.cons (.ret (.v 0)) .nil)))
def c_u_law_divisor : List (Str × D) := []
def f_u_law_divisor : Fn := ⟨"_law_divisor", ["one", "two"], [], run ⟨[], c_u_law_divisor⟩ 1000000 3 b_u_law_divisor⟩
def b_u_law_share : Ss := (.cons (.asg (.n 2) (.call 0 (.cons (.v 0) (.cons (.v 1) .nil)) .nil)) (.cons (.asg (.n 2) (.ife (.cmp .gt (.v 1) (.k (.int 0))) (.v 2) (.neg (.v 2)))) (.cons (.ret (.tup (.cons (.bin .fdiv (.v 0) (.v 2)) (.cons (.bin .fdiv (.v 1) (.v 2)) .nil)))) .nil)))
def c_u_law_share : List (Str × D) := []
def f_u_law_share : Fn := ⟨"_law_share", ["above", "below"], [], run ⟨[f_u_law_divisor], c_u_law_share⟩ 1000000 3 b_u_law_share⟩
end L
/-- a budget of draws -/
structure DrB (b : Nat) (ds : Option DS) : Prop where
  ex : ∃ s : DS, ds = some s ∧ s.cells ≠ [] ∧ s.lefts.length = s.cells.length ∧ 0 ≤ s.cnt ∧ s.cnt + b ≤ 10 ^ 15
theorem DrB.mono {b c : Nat} {ds : Option DS} (h : DrB b ds) (l : c ≤ b) : DrB c ds := by
  obtain ⟨s, h1, h2, h3, h4, h5⟩ := h
  exact ⟨s, h1, h2, h3, h4, by omega⟩
theorem L.mixed {c k : Int} (h0 : 0 ≤ k) (h1 : k ≤ 10 ^ 15 + 100) : ∃ v, L.f_u_law_mixed.m [.int c, .int k] = ret (.int v) ∧ 0 ≤ v ∧ v < 2147483629 := by
  have e1 : (2 * k).natAbs < 2 ^ 64 := by omega
  refine ⟨((c.fmod 2147483647 * (48271 + 2 * k * k) + 69621 * k + 11).fmod 2147483647 * 69621).fmod 2147483629, ?_, Int.fmod_nonneg_of_pos _ (by decide), Int.fmod_lt_of_pos _ (by decide)⟩
  have g1 : (c.fmod 2147483647).natAbs < 2 ^ 64 := by
    have := Int.fmod_nonneg_of_pos c (b := 2147483647) (by decide)
    have := Int.fmod_lt_of_pos c (b := 2147483647) (by decide)
    omega
  have m1 : mulOk 2 k = true := mulOk_l (by decide)
  have m2 : mulOk (2 * k) k = true := mulOk_l e1
  have m3 : mulOk (c.fmod 2147483647) (48271 + 2 * k * k) = true := mulOk_l g1
  have m4 : mulOk 69621 k = true := mulOk_l (by decide)
  have m5 : ∀ a, mulOk a 69621 = true := fun a => mulOk_r (by decide)
  simp [L.f_u_law_mixed, L.b_u_law_mixed, run, m1, m2, m3, m4, m5]
theorem wp_on {α : Type} {s : DS} {f : DS → Option α} {Q : α → Option DS → Prop} {a : α} (h : f s = some a) : wpR (onDS (some (.dict [])) f (some s)) Q = Q a (some s) := by
  unfold onDS
  dsimp only
  rw [h]; rfl
theorem wp_up {α : Type} {s s' : DS} {f : DS → Option DS} {Q : α → Option DS → Prop} {a : α} (h : f s = some s') : wpR (upDS (some (.dict [])) a f (some s)) Q = Q a (some s') := by
  unfold upDS
  dsimp only
  rw [h]; rfl
theorem ixN_nat' {n j : Nat} (h : j < n) : L2.ixN n (j : Int) = some j := by
  unfold L2.ixN
  rw [if_pos (Int.natCast_nonneg j), if_pos (Int.ofNat_lt.mpr h)]
  rfl
theorem nat_of {i : Int} {n : Nat} (h0 : 0 ≤ i) (h1 : i < n) : ∃ p : Nat, i = p ∧ p < n := ⟨i.toNat, by omega, by omega⟩
theorem get_of {α : Type} {xs : List α} {p : Nat} (h : p < xs.length) : ∃ c, xs[p]? = some c := ⟨xs[p], List.getElem?_eq_getElem h⟩
theorem args_m : L.f_u_law_mixed.ps.length = 2 := rfl
theorem L.draw {lim : Int} {b : Nat} {ds : Option DS} {Q : D → Option DS → Prop} (h : DrB (b + 1) ds) (l0 : 0 < lim) (l1 : Bd 1000 lim) (k : ∀ v ds', 0 ≤ v → v < lim → DrB b ds' → Q (.int v) ds') : wpR (L.f_u_law_draw.m [.dict [], .int lim] ds) Q := by
  obtain ⟨s, rfl, h2, h3, h4, h5⟩ := h
  have hl : 0 < s.cells.length := List.length_pos_iff.mpr h2
  obtain ⟨p, hp, hp2⟩ := nat_of (Int.fmod_nonneg_of_pos s.cnt (b := s.cells.length) (by omega)) (Int.fmod_lt_of_pos _ (by omega))
  have nz : (s.cells.length : Int) ≠ 0 := by omega
  obtain ⟨c, hc⟩ := get_of hp2
  obtain ⟨lf, hlf⟩ := get_of (xs := s.lefts) (p := p) (by omega)
  have c1 := L2.atI_nat hc
  have c2 := L2.atI_nat hlf
  have ix : L2.ixN s.lefts.length (p : Int) = some p := ixN_nat' (by omega)
  have lim0 : lim ≠ 0 := by omega
  have dv : divOk lf lim = true := divOk_bd l1
  have dv2 : ∀ a, divOk a 64 = true := fun a => divOk_bd (n := 2) (by unfold Bd; decide)
  by_cases hpos : 0 < lf
  · simp [L.f_u_law_draw, L.b_u_law_draw, run, wp_bnd, wp_ret, wp_on, wp_up, hp, h2, c2, hpos, lim0, dv, ix]
    refine k _ _ (Int.fmod_nonneg_of_pos _ l0) (Int.fmod_lt_of_pos _ l0) ?_
    exact ⟨_, rfl, h2, by simp [h3], (by show 0 ≤ s.cnt + 1; omega), (by show s.cnt + 1 + b ≤ _; omega)⟩
  · obtain ⟨v1, e1, _, _⟩ := L.mixed (c := c) (k := s.cnt) h4 (by omega)
    obtain ⟨v2, e2, b1, b2⟩ := L.mixed (c := v1) (k := 40 + s.cnt) (by omega) (by omega)
    obtain ⟨v3, e3, _, _⟩ := L.mixed (c := v2) (k := 7 + s.cnt) (by omega) (by omega)
    have m1 : mulOk v2 2147483647 = true := mulOk_r (by decide)
    simp [L.f_u_law_draw, L.b_u_law_draw, run, wp_bnd, wp_ret, wp_on, wp_up, hp, h2, c1, c2, hpos, lim0, dv2, args_m, e1, e2, e3, m1]
    refine k _ _ (Int.fmod_nonneg_of_pos _ l0) (Int.fmod_lt_of_pos _ l0) ?_
    exact ⟨_, rfl, h2, h3, (by show 0 ≤ s.cnt + 1; omega), (by show s.cnt + 1 + b ≤ _; omega)⟩
theorem L.drawN {lim : Int} {b : Nat} {ds : Option DS} {Q : D → Option DS → Prop} (h : DrB (b + 1) ds) (l0 : 0 < lim) (l1 : lim ≤ 10 ^ 60) (k : ∀ (v : Nat) ds', (v : Int) < lim → DrB b ds' → Q (.int (v : Int)) ds') : wpR (L.f_u_law_draw.m [.dict [], .int lim] ds) Q := by
  have l2 : Bd 1000 lim := Bd.mono (n := 61) (Bd.of (by omega) (by omega)) (by decide)
  refine L.draw h l0 l2 fun v ds' v0 v1 hd => ?_
  have e : v = ((v.toNat : Nat) : Int) := by omega
  rw [e]
  exact k v.toNat ds' (by omega) hd
theorem L.begin {ns : List Int} {Q : D → Option DS → Prop} {b : Nat} (hn : ns.length ≤ 63) (hb : b ≤ 10 ^ 15) (k : ∀ ds', DrB b ds' → Q (.dict []) ds') : wpR (L.f_u_law_begin.m [scrD ns] none) Q := by
  have h1 : (getv [some (scrD ns), none, none] 0).bind unscr = some ns := unscr_scrD ns
  have p1 : powOk 10 18 = true := by decide
  have l1 : (orZero ns).length ≤ 63 := by
    unfold orZero
    split
    · decide
    · exact hn
  have l2 : lenOk ((orZero ns).map PyData.int).length = true := lenOk_le (by rw [List.length_map]; omega)
  have l3 : lenOk (orZero ns).length = true := lenOk_le (by omega)
  simp [L.f_u_law_begin, L.b_u_law_begin, run, h1, ev_lc, isNo, unscr_scrD, p1]
  rw [lcL_ints (u := PyData.int) (v := fun c => PyData.int (if 1000000000000000000 ≤ c then c else 0)) fun x _ => by by_cases h : 1000000000000000000 ≤ x <;> simp [h]]
  have e : (orZero ns).map (fun c => PyData.int (if 1000000000000000000 ≤ c then c else 0)) = ((orZero ns).map fun c => if 1000000000000000000 ≤ c then c else 0).map PyData.int := by rw [List.map_map]; rfl
  rw [e]
  simp only [l3, if_true, lft_some, bnd_ret, intsOf_map, asL_l, Option.bind_some]
  refine k _ ⟨_, rfl, ?_, by simp, Int.le_refl 0, by simp; omega⟩
  show orZero ns ≠ []
  unfold orZero
  cases ns <;> simp

/-! ### divisors -/
theorem bi_absN {i : Int} : biD .abs [.int i] = some (.int (i.natAbs : Int)) := by
  rw [bi_abs]
  congr 2
  split <;> omega
theorem div_loop {body : D → Env → M Fl} (hb : ∀ (x : D) (a b : Nat) (o : Option D), body x [some (.int a), some (.int b), o] = if b = 0 then ret (.rt (.int a)) else ret (.nx [some (.int b), some (.int (a % b : Nat)), some x])) :
    ∀ (k : Nat) (xs : List D) (a b : Nat) (o : Option D), b < 2 ^ k → 2 * k + 1 ≤ xs.length → forL body xs [some (.int a), some (.int b), o] = ret (.rt (.int (Nat.gcd a b)))
  | k, [], _, _, _, _, h => by simp at h
  | k, x :: xs, a, b, o, hk, hl => by
    unfold forL
    rw [hb]
    by_cases b0 : b = 0
    · subst b0; simp
    · rw [if_neg b0, bnd_ret]
      cases k with
      | zero => simp at hk; omega
      | succ k =>
        cases xs with
        | nil => simp at hl
        | cons y ys =>
          show forL body (y :: ys) _ = _
          unfold forL
          rw [hb]
          have g : Nat.gcd a b = Nat.gcd b (a % b) := by rw [Nat.gcd_comm a b, Nat.gcd_rec, Nat.gcd_comm]
          by_cases r0 : a % b = 0
          · rw [if_pos r0, bnd_ret, g, r0]; simp
          · rw [if_neg r0, bnd_ret]
            show forL body ys _ = _
            rw [div_loop hb k ys (a % b) (b % (a % b)) (some y)]
            · have g2 : Nat.gcd b (a % b) = Nat.gcd (a % b) (b % (a % b)) := by rw [Nat.gcd_comm b, Nat.gcd_rec, Nat.gcd_comm]
              rw [g, g2]
            · have h1 : a % b < b := Nat.mod_lt _ (by omega)
              have h2 : b % (a % b) < a % b := Nat.mod_lt _ (by omega)
              have h3 : b % (a % b) + a % b ≤ b := by
                have := Nat.div_add_mod b (a % b)
                have q : 1 ≤ b / (a % b) := Nat.div_pos (by omega) (by omega)
                have := Nat.mul_le_mul_left (a % b) q
                omega
              have : 2 ^ (k + 1) = 2 ^ k * 2 := Nat.pow_succ ..
              omega
            · simp at hl; omega
theorem L.divisor {a b : Int} (hb : b.natAbs < 2 ^ 49999) : L.f_u_law_divisor.m [.int a, .int b] = ret (.int (Int.gcd a b)) := by
  simp [L.f_u_law_divisor, L.b_u_law_divisor, run, bi_absN, -bi_abs, rngOk_le]
  rw [div_loop _ 49999 _ _ _ _ hb (by rw [rngD_len]; decide)]
  · rfl
  · intro x a b o
    by_cases h : b = 0
    · simp [h]
    · have : ¬ ((b : Int) = 0) := by omega
      simp [h, this]
      rw [Int.fmod_eq_emod_of_nonneg _ (by omega)]
/-- a text of letters -/
def Gd (x : Str) : Prop := ∀ c ∈ x.cps.toList, c < 0x110000
theorem gd_of (s : String) : Gd (Str.ofString s) := by
  rw [Str.ofString_eq_toList]
  intro c hc
  simp only [List.mem_map] at hc
  obtain ⟨d, _, rfl⟩ := hc
  have := d.valid
  unfold UInt32.isValidChar Nat.isValidChar at this
  show d.val.toNat < _
  omega
theorem Gd.app {x y : Str} (a : Gd x) (b : Gd y) : Gd (x ++ y) := by
  intro c hc
  have : (x ++ y).cps.toList = x.cps.toList ++ y.cps.toList := by
    show (x.cps ++ y.cps).toList = _
    simp
  rw [this, List.mem_append] at hc
  rcases hc with h | h
  · exact a c h
  · exact b c h
theorem gd_join {sep : Str} (hs : Gd sep) : ∀ {ts : List Str}, (∀ t ∈ ts, Gd t) → Gd (Str.join sep ts)
  | [], _ => fun c hc => by
    have : c ∈ ([] : List Nat) := hc
    cases this
  | [x], h => h x (by simp)
  | x :: y :: r, h => by
    show Gd (x ++ sep ++ Str.join sep (y :: r))
    exact ((h x (by simp)).app hs).app (gd_join hs fun t ht => h t (List.mem_cons_of_mem _ ht))
theorem gd_from : ∀ (ts : List Str) (k : Nat) (acc : Str), Gd acc → (∀ t ∈ ts, Gd t) → Gd (textFrom k acc ts)
  | [], _, _, a, _ => a
  | t :: r, k, acc, a, h => by
    show Gd (textFrom (k + 1) (acc ++ (if k > 0 then ", " else "" : String) ++ t) r)
    refine gd_from r (k + 1) _ ((a.app ?_).app (h t (by simp))) fun u hu => h u (List.mem_cons_of_mem _ hu)
    split <;> exact gd_of _
mutual
theorem gd_shown : ∀ {d : D}, okd d = true → Gd d.shown
  | .none, _ => gd_of "None"
  | .bool true, _ => gd_of "True"
  | .bool false, _ => gd_of "False"
  | .int i, _ => gd_of _
  | .str _, h => by simp [okd] at h
  | .list xs, h => (gd_from _ 0 _ (gd_of "[") (gd_showns (xs := xs) (by simpa [okd] using h))).app (gd_of "]")
  | .tuple xs, h => by
    have z := gd_showns (xs := xs) (by simpa [okd] using h)
    show Gd (tupleText _)
    unfold tupleText
    refine ((gd_of "(").app (gd_join (gd_of ", ") z)).app ?_
    split <;> exact gd_of _
  | .dict _, h => by simp [okd] at h
theorem gd_showns : ∀ {xs : List D}, okds xs = true → ∀ t ∈ PyData.shownAll xs, Gd t
  | [], _, t, ht => by cases ht
  | x :: xs, h, t, ht => by
    have h' : okd x = true ∧ okds xs = true := by simpa [okds] using h
    rcases List.mem_cons.mp ht with z | z
    · rw [z]; exact gd_shown h'.1
    · exact gd_showns h'.2 t z
end
theorem shaped_str {x : Str} (h : Gd x) : SeqAt.shaped (.str x) = true := by
  show (PyData.strOk x && decide (0 ≤ 64)) = true
  simp only [Nat.zero_le, decide_true, Bool.and_true]
  unfold PyData.strOk
  rw [Array.all_eq_true']
  intro c hc
  exact decide_eq_true (h c (by simpa using hc))
theorem cmp_eqS {x y : Str} (hx : Gd x) (hy : Gd y) : cmpD .eq (.str x) (.str y) = some (decide (x = y)) := by
  show (if SeqAt.shaped (.str x) && SeqAt.shaped (.str y) then some (PyData.eqv (.str x) (.str y)) else none) = _
  rw [shaped_str hx, shaped_str hy]
  by_cases e : x = y
  · subst e; simp [PyData.eqv]
  · simp [PyData.eqv, e]
/-- what is small enough to be shown -/
structure Okd (d : D) : Prop where
  ok : okd d = true
  dp : d.depth ≤ 64
  bk : d.bulk ≤ 27000
theorem L.like {d : D} (h : Okd d) : L.f_u_law_like.m [d, d] = ret (.bool true) := by
  have g := gd_shown h.ok
  simp [L.f_u_law_like, L.b_u_law_like, run, reprOk_of h.ok h.dp h.bk, cmp_eqS g g]
theorem args_d : L.f_u_law_divisor.ps.length = 2 := rfl
theorem L.share {a b : Int} (hb : 0 < b) (h : b.natAbs < 2 ^ 49999) (hd : Bd 1000 b) : L.f_u_law_share.m [.int a, .int b] = ret (.tuple [.int (a / Int.gcd a b), .int (b / Int.gcd a b)]) := by
  have g0 : Int.gcd a b ≠ 0 := by
    intro z
    have := Int.gcd_eq_zero_iff.mp z
    omega
  have gl : (Int.gcd a b : Int) ≤ b := Int.le_of_dvd hb (Int.gcd_dvd_right ..)
  have dv : ∀ x, divOk x (Int.gcd a b) = true := fun x => divOk_bd (n := 1000) (by
    unfold Bd at *
    omega)
  simp [L.f_u_law_share, L.b_u_law_share, run, args_d, L.divisor h, hb, g0, dv, lenOk_le, Int.fdiv_eq_ediv_of_nonneg]
end Ev

end
section
set_option maxHeartbeats 4000000
/-! # EvN: lists, loops that search -/
namespace Ev
open PySem
/-- the i-th of some integers -/
def nth (P : List Int) (i : Nat) : Int := P.getD i 0
theorem nth_get {P : List Int} {i : Nat} (h : i < P.length) : P[i]? = some (nth P i) := by
  unfold nth
  rw [List.getD_eq_getElem?_getD, List.getElem?_eq_getElem h]
  rfl
theorem nth_map {α : Type} {f : α → Int} {xs : List α} {i : Nat} {x : α} (h : xs[i]? = some x) : nth (xs.map f) i = f x := by
  unfold nth
  rw [List.getD_eq_getElem?_getD, List.getElem?_map, h]
  rfl
theorem cutA_drop {α : Type} (xs : List α) (k : Nat) : cutA xs (some (k : Int)) none = xs.drop k := by
  unfold cutA
  rw [HT.sIx_nat, HT.sIx_none]
  by_cases h : k ≤ xs.length
  · rw [Nat.min_eq_left h]
    exact List.take_of_length_le (by rw [List.length_drop]; omega)
  · rw [Nat.min_eq_right (by omega), List.drop_eq_nil_of_le (by omega), List.drop_eq_nil_of_le (by omega)]; simp
theorem cutA_take {α : Type} (xs : List α) (k : Nat) : cutA xs none (some (k : Int)) = xs.take k := by
  unfold cutA
  rw [HT.sIx_nat, HT.sIx_none, List.drop_zero, Nat.sub_zero]
  by_cases h : k ≤ xs.length
  · rw [Nat.min_eq_left h]
  · rw [Nat.min_eq_right (by omega), List.take_of_length_le (by omega), List.take_of_length_le (by omega)]
theorem cutA_mid {α : Type} (xs : List α) (i k : Nat) : cutA xs (some (i : Int)) (some ((i + k : Nat) : Int)) = (xs.drop i).take k := by
  unfold cutA
  rw [HT.sIx_nat, HT.sIx_nat]
  by_cases h : i ≤ xs.length
  · rw [Nat.min_eq_left h]
    by_cases h2 : i + k ≤ xs.length
    · rw [Nat.min_eq_left h2, Nat.add_sub_cancel_left]
    · rw [Nat.min_eq_right (by omega), List.take_of_length_le (by rw [List.length_drop]; omega), List.take_of_length_le (by rw [List.length_drop]; omega)]
  · rw [Nat.min_eq_right (show xs.length ≤ i by omega), List.drop_eq_nil_of_le (Nat.le_refl _), List.drop_eq_nil_of_le (show xs.length ≤ i by omega)]; simp
theorem zipD_map {α β : Type} (u : α → D) (v : β → D) : ∀ (xs : List α) (ys : List β), zipD (xs.map u) (ys.map v) = (xs.zip ys).map fun p => .tuple [u p.1, v p.2]
  | [], _ => by simp [zipD]
  | _ :: _, [] => by simp [zipD]
  | x :: xs, y :: ys => by simp [zipD, zipD_map u v xs ys]
theorem enumD_map {α : Type} (u : α → D) : ∀ (xs : List α) (n : Nat), enumD n (xs.map u) = (xs.zipIdx n).map fun p => .tuple [.int (p.2 : Nat), u p.1]
  | [], _ => rfl
  | x :: xs, n => by simp [enumD, enumD_map u xs (n + 1)]
theorem sumD_map (xs : List Int) : sumD (xs.map PyData.int) = some (.int xs.sum) := by
  unfold sumD
  rw [intsOf_map]; rfl
theorem maxD_map (x : Int) (xs : List Int) : maxD ((x :: xs).map PyData.int) = some (.int (maxI x xs)) := by
  unfold maxD
  rw [intsOf_map]
theorem minD_map (x : Int) (xs : List Int) : minD ((x :: xs).map PyData.int) = some (.int (minI x xs)) := by
  unfold minD
  rw [intsOf_map]
theorem maxI_spec : ∀ (xs : List Int) (x : Int), maxI x xs ∈ x :: xs ∧ ∀ y ∈ x :: xs, y ≤ maxI x xs
  | [], x => by simp [maxI]
  | z :: xs, x => by
    obtain ⟨h1, h2⟩ := maxI_spec xs (if x < z then z else x)
    have e : maxI x (z :: xs) = maxI (if x < z then z else x) xs := rfl
    rw [e]
    have top := h2 _ List.mem_cons_self
    clear e
    generalize maxI (if x < z then z else x) xs = m at h1 h2 top ⊢
    refine ⟨?_, fun y hy => ?_⟩
    · rcases List.mem_cons.mp h1 with q | q
      · rw [q]; split <;> simp
      · simp [q]
    · rcases List.mem_cons.mp hy with q | q
      · rw [q]; split at top <;> omega
      · rcases List.mem_cons.mp q with q | q
        · rw [q]; split at top <;> omega
        · exact h2 y (List.mem_cons_of_mem _ q)
theorem minI_spec : ∀ (xs : List Int) (x : Int), minI x xs ∈ x :: xs ∧ ∀ y ∈ x :: xs, minI x xs ≤ y
  | [], x => by simp [minI]
  | z :: xs, x => by
    obtain ⟨h1, h2⟩ := minI_spec xs (if z < x then z else x)
    have e : minI x (z :: xs) = minI (if z < x then z else x) xs := rfl
    rw [e]
    have top := h2 _ List.mem_cons_self
    clear e
    generalize minI (if z < x then z else x) xs = m at h1 h2 top ⊢
    refine ⟨?_, fun y hy => ?_⟩
    · rcases List.mem_cons.mp h1 with q | q
      · rw [q]; split <;> simp
      · simp [q]
    · rcases List.mem_cons.mp hy with q | q
      · rw [q]; split at top <;> omega
      · rcases List.mem_cons.mp q with q | q
        · rw [q]; split at top <;> omega
        · exact h2 y (List.mem_cons_of_mem _ q)
theorem findSome_map {γ α β : Type} (f : γ → Option α) (g : α → β) : ∀ xs : List γ, xs.findSome? (fun x => (f x).map g) = (xs.findSome? f).map g
  | [] => rfl
  | x :: xs => by
    rw [List.findSome?_cons, List.findSome?_cons]
    cases f x with
    | none => exact findSome_map f g xs
    | some a => rfl
/-- a loop that searches: it returns at the first x with an answer -/
theorem forL_find {γ : Type} {b : D → Env → M Fl} (I : Env → Prop) (u : γ → D) (r : γ → Option D) : ∀ (xs : List γ) (env : Env), I env →
    (∀ x ∈ xs, ∀ env, I env → (∀ d, r x = some d → b (u x) env = ret (.rt d)) ∧ (r x = none → ∃ env', b (u x) env = ret (.nx env') ∧ I env')) →
    (∃ d, xs.findSome? r = some d ∧ forL b (xs.map u) env = ret (.rt d)) ∨ (xs.findSome? r = none ∧ ∃ env', I env' ∧ forL b (xs.map u) env = ret (.nx env'))
  | [], env, h, _ => .inr ⟨rfl, env, h, rfl⟩
  | x :: xs, env, h, k => by
    obtain ⟨k1, k2⟩ := k x List.mem_cons_self env h
    rw [List.map_cons]
    unfold forL
    cases e : r x with
    | some d =>
      refine .inl ⟨d, by simp [List.findSome?_cons, e], ?_⟩
      rw [k1 d e, bnd_ret]
    | none =>
      obtain ⟨env', e1, h'⟩ := k2 e
      rw [e1, bnd_ret]
      have z := forL_find I u r xs env' h' fun y hy => k y (List.mem_cons_of_mem _ hy)
      simpa [List.findSome?_cons, e] using z
/-- a loop that goes on to its end -/
theorem forL_all {γ : Type} {b : D → Env → M Fl} (I : Env → Prop) (u : γ → D) (xs : List γ) (env : Env) (h : I env) (k : ∀ x ∈ xs, ∀ env, I env → ∃ env', b (u x) env = ret (.nx env') ∧ I env') : ∃ env', I env' ∧ forL b (xs.map u) env = ret (.nx env') := by
  rcases forL_find I u (fun _ => none) xs env h fun x hx env hi => ⟨fun d e => (by cases e), fun _ => k x hx env hi⟩ with ⟨d, e, _⟩ | ⟨_, z⟩
  · have : ∀ l : List γ, l.findSome? (fun _ => (none : Option D)) = none := fun l => by simp
    rw [this] at e; cases e
  · exact z
theorem rng_map (a b : Int) : rngD a b = ((List.range (b - a).toNat).map fun i : Nat => (.int (a + (i : Int)) : D)) := rfl
theorem okds_ints : ∀ {xs : List Int}, (∀ x ∈ xs, Bd 500 x) → okds (xs.map PyData.int) = true
  | [], _ => rfl
  | x :: xs, h => by
    have h1 : x.natAbs < 10 ^ 500 := h x List.mem_cons_self
    have h2 := okds_ints fun y hy => h y (List.mem_cons_of_mem x hy)
    show (decide (x.natAbs < 10 ^ 500) && okds (xs.map PyData.int)) = true
    rw [h2, decide_eq_true h1]; rfl
theorem bulk_ints : ∀ {xs : List Int}, PyData.bulkAll (xs.map PyData.int) = xs.length
  | [] => rfl
  | x :: xs => by
    show 0 + 1 + PyData.bulkAll (xs.map PyData.int) = xs.length + 1
    rw [bulk_ints]; omega
theorem depth_ints : ∀ {xs : List Int}, PyData.depthAll (xs.map PyData.int) = 0
  | [] => rfl
  | x :: xs => by
    show max 0 (PyData.depthAll (xs.map PyData.int)) = 0
    rw [depth_ints]; rfl
end Ev

end
section
set_option maxHeartbeats 4000000
/-! # EvF: fractions -/
namespace Ev
open PySem
namespace F
def b_made_in : Ss := (.cons (.asg (.n 2) (.ife (.cmp .gt (.v 1) (.k (.int 0))) (.bi .gcd (.cons (.v 0) (.cons (.v 1) .nil))) (.neg (.bi .gcd (.cons (.v 0) (.cons (.v 1) .nil)))))) (.cons (.ret (.tup (.cons (.bin .fdiv (.v 0) (.v 2)) (.cons (.bin .fdiv (.v 1) (.v 2)) .nil)))) .nil))
def c_made_in : List (Str × D) := []
def f_made_in : Fn := ⟨"made_in", ["above", "below"], [], run ⟨[], c_made_in⟩ 1000000 3 b_made_in⟩
@[simp] theorem p_made_in : f_made_in.ps.length = 2 := (rfl)
def b_plus_in : Ss := (.cons (.ret (.call 0 (.cons (.bin .add (.bin .mul (.ix (.v 0) (.k (.int 0))) (.ix (.v 1) (.k (.int 1)))) (.bin .mul (.ix (.v 1) (.k (.int 0))) (.ix (.v 0) (.k (.int 1))))) (.cons (.bin .mul (.ix (.v 0) (.k (.int 1))) (.ix (.v 1) (.k (.int 1)))) .nil)) .nil)) .nil)
def c_plus_in : List (Str × D) := []
def f_plus_in : Fn := ⟨"plus_in", ["one", "other"], [], run ⟨[f_made_in], c_plus_in⟩ 1000000 2 b_plus_in⟩
@[simp] theorem p_plus_in : f_plus_in.ps.length = 2 := (rfl)
def b_minus_in : Ss := (.cons (.ret (.call 0 (.cons (.bin .sub (.bin .mul (.ix (.v 0) (.k (.int 0))) (.ix (.v 1) (.k (.int 1)))) (.bin .mul (.ix (.v 1) (.k (.int 0))) (.ix (.v 0) (.k (.int 1))))) (.cons (.bin .mul (.ix (.v 0) (.k (.int 1))) (.ix (.v 1) (.k (.int 1)))) .nil)) .nil)) .nil)
def c_minus_in : List (Str × D) := []
def f_minus_in : Fn := ⟨"minus_in", ["one", "other"], [], run ⟨[f_made_in], c_minus_in⟩ 1000000 2 b_minus_in⟩
@[simp] theorem p_minus_in : f_minus_in.ps.length = 2 := (rfl)
def b_times_in : Ss := (.cons (.ret (.call 0 (.cons (.bin .mul (.ix (.v 0) (.k (.int 0))) (.ix (.v 1) (.k (.int 0)))) (.cons (.bin .mul (.ix (.v 0) (.k (.int 1))) (.ix (.v 1) (.k (.int 1)))) .nil)) .nil)) .nil)
def c_times_in : List (Str × D) := []
def f_times_in : Fn := ⟨"times_in", ["one", "other"], [], run ⟨[f_made_in], c_times_in⟩ 1000000 2 b_times_in⟩
@[simp] theorem p_times_in : f_times_in.ps.length = 2 := (rfl)
def b_over_in : Ss := (.cons (.ret (.call 0 (.cons (.bin .mul (.ix (.v 0) (.k (.int 0))) (.ix (.v 1) (.k (.int 1)))) (.cons (.bin .mul (.ix (.v 0) (.k (.int 1))) (.ix (.v 1) (.k (.int 0)))) .nil)) .nil)) .nil)
def c_over_in : List (Str × D) := []
def f_over_in : Fn := ⟨"over_in", ["one", "other"], [], run ⟨[f_made_in], c_over_in⟩ 1000000 2 b_over_in⟩
@[simp] theorem p_over_in : f_over_in.ps.length = 2 := (rfl)
def b_less_in : Ss := (.cons (.ret (.cmp .lt (.bin .mul (.ix (.v 0) (.k (.int 0))) (.ix (.v 1) (.k (.int 1)))) (.bin .mul (.ix (.v 1) (.k (.int 0))) (.ix (.v 0) (.k (.int 1)))))) .nil)
def c_less_in : List (Str × D) := []
def f_less_in : Fn := ⟨"less_in", ["one", "other"], [], run ⟨[], c_less_in⟩ 1000000 2 b_less_in⟩
@[simp] theorem p_less_in : f_less_in.ps.length = 2 := (rfl)
def b_u_law_plus : Ss := (.cons (.ret (.call 0 (.cons (.bin .add (.bin .mul (.ix (.v 0) (.k (.int 0))) (.ix (.v 1) (.k (.int 1)))) (.bin .mul (.ix (.v 1) (.k (.int 0))) (.ix (.v 0) (.k (.int 1))))) (.cons (.bin .mul (.ix (.v 0) (.k (.int 1))) (.ix (.v 1) (.k (.int 1)))) .nil)) .nil)) .nil)
def c_u_law_plus : List (Str × D) := []
def f_u_law_plus : Fn := ⟨"_law_plus", ["one", "two"], [], run ⟨[L.f_u_law_share], c_u_law_plus⟩ 1000000 2 b_u_law_plus⟩
@[simp] theorem p_u_law_plus : f_u_law_plus.ps.length = 2 := (rfl)
def b_u_law_minus : Ss := (.cons (.ret (.call 0 (.cons (.bin .sub (.bin .mul (.ix (.v 0) (.k (.int 0))) (.ix (.v 1) (.k (.int 1)))) (.bin .mul (.ix (.v 1) (.k (.int 0))) (.ix (.v 0) (.k (.int 1))))) (.cons (.bin .mul (.ix (.v 0) (.k (.int 1))) (.ix (.v 1) (.k (.int 1)))) .nil)) .nil)) .nil)
def c_u_law_minus : List (Str × D) := []
def f_u_law_minus : Fn := ⟨"_law_minus", ["one", "two"], [], run ⟨[L.f_u_law_share], c_u_law_minus⟩ 1000000 2 b_u_law_minus⟩
@[simp] theorem p_u_law_minus : f_u_law_minus.ps.length = 2 := (rfl)
def b_u_law_times : Ss := (.cons (.ret (.call 0 (.cons (.bin .mul (.ix (.v 0) (.k (.int 0))) (.ix (.v 1) (.k (.int 0)))) (.cons (.bin .mul (.ix (.v 0) (.k (.int 1))) (.ix (.v 1) (.k (.int 1)))) .nil)) .nil)) .nil)
def c_u_law_times : List (Str × D) := []
def f_u_law_times : Fn := ⟨"_law_times", ["one", "two"], [], run ⟨[L.f_u_law_share], c_u_law_times⟩ 1000000 2 b_u_law_times⟩
@[simp] theorem p_u_law_times : f_u_law_times.ps.length = 2 := (rfl)
def b_u_law_over : Ss := (.cons (.ret (.call 0 (.cons (.bin .mul (.ix (.v 0) (.k (.int 0))) (.ix (.v 1) (.k (.int 1)))) (.cons (.bin .mul (.ix (.v 0) (.k (.int 1))) (.ix (.v 1) (.k (.int 0)))) .nil)) .nil)) .nil)
def c_u_law_over : List (Str × D) := []
def f_u_law_over : Fn := ⟨"_law_over", ["one", "two"], [], run ⟨[L.f_u_law_share], c_u_law_over⟩ 1000000 2 b_u_law_over⟩
@[simp] theorem p_u_law_over : f_u_law_over.ps.length = 2 := (rfl)
def b_u_law_below : Ss := (.cons (.ret (.cmp .lt (.bin .mul (.ix (.v 0) (.k (.int 0))) (.ix (.v 1) (.k (.int 1)))) (.bin .mul (.ix (.v 1) (.k (.int 0))) (.ix (.v 0) (.k (.int 1)))))) .nil)
def c_u_law_below : List (Str × D) := []
def f_u_law_below : Fn := ⟨"_law_below", ["one", "two"], [], run ⟨[], c_u_law_below⟩ 1000000 2 b_u_law_below⟩
@[simp] theorem p_u_law_below : f_u_law_below.ps.length = 2 := (rfl)
@[simp] theorem p_share : L.f_u_law_share.ps.length = 2 := (rfl)
end F
theorem okd_int {i : Int} (h : Bd 500 i) : okd (.int i) = true := decide_eq_true h
/-- a fraction's data -/
def fr (q : Rat) : D := .tuple [.int q.num, .int (q.den : Int)]
theorem fr_pos {a b : Int} (hb : 0 < b) : (PyData.tuple [.int (a / Int.gcd a b), .int (b / Int.gcd a b)] : D) = fr (Rat.divInt a b) := by
  unfold fr
  have e1 : (Rat.divInt a b).num = a / Int.gcd a b := by rw [Rat.num_divInt, Int.sign_eq_one_of_pos hb, Int.one_mul, Int.gcd_comm]
  have e2 : ((Rat.divInt a b).den : Int) = b / Int.gcd a b := by
    rw [Rat.den_divInt, if_neg (by omega), Int.gcd_comm]
    push_cast
    rw [Int.natAbs_of_nonneg (Int.le_of_lt hb)]
  rw [e1, e2]
theorem fr_neg {a b : Int} (hb : b < 0) : (PyData.tuple [.int (a.fdiv (-(Int.gcd a b : Int))), .int (b.fdiv (-(Int.gcd a b : Int)))] : D) = fr (Rat.divInt a b) := by
  have g0 : (Int.gcd a b : Int) ≠ 0 := by
    intro z
    have := Int.gcd_eq_zero_iff.mp (by omega : Int.gcd a b = 0)
    omega
  have d1 : (Int.gcd a b : Int) ∣ a := Int.gcd_dvd_left ..
  have d2 : (Int.gcd a b : Int) ∣ b := Int.gcd_dvd_right ..
  unfold fr
  have e1 : (Rat.divInt a b).num = a.fdiv (-(Int.gcd a b : Int)) := by
    rw [Rat.num_divInt, Int.sign_eq_neg_one_of_neg hb, Int.gcd_comm, Int.fdiv_eq_ediv_of_dvd (Int.neg_dvd.mpr d1), Int.ediv_neg, Int.neg_mul, Int.one_mul, Int.neg_ediv_of_dvd d1]
  have e2 : ((Rat.divInt a b).den : Int) = b.fdiv (-(Int.gcd a b : Int)) := by
    rw [Rat.den_divInt, if_neg (by omega), Int.gcd_comm, Int.fdiv_eq_ediv_of_dvd (Int.neg_dvd.mpr d2), Int.ediv_neg, ← Int.neg_ediv_of_dvd d2]
    push_cast
    rw [Int.ofNat_natAbs_of_nonpos (Int.le_of_lt hb)]
  rw [e1, e2]
/-- small enough to be reckoned with -/
structure FB (n : Nat) (q : Rat) : Prop where
  a : Bd n q.num
  b : Bd n (q.den : Int)
theorem FB.mono {n m : Nat} {q : Rat} (h : FB n q) (l : n ≤ m) : FB m q := ⟨h.a.mono l, h.b.mono l⟩
theorem bd_gcd {n : Nat} {a b : Int} (hb : b ≠ 0) (h : Bd n b) : Bd n (Int.gcd a b : Int) := by
  have l : (Int.gcd a b : Int) ≤ b.natAbs := by
    have : Int.gcd a b ∣ b.natAbs := Int.gcd_dvd_natAbs_right ..
    have := Nat.le_of_dvd (by omega) this
    omega
  unfold Bd at *
  omega
theorem F.made {a b : Int} (hb : b ≠ 0) (h : Bd 900 b) : F.f_made_in.m [.int a, .int b] = ret (fr (Rat.divInt a b)) := by
  have g0 : Int.gcd a b ≠ 0 := by
    intro z
    have := Int.gcd_eq_zero_iff.mp z
    omega
  have hg := bd_gcd (a := a) hb h
  have dv : ∀ x, divOk x (Int.gcd a b : Int) = true := fun x => divOk_bd hg
  have dv2 : ∀ x, divOk x (-(Int.gcd a b : Int)) = true := fun x => divOk_bd hg.neg
  have eg : Nat.gcd a.natAbs b.natAbs = Int.gcd a b := rfl
  by_cases c : 0 < b
  · rw [← fr_pos c]
    simp [F.f_made_in, F.b_made_in, run, c, eg, g0, dv, lenOk_le, Int.fdiv_eq_ediv_of_nonneg]
  · rw [← fr_neg (by omega)]
    simp [F.f_made_in, F.b_made_in, run, c, eg, g0, dv2, lenOk_le]
theorem den0 (q : Rat) : (q.den : Int) ≠ 0 := by have := q.den_pos; omega
theorem q_add (p q : Rat) : Rat.divInt (p.num * q.den + q.num * p.den) (p.den * q.den) = p + q := by
  rw [← Rat.divInt_add_divInt _ _ (den0 p) (den0 q), Rat.num_divInt_den, Rat.num_divInt_den]
theorem q_sub (p q : Rat) : Rat.divInt (p.num * q.den - q.num * p.den) (p.den * q.den) = p - q := by
  rw [← Rat.divInt_sub_divInt _ _ (den0 p) (den0 q), Rat.num_divInt_den, Rat.num_divInt_den]
theorem q_mul (p q : Rat) : Rat.divInt (p.num * q.num) (p.den * q.den) = p * q := by
  rw [← Rat.divInt_mul_divInt, Rat.num_divInt_den, Rat.num_divInt_den]
theorem q_div (p q : Rat) : Rat.divInt (p.num * q.den) (p.den * q.num) = p / q := by
  rw [← Rat.divInt_mul_divInt, Rat.num_divInt_den, ← Rat.inv_divInt, Rat.num_divInt_den, Rat.div_def]
theorem num0 {q : Rat} (h : q ≠ 0) : q.num ≠ 0 := fun z => h (by rw [← Rat.num_divInt_den q, z]; simp)
section
variable {n m : Nat} {p q : Rat}
theorem F.plus (hp : FB n p) (hq : FB m q) (l : n + m ≤ 800 := by decide) : F.f_plus_in.m [fr p, fr q] = ret (fr (p + q)) := by
  have m1 := mulOk_bd hp.a hq.b (by omega)
  have m2 := mulOk_bd hq.a hp.b (by omega)
  have m3 := mulOk_bd hp.b hq.b (by omega)
  have mk := F.made (a := p.num * q.den + q.num * p.den) (b := p.den * q.den) (Int.mul_ne_zero (den0 p) (den0 q)) ((hp.b.mul hq.b).mono (by omega))
  rw [q_add] at mk
  simp [F.f_plus_in, F.b_plus_in, run, fr, m1, m2, m3] at mk ⊢
  rw [mk]; rfl
theorem F.minus (hp : FB n p) (hq : FB m q) (l : n + m ≤ 800 := by decide) : F.f_minus_in.m [fr p, fr q] = ret (fr (p - q)) := by
  have m1 := mulOk_bd hp.a hq.b (by omega)
  have m2 := mulOk_bd hq.a hp.b (by omega)
  have m3 := mulOk_bd hp.b hq.b (by omega)
  have mk := F.made (a := p.num * q.den - q.num * p.den) (b := p.den * q.den) (Int.mul_ne_zero (den0 p) (den0 q)) ((hp.b.mul hq.b).mono (by omega))
  rw [q_sub] at mk
  simp [F.f_minus_in, F.b_minus_in, run, fr, m1, m2, m3] at mk ⊢
  rw [mk]; rfl
theorem F.times (hp : FB n p) (hq : FB m q) (l : n + m ≤ 800 := by decide) : F.f_times_in.m [fr p, fr q] = ret (fr (p * q)) := by
  have m1 := mulOk_bd hp.a hq.a (by omega)
  have m3 := mulOk_bd hp.b hq.b (by omega)
  have mk := F.made (a := p.num * q.num) (b := p.den * q.den) (Int.mul_ne_zero (den0 p) (den0 q)) ((hp.b.mul hq.b).mono (by omega))
  rw [q_mul] at mk
  simp [F.f_times_in, F.b_times_in, run, fr, m1, m3] at mk ⊢
  rw [mk]; rfl
theorem F.over (hp : FB n p) (hq : FB m q) (h : q ≠ 0) (l : n + m ≤ 800 := by decide) : F.f_over_in.m [fr p, fr q] = ret (fr (p / q)) := by
  have m1 := mulOk_bd hp.a hq.b (by omega)
  have m3 := mulOk_bd hp.b hq.a (by omega)
  have mk := F.made (a := p.num * q.den) (b := p.den * q.num) (Int.mul_ne_zero (den0 p) (num0 h)) ((hp.b.mul hq.a).mono (by omega))
  rw [q_div] at mk
  simp [F.f_over_in, F.b_over_in, run, fr, m1, m3] at mk ⊢
  rw [mk]; rfl
theorem F.less (hp : FB n p) (hq : FB m q) (l : n + m ≤ 800 := by decide) : F.f_less_in.m [fr p, fr q] = ret (.bool (decide (p < q))) := by
  have m1 := mulOk_bd hp.a hq.b (by omega)
  have m2 := mulOk_bd hq.a hp.b (by omega)
  have e := Rat.lt_iff p q
  simp [F.f_less_in, F.b_less_in, run, fr, m1, m2, e]
end
theorem FB.mk' {n : Nat} {a b : Int} (ha : Bd n a) (hb : Bd n b) (h : b ≠ 0) : FB n (Rat.divInt a b) := by
  have s1 : (b.sign * a).natAbs = a.natAbs := by
    rw [Int.natAbs_mul, Int.natAbs_sign_of_ne_zero h, Nat.one_mul]
  constructor
  · rw [Rat.num_divInt]
    have l := Int.natAbs_ediv_le_natAbs (b.sign * a) (b.gcd a)
    rw [s1] at l
    exact Nat.lt_of_le_of_lt l ha
  · rw [Rat.den_divInt, if_neg h]
    have l := Nat.div_le_self b.natAbs (b.gcd a)
    show ((b.natAbs / b.gcd a : Nat) : Int).natAbs < 10 ^ n
    rw [Int.natAbs_natCast]
    exact Nat.lt_of_le_of_lt l hb
theorem FB.add {n m : Nat} {p q : Rat} (hp : FB n p) (hq : FB m q) : FB (n + m + 1) (p + q) := by
  rw [← q_add]
  have a := (hp.a.mul hq.b).add ((hq.a.mul hp.b).mono (show m + n ≤ n + m by omega))
  exact FB.mk' a ((hp.b.mul hq.b).mono (by omega)) (Int.mul_ne_zero (den0 p) (den0 q))
theorem FB.sub {n m : Nat} {p q : Rat} (hp : FB n p) (hq : FB m q) : FB (n + m + 1) (p - q) := by
  rw [← q_sub]
  have a := (hp.a.mul hq.b).sub ((hq.a.mul hp.b).mono (show m + n ≤ n + m by omega))
  exact FB.mk' a ((hp.b.mul hq.b).mono (by omega)) (Int.mul_ne_zero (den0 p) (den0 q))
theorem FB.mul {n m : Nat} {p q : Rat} (hp : FB n p) (hq : FB m q) : FB (n + m) (p * q) := by
  rw [← q_mul]
  exact FB.mk' (hp.a.mul hq.a) (hp.b.mul hq.b) (Int.mul_ne_zero (den0 p) (den0 q))
theorem FB.div {n m : Nat} {p q : Rat} (hp : FB n p) (hq : FB m q) (h : q ≠ 0) : FB (n + m) (p / q) := by
  rw [← q_div]
  exact FB.mk' (hp.a.mul hq.b) (hp.b.mul hq.a) (Int.mul_ne_zero (den0 p) (num0 h))
/-- the law's own share -/
theorem F.share {a b : Int} (hb : b ≠ 0) (h : Bd 900 b) : L.f_u_law_share.m [.int a, .int b] = ret (fr (Rat.divInt a b)) := by
  have h2 : b.natAbs < 2 ^ 49999 := Nat.lt_of_lt_of_le h (by decide +kernel)
  have g0 : Int.gcd a b ≠ 0 := by
    intro z
    have := Int.gcd_eq_zero_iff.mp z
    omega
  have hg := bd_gcd (a := a) hb h
  have dv : ∀ x, divOk x (Int.gcd a b : Int) = true := fun x => divOk_bd hg
  have dv2 : ∀ x, divOk x (-(Int.gcd a b : Int)) = true := fun x => divOk_bd hg.neg
  by_cases c : 0 < b
  · rw [← fr_pos c]
    simp [L.f_u_law_share, L.b_u_law_share, run, args_d, L.divisor h2, c, g0, dv, lenOk_le, Int.fdiv_eq_ediv_of_nonneg]
  · rw [← fr_neg (by omega)]
    simp [L.f_u_law_share, L.b_u_law_share, run, args_d, L.divisor h2, c, g0, dv2, lenOk_le]
section
variable {n m : Nat} {p q : Rat}
theorem F.lplus (hp : FB n p) (hq : FB m q) (l : n + m ≤ 800 := by decide) : F.f_u_law_plus.m [fr p, fr q] = ret (fr (p + q)) := by
  have m1 := mulOk_bd hp.a hq.b (by omega)
  have m2 := mulOk_bd hq.a hp.b (by omega)
  have m3 := mulOk_bd hp.b hq.b (by omega)
  have mk := F.share (a := p.num * q.den + q.num * p.den) (b := p.den * q.den) (Int.mul_ne_zero (den0 p) (den0 q)) ((hp.b.mul hq.b).mono (by omega))
  rw [q_add] at mk
  simp [F.f_u_law_plus, F.b_u_law_plus, run, fr, m1, m2, m3] at mk ⊢
  rw [mk]; rfl
theorem F.lminus (hp : FB n p) (hq : FB m q) (l : n + m ≤ 800 := by decide) : F.f_u_law_minus.m [fr p, fr q] = ret (fr (p - q)) := by
  have m1 := mulOk_bd hp.a hq.b (by omega)
  have m2 := mulOk_bd hq.a hp.b (by omega)
  have m3 := mulOk_bd hp.b hq.b (by omega)
  have mk := F.share (a := p.num * q.den - q.num * p.den) (b := p.den * q.den) (Int.mul_ne_zero (den0 p) (den0 q)) ((hp.b.mul hq.b).mono (by omega))
  rw [q_sub] at mk
  simp [F.f_u_law_minus, F.b_u_law_minus, run, fr, m1, m2, m3] at mk ⊢
  rw [mk]; rfl
theorem F.ltimes (hp : FB n p) (hq : FB m q) (l : n + m ≤ 800 := by decide) : F.f_u_law_times.m [fr p, fr q] = ret (fr (p * q)) := by
  have m1 := mulOk_bd hp.a hq.a (by omega)
  have m3 := mulOk_bd hp.b hq.b (by omega)
  have mk := F.share (a := p.num * q.num) (b := p.den * q.den) (Int.mul_ne_zero (den0 p) (den0 q)) ((hp.b.mul hq.b).mono (by omega))
  rw [q_mul] at mk
  simp [F.f_u_law_times, F.b_u_law_times, run, fr, m1, m3] at mk ⊢
  rw [mk]; rfl
theorem F.lover (hp : FB n p) (hq : FB m q) (h : q ≠ 0) (l : n + m ≤ 800 := by decide) : F.f_u_law_over.m [fr p, fr q] = ret (fr (p / q)) := by
  have m1 := mulOk_bd hp.a hq.b (by omega)
  have m3 := mulOk_bd hp.b hq.a (by omega)
  have mk := F.share (a := p.num * q.den) (b := p.den * q.num) (Int.mul_ne_zero (den0 p) (num0 h)) ((hp.b.mul hq.a).mono (by omega))
  rw [q_div] at mk
  simp [F.f_u_law_over, F.b_u_law_over, run, fr, m1, m3] at mk ⊢
  rw [mk]; rfl
theorem F.lbelow (hp : FB n p) (hq : FB m q) (l : n + m ≤ 800 := by decide) : F.f_u_law_below.m [fr p, fr q] = ret (.bool (decide (p < q))) := by
  have m1 := mulOk_bd hp.a hq.b (by omega)
  have m2 := mulOk_bd hq.a hp.b (by omega)
  have e := Rat.lt_iff p q
  simp [F.f_u_law_below, F.b_u_law_below, run, fr, m1, m2, e]
end
/-- what is shown of a fraction -/
theorem fr_ok {n : Nat} {q : Rat} (h : FB n q) (l : n ≤ 500 := by decide) : Okd (fr q) := by
  have a := okd_int (h.a.mono l)
  have b := okd_int (h.b.mono l)
  refine ⟨?_, by show 0 + 1 ≤ 64 <;> decide, by show 2 ≤ 27000 <;> decide⟩
  show (okd (.int _) && (okd (.int _) && true)) = true
  rw [a, b]; rfl
@[simp] theorem isNone_fr {q : Rat} : isNone (fr q) = false := (rfl)
@[simp] theorem ix_fr0 {q : Rat} : ixD (fr q) (.int 0) = some (.int q.num) := (rfl)
@[simp] theorem ix_fr1 {q : Rat} : ixD (fr q) (.int 1) = some (.int (q.den : Int)) := (rfl)
end Ev

end
section
set_option maxHeartbeats 4000000
/-! # EvC: the defs that more than one law has (printed by genC.py) -/
namespace Ev.C
open PySem PySem.Spec L2 Ev
def b_height_in : Ss := (.cons (.asg (.t (.cons (.n 1) (.cons (.n 2) (.cons (.n 3) (.cons (.n 4) .nil))))) (.v 0)) (.cons (.ret (.call 0 (.cons (.call 1 (.cons (.call 2 (.cons (.call 1 (.cons (.g 0) (.cons (.v 3) .nil)) .nil) (.cons (.v 1) .nil)) .nil) (.cons (.v 4) .nil)) .nil) (.cons (.v 2) .nil)) .nil)) .nil))
def c_height_in : List (Str × D) := [("ONE", .tuple [.int 1, .int 1])]
def f_height_in : Fn := ⟨"height_in", ["setting"], [], run ⟨[Ev.F.f_over_in, Ev.F.f_minus_in, Ev.F.f_times_in], c_height_in⟩ 1000000 5 b_height_in⟩
@[simp] theorem p_height_in : f_height_in.ps.length = 1 := (rfl)
@[simp] theorem g_height_in_0 : c_height_in[0]? = some (("ONE" : Str), (.tuple [.int 1, .int 1] : D)) := (rfl)
def b_is_from : Ss := (.cons (.ret (.and (.isi .int (.v 0)) (.cons (.not (.isi .bool (.v 0))) (.cons (.chain .le .le (.v 1) (.v 0) (.v 2)) .nil)))) .nil)
def c_is_from : List (Str × D) := []
def f_is_from : Fn := ⟨"is_from", ["value", "low", "high"], [], run ⟨[], c_is_from⟩ 1000000 3 b_is_from⟩
@[simp] theorem p_is_from : f_is_from.ps.length = 3 := (rfl)
def b_is_fraction : Ss := (.cons (.ife (.or (.not (.isi .tuple (.v 0))) (.cons (.cmp .ne (.bi .len (.cons (.v 0) .nil)) (.k (.int 2))) .nil)) (.cons (.ret (.k (.bool false))) .nil) .nil) (.cons (.ret (.and (.call 0 (.cons (.ix (.v 0) (.k (.int 0))) (.cons (.neg (.g 0)) (.cons (.g 0) .nil))) .nil) (.cons (.call 0 (.cons (.ix (.v 0) (.k (.int 1))) (.cons (.k (.int 1)) (.cons (.g 0) .nil))) .nil) (.cons (.cmp .eq (.bi .gcd (.cons (.ix (.v 0) (.k (.int 0))) (.cons (.ix (.v 0) (.k (.int 1))) .nil))) (.k (.int 1))) .nil)))) .nil))
def c_is_fraction : List (Str × D) := [("MOST", .int 1000000000000000000000000000000)]
def f_is_fraction : Fn := ⟨"is_fraction", ["value"], [], run ⟨[Ev.C.f_is_from], c_is_fraction⟩ 1000000 1 b_is_fraction⟩
@[simp] theorem p_is_fraction : f_is_fraction.ps.length = 1 := (rfl)
@[simp] theorem g_is_fraction_0 : c_is_fraction[0]? = some (("MOST" : Str), (.int 1000000000000000000000000000000 : D)) := (rfl)
def b_is_part : Ss := (.cons (.ret (.and (.call 0 (.cons (.v 0) .nil) .nil) (.cons (.call 1 (.cons (.g 0) (.cons (.v 0) .nil)) .nil) (.cons (.call 1 (.cons (.v 0) (.cons (.g 1) .nil)) .nil) (.cons (.cmp .le (.ix (.v 0) (.k (.int 1))) (.g 2)) .nil))))) .nil)
def c_is_part : List (Str × D) := [("NONE", .tuple [.int 0, .int 1]), ("ONE", .tuple [.int 1, .int 1]), ("MOST_PART", .int 1000)]
def f_is_part : Fn := ⟨"is_part", ["value"], [], run ⟨[Ev.C.f_is_fraction, Ev.F.f_less_in], c_is_part⟩ 1000000 1 b_is_part⟩
@[simp] theorem p_is_part : f_is_part.ps.length = 1 := (rfl)
@[simp] theorem g_is_part_0 : c_is_part[0]? = some (("NONE" : Str), (.tuple [.int 0, .int 1] : D)) := (rfl)
@[simp] theorem g_is_part_1 : c_is_part[1]? = some (("ONE" : Str), (.tuple [.int 1, .int 1] : D)) := (rfl)
@[simp] theorem g_is_part_2 : c_is_part[2]? = some (("MOST_PART" : Str), (.int 1000 : D)) := (rfl)
def b_wrong_place : Ss := (.cons (.asg (.t (.cons (.n 1) (.cons (.n 2) (.cons (.n 3) (.cons (.n 4) .nil))))) (.v 0)) (.cons (.ife (.not (.call 0 (.cons (.v 1) .nil) .nil)) (.cons (.ret (.k (.int 0))) .nil) .nil) (.cons (.ife (.or (.not (.call 0 (.cons (.v 2) .nil) .nil)) (.cons (.not (.call 2 (.cons (.g 0) (.cons (.v 2) .nil)) .nil)) .nil)) (.cons (.ret (.k (.int 1))) .nil) .nil) (.cons (.ife (.not (.call 1 (.cons (.v 3) .nil) .nil)) (.cons (.ret (.k (.int 2))) .nil) .nil) (.cons (.ret (.ife (.call 0 (.cons (.v 4) .nil) .nil) (.k .none) (.k (.int 3)))) .nil)))))
def c_wrong_place : List (Str × D) := [("NONE", .tuple [.int 0, .int 1])]
def f_wrong_place : Fn := ⟨"wrong_place", ["value"], [], run ⟨[Ev.C.f_is_fraction, Ev.C.f_is_part, Ev.F.f_less_in], c_wrong_place⟩ 1000000 5 b_wrong_place⟩
@[simp] theorem p_wrong_place : f_wrong_place.ps.length = 1 := (rfl)
@[simp] theorem g_wrong_place_0 : c_wrong_place[0]? = some (("NONE" : Str), (.tuple [.int 0, .int 1] : D)) := (rfl)
def b_cut_in : Ss := (.cons (.ret (.call 0 (.cons (.call 1 (.cons (.ix (.v 0) (.k (.int 2))) (.cons (.v 1) .nil)) .nil) (.cons (.ix (.v 0) (.k (.int 3))) .nil)) .nil)) .nil)
def c_cut_in : List (Str × D) := []
def f_cut_in : Fn := ⟨"cut_in", ["setting", "level"], [], run ⟨[Ev.F.f_plus_in, Ev.F.f_times_in], c_cut_in⟩ 1000000 2 b_cut_in⟩
@[simp] theorem p_cut_in : f_cut_in.ps.length = 2 := (rfl)
def b_is_level_kept : Ss := (.cons (.ret (.not (.call 0 (.cons (.ix (.v 0) (.k (.int 0))) (.cons (.call 1 (.cons (.v 0) (.cons (.call 2 (.cons (.ix (.v 0) (.k (.int 0))) (.cons (.ix (.v 0) (.k (.int 1))) .nil)) .nil) .nil)) .nil) .nil)) .nil))) .nil)
def c_is_level_kept : List (Str × D) := []
def f_is_level_kept : Fn := ⟨"is_level_kept", ["setting"], [], run ⟨[Ev.F.f_less_in, Ev.C.f_cut_in, Ev.F.f_plus_in], c_is_level_kept⟩ 1000000 1 b_is_level_kept⟩
@[simp] theorem p_is_level_kept : f_is_level_kept.ps.length = 1 := (rfl)
def b_check_setting : Ss := (.cons (.ife (.or (.not (.isi .tuple (.v 0))) (.cons (.cmp .ne (.bi .len (.cons (.v 0) .nil)) (.k (.int 4))) .nil)) (.cons (.raise) .nil) .nil) (.cons (.asg (.n 1) (.call 0 (.cons (.v 0) .nil) .nil)) (.cons (.ife (.cmp .isnot (.v 1) (.k .none)) (.cons (.raise) .nil) .nil) (.cons (.ife (.not (.call 1 (.cons (.v 0) .nil) .nil)) (.cons (.raise) .nil) .nil) (.cons (.ret (.v 0)) .nil)))))
def c_check_setting : List (Str × D) := []
def f_check_setting : Fn := ⟨"check_setting", ["value"], [], run ⟨[Ev.C.f_wrong_place, Ev.C.f_is_level_kept], c_check_setting⟩ 1000000 2 b_check_setting⟩
@[simp] theorem p_check_setting : f_check_setting.ps.length = 1 := (rfl)
def b_height_of : Ss := (.cons (.ret (.call 0 (.cons (.call 1 (.cons (.v 0) .nil) .nil) .nil) .nil)) .nil)
def c_height_of : List (Str × D) := []
def f_height_of : Fn := ⟨"height_of", ["setting"], [(0, [0])], run ⟨[Ev.C.f_height_in, Ev.C.f_check_setting], c_height_of⟩ 1000000 1 b_height_of⟩
@[simp] theorem p_height_of : f_height_of.ps.length = 1 := (rfl)
def b_check_part : Ss := (.cons (.ife (.not (.call 0 (.cons (.v 0) .nil) .nil)) (.cons (.raise) .nil) .nil) (.cons (.ret (.v 0)) .nil))
def c_check_part : List (Str × D) := []
def f_check_part : Fn := ⟨"check_part", ["value"], [], run ⟨[Ev.C.f_is_part], c_check_part⟩ 1000000 1 b_check_part⟩
@[simp] theorem p_check_part : f_check_part.ps.length = 1 := (rfl)
def b_check_height : Ss := (.cons (.ife (.or (.not (.call 1 (.cons (.v 1) .nil) .nil)) (.cons (.call 0 (.cons (.v 1) (.cons (.v 0) .nil)) .nil) .nil)) (.cons (.raise) .nil) .nil) (.cons (.ret (.v 1)) .nil))
def c_check_height : List (Str × D) := []
def f_check_height : Fn := ⟨"check_height", ["part", "value"], [], run ⟨[Ev.F.f_less_in, Ev.C.f_is_fraction], c_check_height⟩ 1000000 2 b_check_height⟩
@[simp] theorem p_check_height : f_check_height.ps.length = 2 := (rfl)
def b_setting_of : Ss := (.cons (.ex (.call 0 (.cons (.v 0) .nil) .nil)) (.cons (.ex (.call 1 (.cons (.v 0) (.cons (.v 1) .nil)) .nil)) (.cons (.ret (.tup (.cons (.g 0) (.cons (.g 1) (.cons (.v 0) (.cons (.tup (.cons (.neg (.ix (.v 1) (.k (.int 0)))) (.cons (.ix (.v 1) (.k (.int 1))) .nil))) .nil)))))) .nil)))
def c_setting_of : List (Str × D) := [("NONE", .tuple [.int 0, .int 1]), ("ONE", .tuple [.int 1, .int 1])]
def f_setting_of : Fn := ⟨"setting_of", ["part", "height"], [(0, [1, 0])], run ⟨[Ev.C.f_check_part, Ev.C.f_check_height], c_setting_of⟩ 1000000 2 b_setting_of⟩
@[simp] theorem p_setting_of : f_setting_of.ps.length = 2 := (rfl)
@[simp] theorem g_setting_of_0 : c_setting_of[0]? = some (("NONE" : Str), (.tuple [.int 0, .int 1] : D)) := (rfl)
@[simp] theorem g_setting_of_1 : c_setting_of[1]? = some (("ONE" : Str), (.tuple [.int 1, .int 1] : D)) := (rfl)
def b_is_spot : Ss := (.cons (.ret (.and (.call 0 (.cons (.v 0) .nil) .nil) (.cons (.call 1 (.cons (.g 0) (.cons (.v 0) .nil)) .nil) (.cons (.not (.call 1 (.cons (.g 1) (.cons (.v 0) .nil)) .nil)) .nil)))) .nil)
def c_is_spot : List (Str × D) := [("NONE", .tuple [.int 0, .int 1]), ("ONE", .tuple [.int 1, .int 1])]
def f_is_spot : Fn := ⟨"is_spot", ["value"], [], run ⟨[Ev.C.f_is_fraction, Ev.F.f_less_in], c_is_spot⟩ 1000000 1 b_is_spot⟩
@[simp] theorem p_is_spot : f_is_spot.ps.length = 1 := (rfl)
@[simp] theorem g_is_spot_0 : c_is_spot[0]? = some (("NONE" : Str), (.tuple [.int 0, .int 1] : D)) := (rfl)
@[simp] theorem g_is_spot_1 : c_is_spot[1]? = some (("ONE" : Str), (.tuple [.int 1, .int 1] : D)) := (rfl)
def b_check_spot : Ss := (.cons (.ife (.not (.call 0 (.cons (.v 0) .nil) .nil)) (.cons (.raise) .nil) .nil) (.cons (.ret (.v 0)) .nil))
def c_check_spot : List (Str × D) := []
def f_check_spot : Fn := ⟨"check_spot", ["value"], [], run ⟨[Ev.C.f_is_spot], c_check_spot⟩ 1000000 1 b_check_spot⟩
@[simp] theorem p_check_spot : f_check_spot.ps.length = 1 := (rfl)
def b_spot_level : Ss := (.cons (.ex (.call 0 (.cons (.v 0) .nil) .nil)) (.cons (.ret (.call 1 (.cons (.ix (.v 0) (.k (.int 0))) (.cons (.call 2 (.cons (.call 3 (.cons (.v 1) .nil) .nil) (.cons (.ix (.v 0) (.k (.int 1))) .nil)) .nil) .nil)) .nil)) .nil))
def c_spot_level : List (Str × D) := []
def f_spot_level : Fn := ⟨"spot_level", ["setting", "spot"], [(0, [1, 0])], run ⟨[Ev.C.f_check_setting, Ev.F.f_plus_in, Ev.F.f_times_in, Ev.C.f_check_spot], c_spot_level⟩ 1000000 2 b_spot_level⟩
@[simp] theorem p_spot_level : f_spot_level.ps.length = 2 := (rfl)
def b_spot_in : Ss := (.cons (.ret (.call 0 (.cons (.call 1 (.cons (.v 1) (.cons (.ix (.v 0) (.k (.int 0))) .nil)) .nil) (.cons (.ix (.v 0) (.k (.int 1))) .nil)) .nil)) .nil)
def c_spot_in : List (Str × D) := []
def f_spot_in : Fn := ⟨"spot_in", ["setting", "level"], [], run ⟨[Ev.F.f_over_in, Ev.F.f_minus_in], c_spot_in⟩ 1000000 2 b_spot_in⟩
@[simp] theorem p_spot_in : f_spot_in.ps.length = 2 := (rfl)
def b_level_spot : Ss := (.cons (.asg (.n 2) (.ix (.call 1 (.cons (.v 0) .nil) .nil) (.k (.int 0)))) (.cons (.ife (.or (.not (.call 3 (.cons (.v 1) .nil) .nil)) (.cons (.not (.call 2 (.cons (.v 2) (.cons (.v 1) .nil)) .nil)) (.cons (.call 2 (.cons (.call 4 (.cons (.v 2) (.cons (.ix (.v 0) (.k (.int 1))) .nil)) .nil) (.cons (.v 1) .nil)) .nil) .nil))) (.cons (.raise) .nil) .nil) (.cons (.ret (.call 0 (.cons (.v 0) (.cons (.v 1) .nil)) .nil)) .nil)))
def c_level_spot : List (Str × D) := []
def f_level_spot : Fn := ⟨"level_spot", ["setting", "level"], [(0, [1, 0])], run ⟨[Ev.C.f_spot_in, Ev.C.f_check_setting, Ev.F.f_less_in, Ev.C.f_is_fraction, Ev.F.f_plus_in], c_level_spot⟩ 1000000 3 b_level_spot⟩
@[simp] theorem p_level_spot : f_level_spot.ps.length = 2 := (rfl)
def b_u_law_cut : Ss := (.cons (.asg (.n 1) (.bin .add (.k (.int 2)) (.call 1 (.cons (.v 0) (.cons (.k (.int 7)) .nil)) .nil))) (.cons (.ret (.call 0 (.cons (.bin .add (.k (.int 1)) (.call 1 (.cons (.v 0) (.cons (.bin .sub (.v 1) (.k (.int 1))) .nil)) .nil)) (.cons (.v 1) .nil)) .nil)) .nil))
def c_u_law_cut : List (Str × D) := []
def f_u_law_cut : Fn := ⟨"_law_cut", ["draws_so"], [], run ⟨[Ev.L.f_u_law_share, Ev.L.f_u_law_draw], c_u_law_cut⟩ 1000000 2 b_u_law_cut⟩
@[simp] theorem p_u_law_cut : f_u_law_cut.ps.length = 1 := (rfl)
def b_u_law_lot : Ss := (.cons (.asg (.n 2) (.bin .add (.k (.int 1)) (.call 1 (.cons (.v 0) (.cons (.k (.int 12)) .nil)) .nil))) (.cons (.asg (.n 3) (.call 0 (.cons (.call 1 (.cons (.v 0) (.cons (.bin .add (.bin .mul (.k (.int 8)) (.v 2)) (.k (.int 1))) .nil)) .nil) (.cons (.v 2) .nil)) .nil)) (.cons (.ret (.ife (.not (.call 3 (.cons (.v 3) (.cons (.v 1) .nil)) .nil)) (.v 3) (.call 2 (.cons (.v 3) (.cons (.v 1) .nil)) .nil))) .nil)))
def c_u_law_lot : List (Str × D) := []
def f_u_law_lot : Fn := ⟨"_law_lot", ["draws_so", "cut_so"], [], run ⟨[Ev.L.f_u_law_share, Ev.L.f_u_law_draw, Ev.F.f_u_law_plus, Ev.F.f_u_law_below], c_u_law_lot⟩ 1000000 4 b_u_law_lot⟩
@[simp] theorem p_u_law_lot : f_u_law_lot.ps.length = 2 := (rfl)
def b_u_law_rule : Ss := (.cons (.asg (.n 1) (.call 0 (.cons (.v 0) .nil) .nil)) (.cons (.asg (.n 2) (.call 1 (.cons (.bin .sub (.call 5 (.cons (.v 0) (.cons (.k (.int 61)) .nil)) .nil) (.k (.int 20))) (.cons (.bin .add (.k (.int 1)) (.call 5 (.cons (.v 0) (.cons (.k (.int 4)) .nil)) .nil)) .nil)) .nil)) (.cons (.asg (.n 3) (.call 1 (.cons (.bin .add (.k (.int 1)) (.call 5 (.cons (.v 0) (.cons (.k (.int 9)) .nil)) .nil)) (.cons (.bin .add (.k (.int 1)) (.call 5 (.cons (.v 0) (.cons (.k (.int 6)) .nil)) .nil)) .nil)) .nil)) (.cons (.asg (.n 4) (.call 2 (.cons (.v 0) (.cons (.v 1) .nil)) .nil)) (.cons (.asg (.n 5) (.call 3 (.cons (.call 4 (.cons (.tup (.cons (.k (.int 1)) (.cons (.k (.int 1)) .nil))) (.cons (.v 1) .nil)) .nil) (.cons (.v 2) .nil)) .nil)) (.cons (.ret (.tup (.cons (.v 2) (.cons (.v 3) (.cons (.v 1) (.cons (.call 4 (.cons (.v 5) (.cons (.call 3 (.cons (.v 4) (.cons (.v 3) .nil)) .nil) .nil)) .nil) .nil)))))) .nil))))))
def c_u_law_rule : List (Str × D) := []
def f_u_law_rule : Fn := ⟨"_law_rule", ["draws_so"], [], run ⟨[Ev.C.f_u_law_cut, Ev.L.f_u_law_share, Ev.C.f_u_law_lot, Ev.F.f_u_law_times, Ev.F.f_u_law_minus, Ev.L.f_u_law_draw], c_u_law_rule⟩ 1000000 6 b_u_law_rule⟩
@[simp] theorem p_u_law_rule : f_u_law_rule.ps.length = 1 := (rfl)
def b_u_law_lot_of : Ss := (.cons (.asg (.t (.cons (.n 1) (.cons (.n 2) (.cons (.n 3) (.cons (.n 4) .nil))))) (.v 0)) (.cons (.ret (.call 0 (.cons (.call 1 (.cons (.call 2 (.cons (.call 1 (.cons (.tup (.cons (.k (.int 1)) (.cons (.k (.int 1)) .nil))) (.cons (.v 3) .nil)) .nil) (.cons (.v 1) .nil)) .nil) (.cons (.v 4) .nil)) .nil) (.cons (.v 2) .nil)) .nil)) .nil))
def c_u_law_lot_of : List (Str × D) := []
def f_u_law_lot_of : Fn := ⟨"_law_lot_of", ["rule_so"], [], run ⟨[Ev.F.f_u_law_over, Ev.F.f_u_law_minus, Ev.F.f_u_law_times], c_u_law_lot_of⟩ 1000000 5 b_u_law_lot_of⟩
@[simp] theorem p_u_law_lot_of : f_u_law_lot_of.ps.length = 1 := (rfl)
def b_u_law_tick : Ss := (.cons (.asg (.t (.cons (.n 2) (.cons (.n 3) (.cons (.n 4) (.cons (.n 5) .nil))))) (.v 0)) (.cons (.asg (.n 6) (.call 0 (.cons (.v 1) (.cons (.v 3) .nil)) .nil)) (.cons (.ife (.call 1 (.cons (.v 2) (.cons (.v 6) .nil)) .nil) (.cons (.ret (.tup (.cons (.call 0 (.cons (.call 2 (.cons (.v 4) (.cons (.v 6) .nil)) .nil) (.cons (.v 5) .nil)) .nil) (.cons (.v 6) .nil)))) .nil) .nil) (.cons (.ret (.tup (.cons (.v 6) (.cons (.k .none) .nil)))) .nil))))
def c_u_law_tick : List (Str × D) := []
def f_u_law_tick : Fn := ⟨"_law_tick", ["rule_so", "here"], [], run ⟨[Ev.F.f_u_law_plus, Ev.F.f_u_law_below, Ev.F.f_u_law_times], c_u_law_tick⟩ 1000000 7 b_u_law_tick⟩
@[simp] theorem p_u_law_tick : f_u_law_tick.ps.length = 2 := (rfl)
def b_u_law_spot : Ss := (.cons (.asg (.n 1) (.bin .add (.k (.int 1)) (.call 1 (.cons (.v 0) (.cons (.k (.int 30)) .nil)) .nil))) (.cons (.ret (.call 0 (.cons (.bin .add (.k (.int 1)) (.call 1 (.cons (.v 0) (.cons (.v 1) .nil)) .nil)) (.cons (.v 1) .nil)) .nil)) .nil))
def c_u_law_spot : List (Str × D) := []
def f_u_law_spot : Fn := ⟨"_law_spot", ["draws_so"], [], run ⟨[Ev.L.f_u_law_share, Ev.L.f_u_law_draw], c_u_law_spot⟩ 1000000 2 b_u_law_spot⟩
@[simp] theorem p_u_law_spot : f_u_law_spot.ps.length = 1 := (rfl)
def b_need_setting : Ss := (.cons (.ret (.call 0 (.cons (.v 0) .nil) .nil)) .nil)
def c_need_setting : List (Str × D) := []
def f_need_setting : Fn := ⟨"need_setting", ["setting"], [], run ⟨[Ev.C.f_check_setting], c_need_setting⟩ 1000000 1 b_need_setting⟩
@[simp] theorem p_need_setting : f_need_setting.ps.length = 1 := (rfl)
def b_check_fraction : Ss := (.cons (.ife (.not (.call 0 (.cons (.v 0) .nil) .nil)) (.cons (.raise) .nil) .nil) (.cons (.ret (.v 0)) .nil))
def c_check_fraction : List (Str × D) := []
def f_check_fraction : Fn := ⟨"check_fraction", ["value"], [], run ⟨[Ev.C.f_is_fraction], c_check_fraction⟩ 1000000 1 b_check_fraction⟩
@[simp] theorem p_check_fraction : f_check_fraction.ps.length = 1 := (rfl)
def b_moved : Ss := (.cons (.asg (.t (.cons (.n 2) (.cons (.n 3) (.cons (.n 4) (.cons (.n 5) .nil))))) (.call 0 (.cons (.v 0) .nil) .nil)) (.cons (.ex (.call 1 (.cons (.v 1) .nil) .nil)) (.cons (.ret (.tup (.cons (.call 2 (.cons (.v 2) (.cons (.v 1) .nil)) .nil) (.cons (.v 3) (.cons (.v 4) (.cons (.call 2 (.cons (.v 5) (.cons (.call 3 (.cons (.call 4 (.cons (.g 0) (.cons (.v 4) .nil)) .nil) (.cons (.v 1) .nil)) .nil) .nil)) .nil) .nil)))))) .nil)))
def c_moved : List (Str × D) := [("ONE", .tuple [.int 1, .int 1])]
def f_moved : Fn := ⟨"moved", ["setting", "by"], [(0, [1, 0])], run ⟨[Ev.C.f_check_setting, Ev.C.f_check_fraction, Ev.F.f_plus_in, Ev.F.f_times_in, Ev.F.f_minus_in], c_moved⟩ 1000000 6 b_moved⟩
@[simp] theorem p_moved : f_moved.ps.length = 2 := (rfl)
@[simp] theorem g_moved_0 : c_moved[0]? = some (("ONE" : Str), (.tuple [.int 1, .int 1] : D)) := (rfl)
def b_check_above : Ss := (.cons (.ife (.or (.not (.call 0 (.cons (.v 0) .nil) .nil)) (.cons (.not (.call 1 (.cons (.g 0) (.cons (.v 0) .nil)) .nil)) .nil)) (.cons (.raise) .nil) .nil) (.cons (.ret (.v 0)) .nil))
def c_check_above : List (Str × D) := [("NONE", .tuple [.int 0, .int 1])]
def f_check_above : Fn := ⟨"check_above", ["value"], [], run ⟨[Ev.C.f_is_fraction, Ev.F.f_less_in], c_check_above⟩ 1000000 1 b_check_above⟩
@[simp] theorem p_check_above : f_check_above.ps.length = 1 := (rfl)
@[simp] theorem g_check_above_0 : c_check_above[0]? = some (("NONE" : Str), (.tuple [.int 0, .int 1] : D)) := (rfl)
def b_scaled : Ss := (.cons (.asg (.t (.cons (.n 2) (.cons (.n 3) (.cons (.n 4) (.cons (.n 5) .nil))))) (.call 0 (.cons (.v 0) .nil) .nil)) (.cons (.ex (.call 1 (.cons (.v 1) .nil) .nil)) (.cons (.ret (.tup (.cons (.call 2 (.cons (.v 2) (.cons (.v 1) .nil)) .nil) (.cons (.call 2 (.cons (.v 3) (.cons (.v 1) .nil)) .nil) (.cons (.v 4) (.cons (.call 2 (.cons (.v 5) (.cons (.v 1) .nil)) .nil) .nil)))))) .nil)))
def c_scaled : List (Str × D) := []
def f_scaled : Fn := ⟨"scaled", ["setting", "by"], [(0, [1, 0])], run ⟨[Ev.C.f_check_setting, Ev.C.f_check_above, Ev.F.f_times_in], c_scaled⟩ 1000000 6 b_scaled⟩
@[simp] theorem p_scaled : f_scaled.ps.length = 2 := (rfl)
def b_alike : Ss := (.cons (.ex (.call 0 (.cons (.v 0) .nil) .nil)) (.cons (.ex (.call 0 (.cons (.v 1) .nil) .nil)) (.cons (.ret (.and (.cmp .eq (.ix (.v 0) (.k (.int 2))) (.ix (.v 1) (.k (.int 2)))) (.cons (.cmp .eq (.call 1 (.cons (.v 0) .nil) .nil) (.call 1 (.cons (.v 1) .nil) .nil)) .nil))) .nil)))
def c_alike : List (Str × D) := []
def f_alike : Fn := ⟨"alike", ["setting", "other"], [(0, [1, 0])], run ⟨[Ev.C.f_check_setting, Ev.C.f_height_in], c_alike⟩ 1000000 2 b_alike⟩
@[simp] theorem p_alike : f_alike.ps.length = 2 := (rfl)
def b_u_law_first : Ss := (.cons (.par [2, 3] [false, false] (.cons (.ix (.v 1) (.k (.int 0))) (.cons (.ix (.v 1) (.k (.int 1))) .nil))) (.cons (.asg (.n 4) (.call 0 (.cons (.call 1 (.cons (.v 0) (.cons (.k (.int 40)) .nil)) .nil) (.cons (.bin .add (.k (.int 1)) (.call 1 (.cons (.v 0) (.cons (.k (.int 5)) .nil)) .nil)) .nil)) .nil)) (.cons (.ret (.ife (.cmp .eq (.call 1 (.cons (.v 0) (.cons (.k (.int 5)) .nil)) .nil) (.k (.int 0))) (.v 2) (.call 2 (.cons (.v 2) (.cons (.call 3 (.cons (.v 4) (.cons (.v 3) .nil)) .nil) .nil)) .nil))) .nil)))
def c_u_law_first : List (Str × D) := []
def f_u_law_first : Fn := ⟨"_law_first", ["draws_so", "rule_so"], [], run ⟨[Ev.L.f_u_law_share, Ev.L.f_u_law_draw, Ev.F.f_u_law_minus, Ev.F.f_u_law_times], c_u_law_first⟩ 1000000 5 b_u_law_first⟩
@[simp] theorem p_u_law_first : f_u_law_first.ps.length = 2 := (rfl)
def b_u_law_run_1 : Ss := (.cons (.ife (.cmp .gt (.bi .len (.cons (.v 3) .nil)) (.v 2)) (.cons (.brk) .nil) .nil) (.cons (.asg (.t (.cons (.n 1) (.cons (.n 7) .nil))) (.call 0 (.cons (.v 0) (.cons (.v 1) .nil)) .nil)) (.cons (.asg (.n 5) (.bin .add (.v 5) (.k (.int 1)))) (.cons (.ife (.cmp .isnot (.v 7) (.k .none)) (.cons (.app 4 (.call 1 (.cons (.call 2 (.cons (.v 7) (.cons (.ix (.v 0) (.k (.int 0))) .nil)) .nil) (.cons (.ix (.v 0) (.k (.int 1))) .nil)) .nil)) (.cons (.app 3 (.v 5)) (.cons (.asg (.n 5) (.k (.int 0))) .nil))) .nil) .nil))))
def b_u_law_run : Ss := (.cons (.par [3, 4, 5] [true, true, false] (.cons (.lst .nil) (.cons (.lst .nil) (.cons (.k (.int 0)) .nil)))) (.cons (.for_ (.n 6) (.r1 (.k (.int 100000))) b_u_law_run_1) (.cons (.frz 4) (.cons (.ret (.tup (.cons (.ix (.v 3) (.k (.int 0))) (.cons (.sl (.v 3) (.k (.int 1)) (.no)) (.cons (.v 4) .nil))))) .nil))))
def c_u_law_run : List (Str × D) := []
def f_u_law_run : Fn := ⟨"_law_run", ["rule_so", "here", "often"], [], run ⟨[Ev.C.f_u_law_tick, Ev.F.f_u_law_over, Ev.F.f_u_law_minus], c_u_law_run⟩ 1000000 8 b_u_law_run⟩
@[simp] theorem p_u_law_run : f_u_law_run.ps.length = 3 := (rfl)
def b_u_law_up : Ss := (.cons (.ret (.neg (.bin .fdiv (.neg (.ix (.v 0) (.k (.int 0)))) (.ix (.v 0) (.k (.int 1)))))) .nil)
def c_u_law_up : List (Str × D) := []
def f_u_law_up : Fn := ⟨"_law_up", ["one"], [], run ⟨[], c_u_law_up⟩ 1000000 1 b_u_law_up⟩
@[simp] theorem p_u_law_up : f_u_law_up.ps.length = 1 := (rfl)
def b_u_law_next : Ss := (.cons (.asg (.n 3) (.call 0 (.cons (.call 1 (.cons (.v 0) (.cons (.v 2) .nil)) .nil) (.cons (.v 1) .nil)) .nil)) (.cons (.asg (.n 4) (.bin .sub (.k (.int 1)) (.call 2 (.cons (.v 3) .nil) .nil))) (.cons (.ret (.tup (.cons (.v 4) (.cons (.call 3 (.cons (.v 3) (.cons (.tup (.cons (.v 4) (.cons (.k (.int 1)) .nil))) .nil)) .nil) .nil)))) .nil)))
def c_u_law_next : List (Str × D) := []
def f_u_law_next : Fn := ⟨"_law_next", ["cut_so", "lot_so", "here"], [], run ⟨[Ev.F.f_u_law_minus, Ev.F.f_u_law_times, Ev.C.f_u_law_up, Ev.F.f_u_law_plus], c_u_law_next⟩ 1000000 5 b_u_law_next⟩
@[simp] theorem p_u_law_next : f_u_law_next.ps.length = 3 := (rfl)
def b_u_law_spots_1 : Ss := (.cons (.asg (.t (.cons (.n 7) (.cons (.n 2) .nil))) (.call 0 (.cons (.v 0) (.cons (.v 1) (.cons (.v 2) .nil))) .nil)) (.cons (.app 4 (.v 7)) (.cons (.app 5 (.v 2)) .nil)))
def b_u_law_spots : Ss := (.cons (.par [4, 5] [true, true] (.cons (.lst .nil) (.cons (.lst .nil) .nil))) (.cons (.for_ (.n 6) (.r1 (.v 3)) b_u_law_spots_1) (.cons (.frz 4) (.cons (.frz 5) (.cons (.ret (.tup (.cons (.v 4) (.cons (.v 5) .nil)))) .nil)))))
def c_u_law_spots : List (Str × D) := []
def f_u_law_spots : Fn := ⟨"_law_spots", ["cut_so", "lot_so", "here", "often"], [], run ⟨[Ev.C.f_u_law_next], c_u_law_spots⟩ 1000000 8 b_u_law_spots⟩
@[simp] theorem p_u_law_spots : f_u_law_spots.ps.length = 4 := (rfl)
def b_tick_in : Ss := (.cons (.asg (.n 2) (.call 0 (.cons (.v 1) (.cons (.ix (.v 0) (.k (.int 1))) .nil)) .nil)) (.cons (.ret (.ife (.call 1 (.cons (.ix (.v 0) (.k (.int 0))) (.cons (.v 2) .nil)) .nil) (.tup (.cons (.call 2 (.cons (.v 0) (.cons (.v 2) .nil)) .nil) (.cons (.k (.bool true)) .nil))) (.tup (.cons (.v 2) (.cons (.k (.bool false)) .nil))))) .nil))
def c_tick_in : List (Str × D) := []
def f_tick_in : Fn := ⟨"tick_in", ["setting", "level"], [], run ⟨[Ev.F.f_plus_in, Ev.F.f_less_in, Ev.C.f_cut_in], c_tick_in⟩ 1000000 3 b_tick_in⟩
@[simp] theorem p_tick_in : f_tick_in.ps.length = 2 := (rfl)
def b_check_start : Ss := (.cons (.ife (.or (.not (.call 1 (.cons (.v 1) .nil) .nil)) (.cons (.call 0 (.cons (.ix (.v 0) (.k (.int 0))) (.cons (.v 1) .nil)) .nil) .nil)) (.cons (.raise) .nil) .nil) (.cons (.ret (.v 1)) .nil))
def c_check_start : List (Str × D) := []
def f_check_start : Fn := ⟨"check_start", ["setting", "value"], [], run ⟨[Ev.F.f_less_in, Ev.C.f_is_fraction], c_check_start⟩ 1000000 2 b_check_start⟩
@[simp] theorem p_check_start : f_check_start.ps.length = 2 := (rfl)
def b_tick : Ss := (.cons (.ex (.call 0 (.cons (.v 0) .nil) .nil)) (.cons (.ret (.call 1 (.cons (.v 0) (.cons (.call 2 (.cons (.v 0) (.cons (.v 1) .nil)) .nil) .nil)) .nil)) .nil))
def c_tick : List (Str × D) := []
def f_tick : Fn := ⟨"tick", ["setting", "level"], [(0, [1, 0])], run ⟨[Ev.C.f_check_setting, Ev.C.f_tick_in, Ev.C.f_check_start], c_tick⟩ 1000000 2 b_tick⟩
@[simp] theorem p_tick : f_tick.ps.length = 2 := (rfl)
def b_check_run : Ss := (.cons (.ife (.not (.call 0 (.cons (.v 0) (.cons (.k (.int 0)) (.cons (.g 0) .nil))) .nil)) (.cons (.raise) .nil) .nil) (.cons (.ret (.v 0)) .nil))
def c_check_run : List (Str × D) := [("MOST_RUN", .int 1000)]
def f_check_run : Fn := ⟨"check_run", ["value"], [], run ⟨[Ev.C.f_is_from], c_check_run⟩ 1000000 1 b_check_run⟩
@[simp] theorem p_check_run : f_check_run.ps.length = 1 := (rfl)
@[simp] theorem g_check_run_0 : c_check_run[0]? = some (("MOST_RUN" : Str), (.int 1000 : D)) := (rfl)
def b_check_asked : Ss := (.cons (.ex (.call 0 (.cons (.v 0) .nil) .nil)) (.cons (.ex (.call 1 (.cons (.v 0) (.cons (.v 1) .nil)) .nil)) (.cons (.ex (.call 2 (.cons (.v 2) .nil) .nil)) .nil)))
def c_check_asked : List (Str × D) := []
def f_check_asked : Fn := ⟨"check_asked", ["setting", "start", "ticks"], [], run ⟨[Ev.C.f_check_setting, Ev.C.f_check_start, Ev.C.f_check_run], c_check_asked⟩ 1000000 3 b_check_asked⟩
@[simp] theorem p_check_asked : f_check_asked.ps.length = 3 := (rfl)
def b_run_in_1 : Ss := (.cons (.asg (.t (.cons (.n 5) (.cons (.n 7) .nil))) (.call 0 (.cons (.v 0) (.cons (.v 5) .nil)) .nil)) (.cons (.app 3 (.v 5)) (.cons (.ext 4 (.ife (.v 7) (.lst (.cons (.v 6) .nil)) (.lst .nil))) .nil)))
def b_run_in : Ss := (.cons (.par [3, 4, 5] [true, true, false] (.cons (.lst .nil) (.cons (.lst .nil) (.cons (.v 1) .nil)))) (.cons (.for_ (.n 6) (.r2 (.k (.int 1)) (.bin .add (.v 2) (.k (.int 1)))) b_run_in_1) (.cons (.frz 4) (.cons (.frz 3) (.cons (.ret (.tup (.cons (.v 3) (.cons (.v 4) .nil)))) .nil)))))
def c_run_in : List (Str × D) := []
def f_run_in : Fn := ⟨"run_in", ["setting", "start", "ticks"], [], run ⟨[Ev.C.f_tick_in], c_run_in⟩ 1000000 8 b_run_in⟩
@[simp] theorem p_run_in : f_run_in.ps.length = 3 := (rfl)
def b_levels_after : Ss := (.cons (.ex (.call 0 (.cons (.v 0) (.cons (.v 1) (.cons (.v 2) .nil))) .nil)) (.cons (.ret (.bi .tuple (.cons (.ix (.call 1 (.cons (.v 0) (.cons (.v 1) (.cons (.v 2) .nil))) .nil) (.k (.int 0))) .nil))) .nil))
def c_levels_after : List (Str × D) := []
def f_levels_after : Fn := ⟨"levels_after", ["setting", "start", "ticks"], [(0, [2, 1, 0])], run ⟨[Ev.C.f_check_asked, Ev.C.f_run_in], c_levels_after⟩ 1000000 3 b_levels_after⟩
@[simp] theorem p_levels_after : f_levels_after.ps.length = 3 := (rfl)
def b_cuts_plainly : Ss := (.cons (.ex (.call 0 (.cons (.v 0) (.cons (.v 1) (.cons (.v 2) .nil))) .nil)) (.cons (.ret (.bi .tuple (.cons (.ix (.call 1 (.cons (.v 0) (.cons (.v 1) (.cons (.v 2) .nil))) .nil) (.k (.int 1))) .nil))) .nil))
def c_cuts_plainly : List (Str × D) := []
def f_cuts_plainly : Fn := ⟨"cuts_plainly", ["setting", "start", "ticks"], [(0, [2, 1, 0])], run ⟨[Ev.C.f_check_asked, Ev.C.f_run_in], c_cuts_plainly⟩ 1000000 3 b_cuts_plainly⟩
@[simp] theorem p_cuts_plainly : f_cuts_plainly.ps.length = 3 := (rfl)
def b_floor_in : Ss := (.cons (.ret (.bin .fdiv (.ix (.v 0) (.k (.int 0))) (.ix (.v 0) (.k (.int 1))))) .nil)
def c_floor_in : List (Str × D) := []
def f_floor_in : Fn := ⟨"floor_in", ["one"], [], run ⟨[], c_floor_in⟩ 1000000 1 b_floor_in⟩
@[simp] theorem p_floor_in : f_floor_in.ps.length = 1 := (rfl)
def b_first_in : Ss := (.cons (.asg (.n 2) (.bin .add (.call 0 (.cons (.call 2 (.cons (.call 4 (.cons (.ix (.v 0) (.k (.int 0))) (.cons (.v 1) .nil)) .nil) (.cons (.ix (.v 0) (.k (.int 1))) .nil)) .nil) .nil) .nil) (.k (.int 1)))) (.cons (.ret (.tup (.cons (.v 2) (.cons (.call 1 (.cons (.v 0) (.cons (.call 3 (.cons (.v 1) (.cons (.call 5 (.cons (.tup (.cons (.v 2) (.cons (.k (.int 1)) .nil))) (.cons (.ix (.v 0) (.k (.int 1))) .nil)) .nil) .nil)) .nil) .nil)) .nil) .nil)))) .nil))
def c_first_in : List (Str × D) := []
def f_first_in : Fn := ⟨"first_in", ["setting", "start"], [], run ⟨[Ev.C.f_floor_in, Ev.C.f_spot_in, Ev.F.f_over_in, Ev.F.f_plus_in, Ev.F.f_minus_in, Ev.F.f_times_in], c_first_in⟩ 1000000 3 b_first_in⟩
@[simp] theorem p_first_in : f_first_in.ps.length = 2 := (rfl)
def b_first_ticks : Ss := (.cons (.ex (.call 0 (.cons (.v 0) .nil) .nil)) (.cons (.ret (.call 1 (.cons (.v 0) (.cons (.call 2 (.cons (.v 0) (.cons (.v 1) .nil)) .nil) .nil)) .nil)) .nil))
def c_first_ticks : List (Str × D) := []
def f_first_ticks : Fn := ⟨"first_ticks", ["setting", "start"], [(0, [1, 0])], run ⟨[Ev.C.f_check_setting, Ev.C.f_first_in, Ev.C.f_check_start], c_first_ticks⟩ 1000000 2 b_first_ticks⟩
@[simp] theorem p_first_ticks : f_first_ticks.ps.length = 2 := (rfl)
def b_ceil_in : Ss := (.cons (.ret (.neg (.bin .fdiv (.neg (.ix (.v 0) (.k (.int 0)))) (.ix (.v 0) (.k (.int 1)))))) .nil)
def c_ceil_in : List (Str × D) := []
def f_ceil_in : Fn := ⟨"ceil_in", ["one"], [], run ⟨[], c_ceil_in⟩ 1000000 1 b_ceil_in⟩
@[simp] theorem p_ceil_in : f_ceil_in.ps.length = 1 := (rfl)
def b_round_in : Ss := (.cons (.asg (.n 3) (.call 0 (.cons (.call 1 (.cons (.v 0) (.cons (.v 2) .nil)) .nil) (.cons (.v 1) .nil)) .nil)) (.cons (.asg (.n 4) (.bin .sub (.k (.int 1)) (.call 2 (.cons (.v 3) .nil) .nil))) (.cons (.ret (.tup (.cons (.v 4) (.cons (.call 3 (.cons (.v 3) (.cons (.tup (.cons (.v 4) (.cons (.k (.int 1)) .nil))) .nil)) .nil) .nil)))) .nil)))
def c_round_in : List (Str × D) := []
def f_round_in : Fn := ⟨"round_in", ["part", "height", "spot"], [], run ⟨[Ev.F.f_minus_in, Ev.F.f_times_in, Ev.C.f_ceil_in, Ev.F.f_plus_in], c_round_in⟩ 1000000 5 b_round_in⟩
@[simp] theorem p_round_in : f_round_in.ps.length = 3 := (rfl)
def b_u_law_of : Ss := (.cons (.ret (.ix (.v 1) (.call 0 (.cons (.v 0) (.cons (.bi .len (.cons (.v 1) .nil)) .nil)) .nil))) .nil)
def c_u_law_of : List (Str × D) := []
def f_u_law_of : Fn := ⟨"_law_of", ["draws_so", "some"], [], run ⟨[Ev.L.f_u_law_draw], c_u_law_of⟩ 1000000 2 b_u_law_of⟩
@[simp] theorem p_u_law_of : f_u_law_of.ps.length = 2 := (rfl)
def b_check_place : Ss := (.cons (.ex (.call 0 (.cons (.v 0) .nil) .nil)) (.cons (.ex (.call 1 (.cons (.v 0) (.cons (.v 1) .nil)) .nil)) (.cons (.ex (.call 2 (.cons (.v 2) .nil) .nil)) .nil)))
def c_check_place : List (Str × D) := []
def f_check_place : Fn := ⟨"check_place", ["part", "height", "spot"], [], run ⟨[Ev.C.f_check_part, Ev.C.f_check_height, Ev.C.f_check_spot], c_check_place⟩ 1000000 3 b_check_place⟩
@[simp] theorem p_check_place : f_check_place.ps.length = 3 := (rfl)
def b_next_spot : Ss := (.cons (.ex (.call 0 (.cons (.v 0) (.cons (.v 1) (.cons (.v 2) .nil))) .nil)) (.cons (.ret (.call 1 (.cons (.v 0) (.cons (.v 1) (.cons (.v 2) .nil))) .nil)) .nil))
def c_next_spot : List (Str × D) := []
def f_next_spot : Fn := ⟨"next_spot", ["part", "height", "spot"], [(0, [2, 1, 0])], run ⟨[Ev.C.f_check_place, Ev.C.f_round_in], c_next_spot⟩ 1000000 3 b_next_spot⟩
@[simp] theorem p_next_spot : f_next_spot.ps.length = 3 := (rfl)
def b_rounds_in_1 : Ss := (.cons (.asg (.t (.cons (.n 7) (.cons (.n 2) .nil))) (.call 0 (.cons (.v 0) (.cons (.v 1) (.cons (.v 2) .nil))) .nil)) (.cons (.app 4 (.v 7)) (.cons (.app 5 (.v 2)) .nil)))
def b_rounds_in : Ss := (.cons (.par [4, 5] [true, true] (.cons (.lst .nil) (.cons (.lst .nil) .nil))) (.cons (.for_ (.n 6) (.r1 (.v 3)) b_rounds_in_1) (.cons (.frz 4) (.cons (.frz 5) (.cons (.ret (.tup (.cons (.v 4) (.cons (.v 5) .nil)))) .nil)))))
def c_rounds_in : List (Str × D) := []
def f_rounds_in : Fn := ⟨"rounds_in", ["part", "height", "spot", "count"], [], run ⟨[Ev.C.f_round_in], c_rounds_in⟩ 1000000 8 b_rounds_in⟩
@[simp] theorem p_rounds_in : f_rounds_in.ps.length = 4 := (rfl)
def b_check_many : Ss := (.cons (.ife (.not (.call 0 (.cons (.v 0) (.cons (.k (.int 0)) (.cons (.g 0) .nil))) .nil)) (.cons (.raise) .nil) .nil) (.cons (.ret (.v 0)) .nil))
def c_check_many : List (Str × D) := [("MOST_COUNT", .int 1000)]
def f_check_many : Fn := ⟨"check_many", ["value"], [], run ⟨[Ev.C.f_is_from], c_check_many⟩ 1000000 1 b_check_many⟩
@[simp] theorem p_check_many : f_check_many.ps.length = 1 := (rfl)
@[simp] theorem g_check_many_0 : c_check_many[0]? = some (("MOST_COUNT" : Str), (.int 1000 : D)) := (rfl)
def b_counts_after_1 : Ss := (.cons (.app 4 (.bin .add (.ix (.v 4) (.neg (.k (.int 1)))) (.v 5))) .nil)
def b_counts_after : Ss := (.cons (.ex (.call 0 (.cons (.v 0) (.cons (.v 1) (.cons (.v 2) .nil))) .nil)) (.cons (.asgO 4 (.lst (.cons (.k (.int 0)) .nil))) (.cons (.for_ (.n 5) (.e (.ix (.call 1 (.cons (.v 0) (.cons (.v 1) (.cons (.v 2) (.cons (.call 2 (.cons (.v 3) .nil) .nil) .nil)))) .nil) (.k (.int 0)))) b_counts_after_1) (.cons (.ret (.bi .tuple (.cons (.v 4) .nil))) .nil))))
def c_counts_after : List (Str × D) := []
def f_counts_after : Fn := ⟨"counts_after", ["part", "height", "spot", "count"], [(0, [3, 2, 1, 0])], run ⟨[Ev.C.f_check_place, Ev.C.f_rounds_in, Ev.C.f_check_many], c_counts_after⟩ 1000000 6 b_counts_after⟩
@[simp] theorem p_counts_after : f_counts_after.ps.length = 4 := (rfl)
def b_spots_after : Ss := (.cons (.ex (.call 0 (.cons (.v 0) (.cons (.v 1) (.cons (.v 2) .nil))) .nil)) (.cons (.asg (.t (.cons (.n 4) (.cons (.n 5) .nil))) (.call 1 (.cons (.v 0) (.cons (.v 1) (.cons (.v 2) (.cons (.call 2 (.cons (.v 3) .nil) .nil) .nil)))) .nil)) (.cons (.ret (.tup (.cons (.bi .tuple (.cons (.v 4) .nil)) (.cons (.bi .tuple (.cons (.v 5) .nil)) .nil)))) .nil)))
def c_spots_after : List (Str × D) := []
def f_spots_after : Fn := ⟨"spots_after", ["part", "height", "spot", "count"], [(0, [3, 2, 1, 0])], run ⟨[Ev.C.f_check_place, Ev.C.f_rounds_in, Ev.C.f_check_many], c_spots_after⟩ 1000000 6 b_spots_after⟩
@[simp] theorem p_spots_after : f_spots_after.ps.length = 4 := (rfl)
def b_u_law_rule_of : Ss := (.cons (.asg (.n 3) (.call 0 (.cons (.bin .sub (.call 3 (.cons (.v 0) (.cons (.k (.int 41)) .nil)) .nil) (.k (.int 20))) (.cons (.bin .add (.k (.int 1)) (.call 3 (.cons (.v 0) (.cons (.k (.int 5)) .nil)) .nil)) .nil)) .nil)) (.cons (.asg (.n 4) (.call 0 (.cons (.bin .add (.k (.int 1)) (.call 3 (.cons (.v 0) (.cons (.k (.int 9)) .nil)) .nil)) (.cons (.bin .add (.k (.int 1)) (.call 3 (.cons (.v 0) (.cons (.k (.int 5)) .nil)) .nil)) .nil)) .nil)) (.cons (.asg (.n 5) (.call 1 (.cons (.call 2 (.cons (.call 1 (.cons (.tup (.cons (.k (.int 1)) (.cons (.k (.int 1)) .nil))) (.cons (.v 1) .nil)) .nil) (.cons (.v 3) .nil)) .nil) (.cons (.call 2 (.cons (.v 2) (.cons (.v 4) .nil)) .nil) .nil)) .nil)) (.cons (.ret (.tup (.cons (.v 3) (.cons (.v 4) (.cons (.v 1) (.cons (.v 5) .nil)))))) .nil))))
def c_u_law_rule_of : List (Str × D) := []
def f_u_law_rule_of : Fn := ⟨"_law_rule_of", ["state_so", "cut_so", "lot_so"], [], run ⟨[Ev.L.f_u_law_share, Ev.F.f_u_law_minus, Ev.F.f_u_law_times, Ev.L.f_u_law_draw], c_u_law_rule_of⟩ 1000000 6 b_u_law_rule_of⟩
@[simp] theorem p_u_law_rule_of : f_u_law_rule_of.ps.length = 3 := (rfl)
def b_u_law_power_1 : Ss := (.cons (.asg (.n 2) (.call 0 (.cons (.v 2) (.cons (.v 0) .nil)) .nil)) .nil)
def b_u_law_power : Ss := (.cons (.asg (.n 2) (.tup (.cons (.k (.int 1)) (.cons (.k (.int 1)) .nil)))) (.cons (.for_ (.n 3) (.r1 (.v 1)) b_u_law_power_1) (.cons (.ret (.v 2)) .nil)))
def c_u_law_power : List (Str × D) := []
def f_u_law_power : Fn := ⟨"_law_power", ["one", "times_so"], [], run ⟨[Ev.F.f_u_law_times], c_u_law_power⟩ 1000000 4 b_u_law_power⟩
@[simp] theorem p_u_law_power : f_u_law_power.ps.length = 2 := (rfl)
def b_is_mean_form : Ss := (.cons (.ret (.and (.call 0 (.cons (.v 0) .nil) .nil) (.cons (.cmp .ge (.ix (.v 0) (.k (.int 0))) (.ix (.v 0) (.k (.int 1)))) (.cons (.cmp .le (.ix (.v 0) (.k (.int 1))) (.g 0)) .nil)))) .nil)
def c_is_mean_form : List (Str × D) := [("MOST_BELOW", .int 300)]
def f_is_mean_form : Fn := ⟨"is_mean_form", ["value"], [], run ⟨[Ev.C.f_is_fraction], c_is_mean_form⟩ 1000000 1 b_is_mean_form⟩
@[simp] theorem p_is_mean_form : f_is_mean_form.ps.length = 1 := (rfl)
@[simp] theorem g_is_mean_form_0 : c_is_mean_form[0]? = some (("MOST_BELOW" : Str), (.int 300 : D)) := (rfl)
def b_check_mean : Ss := (.cons (.ife (.not (.call 0 (.cons (.v 0) .nil) .nil)) (.cons (.raise) .nil) .nil) (.cons (.ret (.v 0)) .nil))
def c_check_mean : List (Str × D) := []
def f_check_mean : Fn := ⟨"check_mean", ["value"], [], run ⟨[Ev.C.f_is_mean_form], c_check_mean⟩ 1000000 1 b_check_mean⟩
@[simp] theorem p_check_mean : f_check_mean.ps.length = 1 := (rfl)
def b_check_ends : Ss := (.cons (.ex (.call 0 (.cons (.v 0) .nil) .nil)) (.cons (.ex (.call 1 (.cons (.v 1) .nil) .nil)) .nil))
def c_check_ends : List (Str × D) := []
def f_check_ends : Fn := ⟨"check_ends", ["part", "mean"], [], run ⟨[Ev.C.f_check_part, Ev.C.f_check_mean], c_check_ends⟩ 1000000 2 b_check_ends⟩
@[simp] theorem p_check_ends : f_check_ends.ps.length = 2 := (rfl)
def b_floors_of_1 : Ss := (.cons (.asg (.n 2) (.call 0 (.cons (.v 2) (.cons (.call 1 (.cons (.v 3) (.cons (.tup (.cons (.bin .fdiv (.bin .mul (.v 4) (.ix (.v 1) (.k (.int 0)))) (.ix (.v 1) (.k (.int 1)))) (.cons (.k (.int 1)) .nil))) .nil)) .nil) .nil)) .nil)) (.cons (.asg (.n 3) (.call 1 (.cons (.v 3) (.cons (.v 0) .nil)) .nil)) .nil))
def b_floors_of : Ss := (.cons (.par [2, 3] [false, false] (.cons (.g 0) (.cons (.g 1) .nil))) (.cons (.for_ (.n 4) (.r2 (.k (.int 1)) (.bin .add (.ix (.v 1) (.k (.int 1))) (.k (.int 1)))) b_floors_of_1) (.cons (.ret (.tup (.cons (.v 2) (.cons (.v 3) .nil)))) .nil)))
def c_floors_of : List (Str × D) := [("NONE", .tuple [.int 0, .int 1]), ("ONE", .tuple [.int 1, .int 1])]
def f_floors_of : Fn := ⟨"floors_of", ["part", "mean"], [], run ⟨[Ev.F.f_plus_in, Ev.F.f_times_in], c_floors_of⟩ 1000000 5 b_floors_of⟩
@[simp] theorem p_floors_of : f_floors_of.ps.length = 2 := (rfl)
@[simp] theorem g_floors_of_0 : c_floors_of[0]? = some (("NONE" : Str), (.tuple [.int 0, .int 1] : D)) := (rfl)
@[simp] theorem g_floors_of_1 : c_floors_of[1]? = some (("ONE" : Str), (.tuple [.int 1, .int 1] : D)) := (rfl)
def b_floors_in : Ss := (.cons (.asg (.t (.cons (.n 2) (.cons (.n 3) .nil))) (.call 0 (.cons (.v 0) (.cons (.v 1) .nil)) .nil)) (.cons (.asg (.n 4) (.call 1 (.cons (.g 0) (.cons (.v 3) .nil)) .nil)) (.cons (.asg (.n 5) (.call 2 (.cons (.call 2 (.cons (.call 4 (.cons (.tup (.cons (.ix (.v 1) (.k (.int 0))) (.cons (.k (.int 1)) .nil))) (.cons (.v 3) .nil)) .nil) (.cons (.v 4) .nil)) .nil) (.cons (.call 1 (.cons (.g 0) (.cons (.v 0) .nil)) .nil) .nil)) .nil)) (.cons (.ret (.call 3 (.cons (.call 2 (.cons (.v 2) (.cons (.v 4) .nil)) .nil) (.cons (.v 5) .nil)) .nil)) .nil))))
def c_floors_in : List (Str × D) := [("ONE", .tuple [.int 1, .int 1])]
def f_floors_in : Fn := ⟨"floors_in", ["part", "mean"], [], run ⟨[Ev.C.f_floors_of, Ev.F.f_minus_in, Ev.F.f_over_in, Ev.F.f_plus_in, Ev.F.f_times_in], c_floors_in⟩ 1000000 6 b_floors_in⟩
@[simp] theorem p_floors_in : f_floors_in.ps.length = 2 := (rfl)
@[simp] theorem g_floors_in_0 : c_floors_in[0]? = some (("ONE" : Str), (.tuple [.int 1, .int 1] : D)) := (rfl)
def b_floor_sum : Ss := (.cons (.ex (.call 0 (.cons (.v 0) (.cons (.v 1) .nil)) .nil)) (.cons (.ret (.call 1 (.cons (.v 0) (.cons (.v 1) .nil)) .nil)) .nil))
def c_floor_sum : List (Str × D) := []
def f_floor_sum : Fn := ⟨"floor_sum", ["part", "mean"], [(0, [1, 0])], run ⟨[Ev.C.f_check_ends, Ev.C.f_floors_in], c_floor_sum⟩ 1000000 2 b_floor_sum⟩
@[simp] theorem p_floor_sum : f_floor_sum.ps.length = 2 := (rfl)
def b_u_law_pair : Ss := (.cons (.asg (.n 2) (.bin .add (.k (.int 1)) (.call 1 (.cons (.v 0) (.cons (.v 1) .nil)) .nil))) (.cons (.ret (.call 0 (.cons (.bin .add (.v 2) (.call 1 (.cons (.v 0) (.cons (.bin .add (.bin .mul (.k (.int 3)) (.v 2)) (.k (.int 1))) .nil)) .nil)) (.cons (.v 2) .nil)) .nil)) .nil))
def c_u_law_pair : List (Str × D) := []
def f_u_law_pair : Fn := ⟨"_law_pair", ["draws_so", "most_so"], [], run ⟨[Ev.L.f_u_law_share, Ev.L.f_u_law_draw], c_u_law_pair⟩ 1000000 3 b_u_law_pair⟩
@[simp] theorem p_u_law_pair : f_u_law_pair.ps.length = 2 := (rfl)
def b_u_law_floors_1 : Ss := (.cons (.asg (.n 4) (.call 2 (.cons (.v 4) (.cons (.call 3 (.cons (.v 5) (.cons (.tup (.cons (.bin .fdiv (.bin .mul (.v 6) (.v 2)) (.v 3)) (.cons (.k (.int 1)) .nil))) .nil)) .nil) .nil)) .nil)) (.cons (.asg (.n 5) (.call 3 (.cons (.v 5) (.cons (.v 0) .nil)) .nil)) .nil))
def b_u_law_floors : Ss := (.cons (.asg (.t (.cons (.n 2) (.cons (.n 3) .nil))) (.v 1)) (.cons (.asg (.t (.cons (.n 4) (.cons (.n 5) .nil))) (.tup (.cons (.tup (.cons (.k (.int 0)) (.cons (.k (.int 1)) .nil))) (.cons (.tup (.cons (.k (.int 1)) (.cons (.k (.int 1)) .nil))) .nil)))) (.cons (.for_ (.n 6) (.r2 (.k (.int 1)) (.bin .add (.v 3) (.k (.int 1)))) b_u_law_floors_1) (.cons (.asg (.n 7) (.call 0 (.cons (.tup (.cons (.k (.int 1)) (.cons (.k (.int 1)) .nil))) (.cons (.v 5) .nil)) .nil)) (.cons (.asg (.n 8) (.call 1 (.cons (.v 7) (.cons (.call 0 (.cons (.tup (.cons (.k (.int 1)) (.cons (.k (.int 1)) .nil))) (.cons (.v 0) .nil)) .nil) .nil)) .nil)) (.cons (.asg (.n 9) (.call 1 (.cons (.v 5) (.cons (.call 3 (.cons (.v 7) (.cons (.v 7) .nil)) .nil) .nil)) .nil)) (.cons (.ret (.call 2 (.cons (.call 1 (.cons (.v 4) (.cons (.v 7) .nil)) .nil) (.cons (.call 3 (.cons (.call 3 (.cons (.tup (.cons (.v 2) (.cons (.k (.int 1)) .nil))) (.cons (.v 8) .nil)) .nil) (.cons (.v 9) .nil)) .nil) .nil)) .nil)) .nil)))))))
def c_u_law_floors : List (Str × D) := []
def f_u_law_floors : Fn := ⟨"_law_floors", ["cut_so", "pair_so"], [], run ⟨[Ev.F.f_u_law_minus, Ev.F.f_u_law_over, Ev.F.f_u_law_plus, Ev.F.f_u_law_times], c_u_law_floors⟩ 1000000 10 b_u_law_floors⟩
@[simp] theorem p_u_law_floors : f_u_law_floors.ps.length = 2 := (rfl)
def b_high_in : Ss := (.cons (.asg (.n 2) (.call 0 (.cons (.g 0) (.cons (.v 0) .nil)) .nil)) (.cons (.ret (.call 1 (.cons (.call 1 (.cons (.v 2) (.cons (.v 2) .nil)) .nil) (.cons (.call 2 (.cons (.v 0) (.cons (.v 1) .nil)) .nil) .nil)) .nil)) .nil))
def c_high_in : List (Str × D) := [("ONE", .tuple [.int 1, .int 1])]
def f_high_in : Fn := ⟨"high_in", ["part", "mean"], [], run ⟨[Ev.F.f_minus_in, Ev.F.f_times_in, Ev.C.f_floors_in], c_high_in⟩ 1000000 3 b_high_in⟩
@[simp] theorem p_high_in : f_high_in.ps.length = 2 := (rfl)
@[simp] theorem g_high_in_0 : c_high_in[0]? = some (("ONE" : Str), (.tuple [.int 1, .int 1] : D)) := (rfl)
def b_power_in_1 : Ss := (.cons (.ife (.cmp .eq (.bin .mod (.v 4) (.k (.int 2))) (.k (.int 1))) (.cons (.asg (.n 2) (.tup (.cons (.bin .mul (.ix (.v 2) (.k (.int 0))) (.ix (.v 3) (.k (.int 0)))) (.cons (.bin .mul (.ix (.v 2) (.k (.int 1))) (.ix (.v 3) (.k (.int 1)))) .nil)))) .nil) .nil) (.cons (.par [3, 4] [false, false] (.cons (.tup (.cons (.bin .mul (.ix (.v 3) (.k (.int 0))) (.ix (.v 3) (.k (.int 0)))) (.cons (.bin .mul (.ix (.v 3) (.k (.int 1))) (.ix (.v 3) (.k (.int 1)))) .nil))) (.cons (.bin .fdiv (.v 4) (.k (.int 2))) .nil))) .nil))
def b_power_in : Ss := (.cons (.par [2, 3, 4] [false, false, false] (.cons (.g 0) (.cons (.v 0) (.cons (.v 1) .nil)))) (.cons (.whl (.cmp .gt (.v 4) (.k (.int 0))) b_power_in_1) (.cons (.ret (.v 2)) .nil)))
def c_power_in : List (Str × D) := [("ONE", .tuple [.int 1, .int 1])]
def f_power_in : Fn := ⟨"power_in", ["one", "number"], [], run ⟨[], c_power_in⟩ 1000000 5 b_power_in⟩
@[simp] theorem p_power_in : f_power_in.ps.length = 2 := (rfl)
@[simp] theorem g_power_in_0 : c_power_in[0]? = some (("ONE" : Str), (.tuple [.int 1, .int 1] : D)) := (rfl)
def b_length_in : Ss := (.cons (.par [2, 3] [false, false] (.cons (.call 1 (.cons (.g 0) (.cons (.v 0) .nil)) .nil) (.cons (.call 2 (.cons (.v 0) (.cons (.bin .sub (.v 1) (.k (.int 1))) .nil)) .nil) .nil))) (.cons (.ret (.call 0 (.cons (.call 3 (.cons (.call 3 (.cons (.v 2) (.cons (.v 2) .nil)) .nil) (.cons (.v 3) .nil)) .nil) (.cons (.call 1 (.cons (.g 0) (.cons (.call 3 (.cons (.v 3) (.cons (.v 0) .nil)) .nil) .nil)) .nil) .nil)) .nil)) .nil))
def c_length_in : List (Str × D) := [("ONE", .tuple [.int 1, .int 1])]
def f_length_in : Fn := ⟨"length_in", ["part", "below"], [], run ⟨[Ev.F.f_over_in, Ev.F.f_minus_in, Ev.C.f_power_in, Ev.F.f_times_in], c_length_in⟩ 1000000 4 b_length_in⟩
@[simp] theorem p_length_in : f_length_in.ps.length = 2 := (rfl)
@[simp] theorem g_length_in_0 : c_length_in[0]? = some (("ONE" : Str), (.tuple [.int 1, .int 1] : D)) := (rfl)
def b_ends_in : Ss := (.cons (.asg (.n 2) (.call 0 (.cons (.v 0) (.cons (.v 1) .nil)) .nil)) (.cons (.ret (.tup (.cons (.call 1 (.cons (.v 2) (.cons (.call 2 (.cons (.v 0) (.cons (.ix (.v 1) (.k (.int 1))) .nil)) .nil) .nil)) .nil) (.cons (.v 2) .nil)))) .nil))
def c_ends_in : List (Str × D) := []
def f_ends_in : Fn := ⟨"ends_in", ["part", "mean"], [], run ⟨[Ev.C.f_high_in, Ev.F.f_minus_in, Ev.C.f_length_in], c_ends_in⟩ 1000000 3 b_ends_in⟩
@[simp] theorem p_ends_in : f_ends_in.ps.length = 2 := (rfl)
def b_stretch_of : Ss := (.cons (.ex (.call 0 (.cons (.v 0) (.cons (.v 1) .nil)) .nil)) (.cons (.ret (.call 1 (.cons (.v 0) (.cons (.v 1) .nil)) .nil)) .nil))
def c_stretch_of : List (Str × D) := []
def f_stretch_of : Fn := ⟨"stretch_of", ["part", "mean"], [(0, [1, 0])], run ⟨[Ev.C.f_check_ends, Ev.C.f_ends_in], c_stretch_of⟩ 1000000 2 b_stretch_of⟩
@[simp] theorem p_stretch_of : f_stretch_of.ps.length = 2 := (rfl)
def b_u_law_ends : Ss := (.cons (.asg (.n 2) (.call 0 (.cons (.tup (.cons (.k (.int 1)) (.cons (.k (.int 1)) .nil))) (.cons (.v 0) .nil)) .nil)) (.cons (.asg (.n 3) (.call 1 (.cons (.call 1 (.cons (.v 2) (.cons (.v 2) .nil)) .nil) (.cons (.call 3 (.cons (.v 0) (.cons (.v 1) .nil)) .nil) .nil)) .nil)) (.cons (.asg (.n 4) (.call 2 (.cons (.v 0) (.cons (.bin .sub (.ix (.v 1) (.k (.int 1))) (.k (.int 1))) .nil)) .nil)) (.cons (.asg (.n 5) (.call 0 (.cons (.tup (.cons (.k (.int 1)) (.cons (.k (.int 1)) .nil))) (.cons (.call 1 (.cons (.v 4) (.cons (.v 0) .nil)) .nil) .nil)) .nil)) (.cons (.ret (.tup (.cons (.call 0 (.cons (.v 3) (.cons (.call 4 (.cons (.call 1 (.cons (.call 1 (.cons (.v 2) (.cons (.v 2) .nil)) .nil) (.cons (.v 4) .nil)) .nil) (.cons (.v 5) .nil)) .nil) .nil)) .nil) (.cons (.v 3) .nil)))) .nil)))))
def c_u_law_ends : List (Str × D) := []
def f_u_law_ends : Fn := ⟨"_law_ends", ["cut_so", "pair_so"], [], run ⟨[Ev.F.f_u_law_minus, Ev.F.f_u_law_times, Ev.C.f_u_law_power, Ev.C.f_u_law_floors, Ev.F.f_u_law_over], c_u_law_ends⟩ 1000000 6 b_u_law_ends⟩
@[simp] theorem p_u_law_ends : f_u_law_ends.ps.length = 2 := (rfl)
def b_stretch_length : Ss := (.cons (.ex (.call 0 (.cons (.v 0) (.cons (.v 1) .nil)) .nil)) (.cons (.ret (.call 1 (.cons (.v 0) (.cons (.ix (.v 1) (.k (.int 1))) .nil)) .nil)) .nil))
def c_stretch_length : List (Str × D) := []
def f_stretch_length : Fn := ⟨"stretch_length", ["part", "mean"], [(0, [1, 0])], run ⟨[Ev.C.f_check_ends, Ev.C.f_length_in], c_stretch_length⟩ 1000000 2 b_stretch_length⟩
@[simp] theorem p_stretch_length : f_stretch_length.ps.length = 2 := (rfl)
def b_order_at : Ss := (.cons (.asg (.t (.cons (.n 3) (.cons (.n 4) .nil))) (.call 0 (.cons (.v 0) (.cons (.v 1) .nil)) .nil)) (.cons (.ife (.call 1 (.cons (.v 2) (.cons (.v 3) .nil)) .nil) (.cons (.ret (.neg (.k (.int 1)))) .nil) .nil) (.cons (.ret (.ife (.call 1 (.cons (.v 4) (.cons (.v 2) .nil)) .nil) (.k (.int 1)) (.k (.int 0)))) .nil)))
def c_order_at : List (Str × D) := []
def f_order_at : Fn := ⟨"order_at", ["part", "mean", "height"], [], run ⟨[Ev.C.f_ends_in, Ev.F.f_less_in], c_order_at⟩ 1000000 5 b_order_at⟩
@[simp] theorem p_order_at : f_order_at.ps.length = 3 := (rfl)
def b_is_in : Ss := (.cons (.ex (.call 0 (.cons (.v 0) (.cons (.v 1) .nil)) .nil)) (.cons (.ret (.cmp .eq (.call 1 (.cons (.v 0) (.cons (.v 1) (.cons (.call 2 (.cons (.v 0) (.cons (.v 2) .nil)) .nil) .nil))) .nil) (.k (.int 0)))) .nil))
def c_is_in : List (Str × D) := []
def f_is_in : Fn := ⟨"is_in", ["part", "mean", "height"], [(0, [2, 1, 0])], run ⟨[Ev.C.f_check_ends, Ev.C.f_order_at, Ev.C.f_check_height], c_is_in⟩ 1000000 3 b_is_in⟩
@[simp] theorem p_is_in : f_is_in.ps.length = 3 := (rfl)
def b_u_law_between : Ss := (.cons (.ret (.call 0 (.cons (.v 0) (.cons (.call 1 (.cons (.call 2 (.cons (.v 1) (.cons (.v 0) .nil)) .nil) (.cons (.v 2) .nil)) .nil) .nil)) .nil)) .nil)
def c_u_law_between : List (Str × D) := []
def f_u_law_between : Fn := ⟨"_law_between", ["one", "two", "share"], [], run ⟨[Ev.F.f_u_law_plus, Ev.F.f_u_law_times, Ev.F.f_u_law_minus], c_u_law_between⟩ 1000000 3 b_u_law_between⟩
@[simp] theorem p_u_law_between : f_u_law_between.ps.length = 3 := (rfl)
def e_u_law_is_beat_1 : E := .cmp .ne (.v 5) (.ix (.v 1) (.bin .mod (.bin .add (.v 3) (.v 4)) (.v 2)))
def e_u_law_is_beat_2 : E := .k (.int 1)
def b_u_law_is_beat_3 : Ss := (.cons (.ife (.cmp .eq (.lc (.t (.cons (.n 4) (.cons (.n 5) .nil))) (.enum (.v 0)) (e_u_law_is_beat_1) (e_u_law_is_beat_2)) (.lst .nil)) (.cons (.ret (.k (.bool true))) .nil) .nil) .nil)
def b_u_law_is_beat : Ss := (.cons (.asg (.n 2) (.bi .len (.cons (.v 1) .nil))) (.cons (.for_ (.n 3) (.r1 (.v 2)) b_u_law_is_beat_3) (.cons (.ret (.k (.bool false))) .nil)))
def c_u_law_is_beat : List (Str × D) := []
def f_u_law_is_beat : Fn := ⟨"_law_is_beat", ["some", "beat_so"], [], run ⟨[], c_u_law_is_beat⟩ 1000000 6 b_u_law_is_beat⟩
@[simp] theorem p_u_law_is_beat : f_u_law_is_beat.ps.length = 2 := (rfl)
def b_u_law_beat_1 : Ss := (.cons (.app 3 (.bin .add (.neg (.bin .fdiv (.bin .mul (.neg (.bin .add (.v 4) (.k (.int 1)))) (.v 1)) (.v 2))) (.bin .fdiv (.bin .mul (.neg (.v 4)) (.v 1)) (.v 2)))) .nil)
def b_u_law_beat : Ss := (.cons (.asg (.t (.cons (.n 1) (.cons (.n 2) .nil))) (.v 0)) (.cons (.asgO 3 (.lst .nil)) (.cons (.for_ (.n 4) (.r1 (.v 2)) b_u_law_beat_1) (.cons (.frz 3) (.cons (.ret (.v 3)) .nil)))))
def c_u_law_beat : List (Str × D) := []
def f_u_law_beat : Fn := ⟨"_law_beat", ["pair_so"], [], run ⟨[], c_u_law_beat⟩ 1000000 5 b_u_law_beat⟩
@[simp] theorem p_u_law_beat : f_u_law_beat.ps.length = 1 := (rfl)
def b_check_both : Ss := (.cons (.ex (.call 0 (.cons (.v 0) .nil) .nil)) (.cons (.ex (.call 1 (.cons (.v 0) (.cons (.v 1) .nil)) .nil)) .nil))
def c_check_both : List (Str × D) := []
def f_check_both : Fn := ⟨"check_both", ["part", "height"], [], run ⟨[Ev.C.f_check_part, Ev.C.f_check_height], c_check_both⟩ 1000000 2 b_check_both⟩
@[simp] theorem p_check_both : f_check_both.ps.length = 2 := (rfl)
def b_weighed_in_1 : Ss := (.cons (.par [4, 5] [false, false] (.cons (.bin .add (.bin .mul (.bin .fdiv (.bin .mul (.v 6) (.ix (.v 1) (.k (.int 0)))) (.ix (.v 1) (.k (.int 1)))) (.v 5)) (.bin .mul (.v 2) (.v 4))) (.cons (.bin .mul (.v 5) (.v 3)) .nil))) .nil)
def b_weighed_in : Ss := (.cons (.asg (.t (.cons (.n 2) (.cons (.n 3) .nil))) (.v 0)) (.cons (.asg (.t (.cons (.n 4) (.cons (.n 5) .nil))) (.tup (.cons (.k (.int 0)) (.cons (.k (.int 1)) .nil)))) (.cons (.for_ (.n 6) (.r3 (.ix (.v 1) (.k (.int 1))) (.k (.int 0)) (.neg (.k (.int 1)))) b_weighed_in_1) (.cons (.ret (.v 4)) .nil))))
def c_weighed_in : List (Str × D) := []
def f_weighed_in : Fn := ⟨"weighed_in", ["part", "mean"], [], run ⟨[], c_weighed_in⟩ 1000000 7 b_weighed_in⟩
@[simp] theorem p_weighed_in : f_weighed_in.ps.length = 2 := (rfl)
def b_side_in : Ss := (.cons (.asg (.t (.cons (.n 3) (.cons (.t (.cons (.n 4) (.cons (.n 5) .nil))) .nil))) (.tup (.cons (.bin .sub (.ix (.v 0) (.k (.int 1))) (.ix (.v 0) (.k (.int 0)))) (.cons (.call 0 (.cons (.v 0) (.cons (.bin .sub (.ix (.v 1) (.k (.int 1))) (.k (.int 1))) .nil)) .nil) .nil)))) (.cons (.par [6, 7] [false, false] (.cons (.bin .mul (.v 4) (.ix (.v 0) (.k (.int 0)))) (.cons (.bin .mul (.v 5) (.ix (.v 0) (.k (.int 1)))) .nil))) (.cons (.asg (.n 8) (.bin .add (.bin .mul (.v 3) (.call 1 (.cons (.v 0) (.cons (.v 1) .nil)) .nil)) (.bin .mul (.ix (.v 1) (.k (.int 0))) (.v 6)))) (.cons (.asg (.n 9) (.bin .mul (.bin .mul (.ix (.v 2) (.k (.int 0))) (.ix (.v 0) (.k (.int 1)))) (.bin .sub (.v 7) (.v 6)))) (.cons (.ife (.cmp .gt (.v 9) (.bin .mul (.bin .mul (.ix (.v 2) (.k (.int 1))) (.v 3)) (.v 8))) (.cons (.ret (.k (.int 1))) .nil) .nil) (.cons (.ret (.ife (.cmp .lt (.v 9) (.bin .mul (.bin .mul (.ix (.v 2) (.k (.int 1))) (.v 3)) (.bin .sub (.v 8) (.bin .mul (.v 3) (.v 4))))) (.neg (.k (.int 1))) (.k (.int 0)))) .nil))))))
def c_side_in : List (Str × D) := []
def f_side_in : Fn := ⟨"side_in", ["part", "mean", "height"], [], run ⟨[Ev.C.f_power_in, Ev.C.f_weighed_in], c_side_in⟩ 1000000 10 b_side_in⟩
@[simp] theorem p_side_in : f_side_in.ps.length = 3 := (rfl)
def b_begin_in : Ss := (.cons (.asg (.n 2) (.call 0 (.cons (.v 1) .nil) .nil)) (.cons (.asg (.n 3) (.ife (.cmp .eq (.call 1 (.cons (.v 0) (.cons (.tup (.cons (.v 2) (.cons (.k (.int 1)) .nil))) (.cons (.v 1) .nil))) .nil) (.k (.int 0))) (.tup (.cons (.v 2) (.cons (.k (.int 1)) .nil))) (.k .none))) (.cons (.ret (.tup (.cons (.tup (.cons (.bin .sub (.v 2) (.k (.int 1))) (.cons (.k (.int 1)) .nil))) (.cons (.tup (.cons (.v 2) (.cons (.k (.int 1)) .nil))) (.cons (.v 3) .nil))))) .nil)))
def c_begin_in : List (Str × D) := []
def f_begin_in : Fn := ⟨"begin_in", ["part", "height"], [], run ⟨[Ev.C.f_ceil_in, Ev.C.f_side_in], c_begin_in⟩ 1000000 4 b_begin_in⟩
@[simp] theorem p_begin_in : f_begin_in.ps.length = 2 := (rfl)
def b_step_in : Ss := (.cons (.asg (.t (.cons (.n 3) (.cons (.n 4) (.cons (.n 5) .nil)))) (.v 2)) (.cons (.ife (.cmp .isnot (.v 5) (.k .none)) (.cons (.ret (.v 2)) .nil) .nil) (.cons (.asg (.n 6) (.tup (.cons (.bin .add (.ix (.v 3) (.k (.int 0))) (.ix (.v 4) (.k (.int 0)))) (.cons (.bin .add (.ix (.v 3) (.k (.int 1))) (.ix (.v 4) (.k (.int 1)))) .nil)))) (.cons (.ife (.cmp .gt (.ix (.v 6) (.k (.int 1))) (.g 0)) (.cons (.raise) .nil) .nil) (.cons (.asg (.n 7) (.call 0 (.cons (.v 0) (.cons (.v 6) (.cons (.v 1) .nil))) .nil)) (.cons (.ife (.cmp .eq (.v 7) (.k (.int 0))) (.cons (.ret (.tup (.cons (.v 3) (.cons (.v 4) (.cons (.v 6) .nil))))) .nil) .nil) (.cons (.ret (.ife (.cmp .gt (.v 7) (.k (.int 0))) (.tup (.cons (.v 6) (.cons (.v 4) (.cons (.k .none) .nil)))) (.tup (.cons (.v 3) (.cons (.v 6) (.cons (.k .none) .nil)))))) .nil)))))))
def c_step_in : List (Str × D) := [("MOST_BELOW", .int 300)]
def f_step_in : Fn := ⟨"step_in", ["part", "height", "state"], [], run ⟨[Ev.C.f_side_in], c_step_in⟩ 1000000 8 b_step_in⟩
@[simp] theorem p_step_in : f_step_in.ps.length = 3 := (rfl)
@[simp] theorem g_step_in_0 : c_step_in[0]? = some (("MOST_BELOW" : Str), (.int 300 : D)) := (rfl)
def b_mean_in_1 : Ss := (.cons (.asg (.n 2) (.call 1 (.cons (.v 0) (.cons (.v 1) (.cons (.v 2) .nil))) .nil)) .nil)
def b_mean_in : Ss := (.cons (.asg (.n 2) (.call 0 (.cons (.v 0) (.cons (.v 1) .nil)) .nil)) (.cons (.whl (.cmp .is (.ix (.v 2) (.k (.int 2))) (.k .none)) b_mean_in_1) (.cons (.ret (.ix (.v 2) (.k (.int 2)))) .nil)))
def c_mean_in : List (Str × D) := []
def f_mean_in : Fn := ⟨"mean_in", ["part", "height"], [], run ⟨[Ev.C.f_begin_in, Ev.C.f_step_in], c_mean_in⟩ 1000000 3 b_mean_in⟩
@[simp] theorem p_mean_in : f_mean_in.ps.length = 2 := (rfl)
def b_mean_of : Ss := (.cons (.ex (.call 0 (.cons (.v 0) (.cons (.v 1) .nil)) .nil)) (.cons (.ret (.call 1 (.cons (.v 0) (.cons (.v 1) .nil)) .nil)) .nil))
def c_mean_of : List (Str × D) := []
def f_mean_of : Fn := ⟨"mean_of", ["part", "height"], [(0, [1, 0])], run ⟨[Ev.C.f_check_both, Ev.C.f_mean_in], c_mean_of⟩ 1000000 2 b_mean_of⟩
@[simp] theorem p_mean_of : f_mean_of.ps.length = 2 := (rfl)
def b_mean_of_setting : Ss := (.cons (.ex (.call 0 (.cons (.v 0) .nil) .nil)) (.cons (.ret (.call 1 (.cons (.ix (.v 0) (.k (.int 2))) (.cons (.call 2 (.cons (.v 0) .nil) .nil) .nil)) .nil)) .nil))
def c_mean_of_setting : List (Str × D) := []
def f_mean_of_setting : Fn := ⟨"mean_of_setting", ["setting"], [(0, [0])], run ⟨[Ev.C.f_check_setting, Ev.C.f_mean_in, Ev.C.f_height_in], c_mean_of_setting⟩ 1000000 1 b_mean_of_setting⟩
@[simp] theorem p_mean_of_setting : f_mean_of_setting.ps.length = 1 := (rfl)
def b_upper_in : Ss := (.cons (.ret (.neg (.bin .fdiv (.bin .mul (.neg (.v 1)) (.ix (.v 0) (.k (.int 0)))) (.ix (.v 0) (.k (.int 1)))))) .nil)
def c_upper_in : List (Str × D) := []
def f_upper_in : Fn := ⟨"upper_in", ["mean", "count"], [], run ⟨[], c_upper_in⟩ 1000000 2 b_upper_in⟩
@[simp] theorem p_upper_in : f_upper_in.ps.length = 2 := (rfl)
def b_thing_in : Ss := (.cons (.ret (.bin .sub (.call 0 (.cons (.v 0) (.cons (.bin .add (.v 1) (.k (.int 1))) .nil)) .nil) (.call 0 (.cons (.v 0) (.cons (.v 1) .nil)) .nil))) .nil)
def c_thing_in : List (Str × D) := []
def f_thing_in : Fn := ⟨"thing_in", ["mean", "place"], [], run ⟨[Ev.C.f_upper_in], c_thing_in⟩ 1000000 2 b_thing_in⟩
@[simp] theorem p_thing_in : f_thing_in.ps.length = 2 := (rfl)
def b_first_point_1 : Ss := (.cons (.asg (.n 3) (.call 1 (.cons (.call 3 (.cons (.v 0) (.cons (.v 3) .nil)) .nil) (.cons (.call 2 (.cons (.tup (.cons (.call 5 (.cons (.v 2) (.cons (.v 4) .nil)) .nil) (.cons (.k (.int 1)) .nil))) (.cons (.v 1) .nil)) .nil) .nil)) .nil)) .nil)
def b_first_point : Ss := (.cons (.asg (.n 3) (.g 0)) (.cons (.for_ (.n 4) (.r1 (.ix (.v 2) (.k (.int 1)))) b_first_point_1) (.cons (.ret (.call 0 (.cons (.v 3) (.cons (.call 2 (.cons (.g 1) (.cons (.call 4 (.cons (.v 0) (.cons (.ix (.v 2) (.k (.int 1))) .nil)) .nil) .nil)) .nil) .nil)) .nil)) .nil)))
def c_first_point : List (Str × D) := [("NONE", .tuple [.int 0, .int 1]), ("ONE", .tuple [.int 1, .int 1])]
def f_first_point : Fn := ⟨"first_point", ["part", "height", "mean"], [], run ⟨[Ev.F.f_over_in, Ev.F.f_plus_in, Ev.F.f_minus_in, Ev.F.f_times_in, Ev.C.f_power_in, Ev.C.f_thing_in], c_first_point⟩ 1000000 5 b_first_point⟩
@[simp] theorem p_first_point : f_first_point.ps.length = 3 := (rfl)
@[simp] theorem g_first_point_0 : c_first_point[0]? = some (("NONE" : Str), (.tuple [.int 0, .int 1] : D)) := (rfl)
@[simp] theorem g_first_point_1 : c_first_point[1]? = some (("ONE" : Str), (.tuple [.int 1, .int 1] : D)) := (rfl)
def b_points_by_1 : Ss := (.cons (.app 3 (.call 1 (.cons (.call 2 (.cons (.v 0) (.cons (.ix (.v 3) (.neg (.k (.int 1)))) .nil)) .nil) (.cons (.call 3 (.cons (.tup (.cons (.call 4 (.cons (.v 2) (.cons (.v 4) .nil)) .nil) (.cons (.k (.int 1)) .nil))) (.cons (.v 1) .nil)) .nil) .nil)) .nil)) .nil)
def b_points_by : Ss := (.cons (.asgO 3 (.lst (.cons (.call 0 (.cons (.v 0) (.cons (.v 1) (.cons (.v 2) .nil))) .nil) .nil))) (.cons (.for_ (.n 4) (.r1 (.bin .sub (.ix (.v 2) (.k (.int 1))) (.k (.int 1)))) b_points_by_1) (.cons (.frz 3) (.cons (.ret (.v 3)) .nil))))
def c_points_by : List (Str × D) := []
def f_points_by : Fn := ⟨"points_by", ["part", "height", "mean"], [], run ⟨[Ev.C.f_first_point, Ev.F.f_plus_in, Ev.F.f_times_in, Ev.F.f_minus_in, Ev.C.f_thing_in], c_points_by⟩ 1000000 5 b_points_by⟩
@[simp] theorem p_points_by : f_points_by.ps.length = 3 := (rfl)
def b_points_in : Ss := (.cons (.ret (.call 0 (.cons (.v 0) (.cons (.v 1) (.cons (.call 1 (.cons (.v 0) (.cons (.v 1) .nil)) .nil) .nil))) .nil)) .nil)
def c_points_in : List (Str × D) := []
def f_points_in : Fn := ⟨"points_in", ["part", "height"], [], run ⟨[Ev.C.f_points_by, Ev.C.f_mean_in], c_points_in⟩ 1000000 2 b_points_in⟩
@[simp] theorem p_points_in : f_points_in.ps.length = 2 := (rfl)
def b_behind_of : Ss := (.cons (.asg (.t (.cons (.n 2) (.cons (.n 3) (.cons (.n 4) (.cons (.n 5) .nil))))) (.v 0)) (.cons (.ret (.call 0 (.cons (.call 1 (.cons (.v 4) (.cons (.call 0 (.cons (.v 2) (.cons (.call 1 (.cons (.v 3) (.cons (.v 1) .nil)) .nil) .nil)) .nil) .nil)) .nil) (.cons (.v 5) .nil)) .nil)) .nil))
def c_behind_of : List (Str × D) := []
def f_behind_of : Fn := ⟨"behind_of", ["setting", "spot"], [], run ⟨[Ev.F.f_plus_in, Ev.F.f_times_in], c_behind_of⟩ 1000000 6 b_behind_of⟩
@[simp] theorem p_behind_of : f_behind_of.ps.length = 2 := (rfl)
def e_rows_at_1 : E := .tup (.cons (.call 3 (.cons (.v 0) (.cons (.v 5) .nil)) .nil) (.cons (.call 4 (.cons (.v 2) (.cons (.v 4) .nil)) .nil) .nil))
def b_rows_at : Ss := (.cons (.asg (.n 1) (.call 0 (.cons (.v 0) .nil) .nil)) (.cons (.asg (.n 2) (.call 1 (.cons (.ix (.v 0) (.k (.int 2))) (.cons (.v 1) .nil)) .nil)) (.cons (.asg (.n 3) (.call 2 (.cons (.ix (.v 0) (.k (.int 2))) (.cons (.v 1) .nil)) .nil)) (.cons (.ret (.lc (.t (.cons (.n 4) (.cons (.n 5) .nil))) (.enum (.v 3)) (.no) (e_rows_at_1))) .nil))))
def c_rows_at : List (Str × D) := []
def f_rows_at : Fn := ⟨"rows_at", ["setting"], [], run ⟨[Ev.C.f_height_in, Ev.C.f_mean_in, Ev.C.f_points_in, Ev.C.f_behind_of, Ev.C.f_thing_in], c_rows_at⟩ 1000000 6 b_rows_at⟩
@[simp] theorem p_rows_at : f_rows_at.ps.length = 1 := (rfl)
def b_last_of : Ss := (.cons (.ret (.call 0 (.cons (.ix (.v 1) (.k (.int 0))) (.cons (.call 1 (.cons (.ix (.v 0) (.k (.int 1))) (.cons (.tup (.cons (.bin .sub (.ix (.v 1) (.k (.int 1))) (.k (.int 1))) (.cons (.k (.int 1)) .nil))) .nil)) .nil) .nil)) .nil)) .nil)
def c_last_of : List (Str × D) := []
def f_last_of : Fn := ⟨"last_of", ["setting", "row"], [], run ⟨[Ev.F.f_plus_in, Ev.F.f_times_in], c_last_of⟩ 1000000 2 b_last_of⟩
@[simp] theorem p_last_of : f_last_of.ps.length = 2 := (rfl)
def b_sum_of : Ss := (.cons (.ret (.call 0 (.cons (.call 1 (.cons (.ix (.v 1) (.k (.int 0))) (.cons (.call 3 (.cons (.v 0) (.cons (.v 1) .nil)) .nil) .nil)) .nil) (.cons (.call 2 (.cons (.ix (.v 1) (.k (.int 1))) (.cons (.k (.int 2)) .nil)) .nil) .nil)) .nil)) .nil)
def c_sum_of : List (Str × D) := []
def f_sum_of : Fn := ⟨"sum_of", ["setting", "row"], [], run ⟨[Ev.F.f_times_in, Ev.F.f_plus_in, Ev.F.f_made_in, Ev.C.f_last_of], c_sum_of⟩ 1000000 2 b_sum_of⟩
@[simp] theorem p_sum_of : f_sum_of.ps.length = 2 := (rfl)
def b_mean_of_levels_1 : Ss := (.cons (.par [1, 2] [false, false] (.cons (.call 2 (.cons (.v 1) (.cons (.call 3 (.cons (.v 0) (.cons (.v 3) .nil)) .nil) .nil)) .nil) (.cons (.bin .add (.v 2) (.ix (.v 3) (.k (.int 1)))) .nil))) .nil)
def b_mean_of_levels : Ss := (.cons (.par [1, 2] [false, false] (.cons (.g 0) (.cons (.k (.int 0)) .nil))) (.cons (.for_ (.n 3) (.e (.call 0 (.cons (.v 0) .nil) .nil)) b_mean_of_levels_1) (.cons (.ret (.call 1 (.cons (.v 1) (.cons (.tup (.cons (.v 2) (.cons (.k (.int 1)) .nil))) .nil)) .nil)) .nil)))
def c_mean_of_levels : List (Str × D) := [("NONE", .tuple [.int 0, .int 1])]
def f_mean_of_levels : Fn := ⟨"mean_of_levels", ["setting"], [], run ⟨[Ev.C.f_rows_at, Ev.F.f_over_in, Ev.F.f_plus_in, Ev.C.f_sum_of], c_mean_of_levels⟩ 1000000 4 b_mean_of_levels⟩
@[simp] theorem p_mean_of_levels : f_mean_of_levels.ps.length = 1 := (rfl)
@[simp] theorem g_mean_of_levels_0 : c_mean_of_levels[0]? = some (("NONE" : Str), (.tuple [.int 0, .int 1] : D)) := (rfl)
def b_mean_level : Ss := (.cons (.ret (.call 0 (.cons (.call 1 (.cons (.v 0) .nil) .nil) .nil) .nil)) .nil)
def c_mean_level : List (Str × D) := []
def f_mean_level : Fn := ⟨"mean_level", ["setting"], [(0, [0])], run ⟨[Ev.C.f_mean_of_levels, Ev.C.f_check_setting], c_mean_level⟩ 1000000 1 b_mean_level⟩
@[simp] theorem p_mean_level : f_mean_level.ps.length = 1 := (rfl)
def b_u_law_known : Ss := (.cons (.par [2, 3] [false, false] (.cons (.call 5 (.cons (.v 0) .nil) .nil) (.cons (.call 6 (.cons (.v 0) (.cons (.v 1) .nil)) .nil) .nil))) (.cons (.asg (.t (.cons (.n 4) (.cons (.n 5) .nil))) (.call 0 (.cons (.v 2) (.cons (.v 3) .nil)) .nil)) (.cons (.asg (.n 6) (.call 1 (.cons (.v 0) (.cons (.lst (.cons (.tup (.cons (.k (.int 0)) (.cons (.k (.int 1)) .nil))) (.cons (.tup (.cons (.k (.int 1)) (.cons (.k (.int 1)) .nil))) (.cons (.tup (.cons (.k (.int 1)) (.cons (.k (.int 2)) .nil))) (.cons (.tup (.cons (.k (.int 1)) (.cons (.k (.int 7)) .nil))) (.cons (.tup (.cons (.k (.int 5)) (.cons (.k (.int 6)) .nil))) .nil)))))) .nil)) .nil)) (.cons (.asg (.n 7) (.call 2 (.cons (.v 4) (.cons (.call 4 (.cons (.v 6) (.cons (.call 7 (.cons (.v 5) (.cons (.v 4) .nil)) .nil) .nil)) .nil) .nil)) .nil)) (.cons (.asg (.n 8) (.call 3 (.cons (.bin .sub (.call 8 (.cons (.v 0) (.cons (.k (.int 61)) .nil)) .nil) (.k (.int 20))) (.cons (.bin .add (.k (.int 1)) (.call 8 (.cons (.v 0) (.cons (.k (.int 4)) .nil)) .nil)) .nil)) .nil)) (.cons (.asg (.n 9) (.call 3 (.cons (.bin .add (.k (.int 1)) (.call 8 (.cons (.v 0) (.cons (.k (.int 9)) .nil)) .nil)) (.cons (.bin .add (.k (.int 1)) (.call 8 (.cons (.v 0) (.cons (.k (.int 6)) .nil)) .nil)) .nil)) .nil)) (.cons (.asg (.n 10) (.call 4 (.cons (.call 7 (.cons (.tup (.cons (.k (.int 1)) (.cons (.k (.int 1)) .nil))) (.cons (.v 2) .nil)) .nil) (.cons (.v 8) .nil)) .nil)) (.cons (.ret (.tup (.cons (.tup (.cons (.v 8) (.cons (.v 9) (.cons (.v 2) (.cons (.call 7 (.cons (.v 10) (.cons (.call 4 (.cons (.v 7) (.cons (.v 9) .nil)) .nil) .nil)) .nil) .nil))))) (.cons (.v 3) .nil)))) .nil))))))))
def c_u_law_known : List (Str × D) := []
def f_u_law_known : Fn := ⟨"_law_known", ["draws_so", "most_so"], [], run ⟨[Ev.C.f_u_law_ends, Ev.C.f_u_law_of, Ev.F.f_u_law_plus, Ev.L.f_u_law_share, Ev.F.f_u_law_times, Ev.C.f_u_law_cut, Ev.C.f_u_law_pair, Ev.F.f_u_law_minus, Ev.L.f_u_law_draw], c_u_law_known⟩ 1000000 11 b_u_law_known⟩
@[simp] theorem p_u_law_known : f_u_law_known.ps.length = 2 := (rfl)
end Ev.C

end
section
set_option maxHeartbeats 4000000
/-! # EvP0: fractions that are reckoned with by simp alone -/
namespace Ev
open PySem
@[simp] theorem lenOk_0 : lenOk 0 = true := by decide
@[simp] theorem lenOk_1 : lenOk 1 = true := by decide
@[simp] theorem lenOk_2 : lenOk 2 = true := by decide
@[simp] theorem lenOk_3 : lenOk 3 = true := by decide
@[simp] theorem lenOk_4 : lenOk 4 = true := by decide
@[simp] theorem lenOk_5 : lenOk 5 = true := by decide
@[simp] theorem lenOk_6 : lenOk 6 = true := by decide
@[simp] theorem lenOk_7 : lenOk 7 = true := by decide
@[simp] theorem lenOk_8 : lenOk 8 = true := by decide
@[simp] theorem pL_draw : L.f_u_law_draw.ps.length = 2 := (rfl)
@[simp] theorem pL_begin : L.f_u_law_begin.ps.length = 1 := (rfl)
@[simp] theorem pL_like : L.f_u_law_like.ps.length = 2 := (rfl)
@[simp] theorem pL_divisor : L.f_u_law_divisor.ps.length = 2 := (rfl)
@[simp] theorem zero_fr : (PyData.tuple [.int 0, .int 1] : D) = fr 0 := (rfl)
@[simp] theorem one_fr : (PyData.tuple [.int 1, .int 1] : D) = fr 1 := (rfl)
@[simp] theorem fr_inj {p q : Rat} : (fr p = fr q) ↔ p = q := by
  constructor
  · intro h
    have h1 : p.num = q.num ∧ (p.den : Int) = q.den := by simpa [fr] using h
    exact Rat.ext h1.1 (by have := h1.2; omega)
  · rintro rfl; rfl
theorem int_fr (c : Int) : (PyData.tuple [.int c, .int 1] : D) = fr (c : Rat) := by
  unfold fr
  simp
theorem neg_fr (h : Rat) : (PyData.tuple [.int (-h.num), .int (h.den : Int)] : D) = fr (-h) := by
  unfold fr
  simp
/-- small enough, found by simp -/
class QB (n : outParam Nat) (q : Rat) : Prop where
  h : FB n q
theorem FB.pos {n : Nat} {q : Rat} (h : FB n q) : 1 ≤ n := by
  rcases Nat.eq_zero_or_pos n with z | z
  · have := h.b
    rw [z] at this
    unfold Bd at this
    have := q.den_pos
    omega
  · exact z
theorem fb_zero : FB 1 0 := ⟨by unfold Bd; decide, by unfold Bd; decide⟩
theorem fb_one : FB 1 1 := ⟨by unfold Bd; decide, by unfold Bd; decide⟩
theorem FB.neg {n : Nat} {q : Rat} (h : FB n q) : FB n (-q) := ⟨by have := h.a.neg; simpa using this, by have := h.b; simpa using this⟩
theorem FB.div' {n m : Nat} {p q : Rat} (hp : FB n p) (hq : FB m q) : FB (n + m) (p / q) := by
  by_cases h : q = 0
  · subst h
    have e : p / 0 = 0 := by rw [Rat.div_def, Rat.inv_zero, Rat.mul_zero]
    rw [e]
    exact fb_zero.mono (by have := hp.pos; omega)
  · exact hp.div hq h
instance : QB 1 0 := ⟨fb_zero⟩
instance : QB 1 1 := ⟨fb_one⟩
instance QB.add {n m : Nat} {p q : Rat} [a : QB n p] [b : QB m q] : QB (n + m + 1) (p + q) := ⟨a.h.add b.h⟩
instance QB.sub {n m : Nat} {p q : Rat} [a : QB n p] [b : QB m q] : QB (n + m + 1) (p - q) := ⟨a.h.sub b.h⟩
instance QB.mul {n m : Nat} {p q : Rat} [a : QB n p] [b : QB m q] : QB (n + m) (p * q) := ⟨a.h.mul b.h⟩
instance QB.div {n m : Nat} {p q : Rat} [a : QB n p] [b : QB m q] : QB (n + m) (p / q) := ⟨a.h.div' b.h⟩
instance QB.neg {n : Nat} {q : Rat} [a : QB n q] : QB n (-q) := ⟨a.h.neg⟩
theorem fb_int {n : Nat} {c : Int} (h : Bd n c) (l : 1 ≤ n := by decide) : FB n (c : Rat) := by
  refine ⟨by simpa using h, ?_⟩
  have : Bd 1 1 := by unfold Bd; decide
  simpa using this.mono l
section
variable {n m : Nat} {p q : Rat}
@[simp] theorem s_plus [a : QB n p] [b : QB m q] (l : n + m ≤ 800) : F.f_plus_in.m [fr p, fr q] = ret (fr (p + q)) := F.plus a.h b.h l
@[simp] theorem s_minus [a : QB n p] [b : QB m q] (l : n + m ≤ 800) : F.f_minus_in.m [fr p, fr q] = ret (fr (p - q)) := F.minus a.h b.h l
@[simp] theorem s_times [a : QB n p] [b : QB m q] (l : n + m ≤ 800) : F.f_times_in.m [fr p, fr q] = ret (fr (p * q)) := F.times a.h b.h l
@[simp] theorem s_over [a : QB n p] [b : QB m q] (l : n + m ≤ 800) (h : q ≠ 0) : F.f_over_in.m [fr p, fr q] = ret (fr (p / q)) := F.over a.h b.h h l
@[simp] theorem s_less [a : QB n p] [b : QB m q] (l : n + m ≤ 800) : F.f_less_in.m [fr p, fr q] = ret (.bool (decide (p < q))) := F.less a.h b.h l
@[simp] theorem s_lplus [a : QB n p] [b : QB m q] (l : n + m ≤ 800) : F.f_u_law_plus.m [fr p, fr q] = ret (fr (p + q)) := F.lplus a.h b.h l
@[simp] theorem s_lminus [a : QB n p] [b : QB m q] (l : n + m ≤ 800) : F.f_u_law_minus.m [fr p, fr q] = ret (fr (p - q)) := F.lminus a.h b.h l
@[simp] theorem s_ltimes [a : QB n p] [b : QB m q] (l : n + m ≤ 800) : F.f_u_law_times.m [fr p, fr q] = ret (fr (p * q)) := F.ltimes a.h b.h l
@[simp] theorem s_lover [a : QB n p] [b : QB m q] (l : n + m ≤ 800) (h : q ≠ 0) : F.f_u_law_over.m [fr p, fr q] = ret (fr (p / q)) := F.lover a.h b.h h l
@[simp] theorem s_lbelow [a : QB n p] [b : QB m q] (l : n + m ≤ 800) : F.f_u_law_below.m [fr p, fr q] = ret (.bool (decide (p < q))) := F.lbelow a.h b.h l
end
/-! ### order -/
theorem le_int (q : Rat) (c : Int) : q ≤ (c : Rat) ↔ q.num ≤ c * q.den := by
  rw [Rat.le_iff]; simp
theorem int_lt (q : Rat) (c : Int) : (c : Rat) < q ↔ c * q.den < q.num := by
  rw [Rat.lt_iff]; simp
theorem int_le (q : Rat) (c : Int) : (c : Rat) ≤ q ↔ c * q.den ≤ q.num := by
  rw [Rat.le_iff]; simp
theorem lt_int (q : Rat) (c : Int) : q < (c : Rat) ↔ q.num < c * q.den := by
  rw [Rat.lt_iff]; simp
theorem num_pos (q : Rat) : (0 < q.num) = (0 < q) := by
  have := int_lt q 0
  rw [Int.zero_mul] at this
  exact propext this.symm
/-! ### denominators -/
/-- d times q is an integer -/
def Dn (d : Nat) (q : Rat) : Prop := ∃ n : Int, q * (d : Rat) = (n : Rat)
theorem Dn.den (q : Rat) : Dn q.den q := ⟨q.num, by
  have h0 : ((q.den : Nat) : Rat) ≠ 0 := by
    intro z
    have := Rat.natCast_eq_zero_iff.mp z
    have := q.den_pos
    omega
  have e := Rat.num_divInt_den q
  rw [Rat.divInt_eq_div, Rat.intCast_natCast] at e
  have := Rat.div_mul_cancel (a := (q.num : Rat)) h0
  rw [e] at this
  exact this⟩
theorem Dn.add {d : Nat} {p q : Rat} (a : Dn d p) (b : Dn d q) : Dn d (p + q) := by
  obtain ⟨n, hn⟩ := a
  obtain ⟨m, hm⟩ := b
  exact ⟨n + m, by rw [Rat.intCast_add]; grind⟩
theorem Dn.sub {d : Nat} {p q : Rat} (a : Dn d p) (b : Dn d q) : Dn d (p - q) := by
  obtain ⟨n, hn⟩ := a
  obtain ⟨m, hm⟩ := b
  exact ⟨n - m, by rw [Rat.intCast_sub]; grind⟩
theorem Dn.neg {d : Nat} {p : Rat} (a : Dn d p) : Dn d (-p) := by
  obtain ⟨n, hn⟩ := a
  exact ⟨-n, by rw [Rat.intCast_neg]; grind⟩
theorem Dn.mul {d e : Nat} {p q : Rat} (a : Dn d p) (b : Dn e q) : Dn (d * e) (p * q) := by
  obtain ⟨n, hn⟩ := a
  obtain ⟨m, hm⟩ := b
  exact ⟨n * m, by rw [Rat.natCast_mul, Rat.intCast_mul]; grind⟩
theorem Dn.up {d : Nat} {p : Rat} (a : Dn d p) (e : Nat) : Dn (d * e) p := by
  obtain ⟨n, hn⟩ := a
  exact ⟨n * e, by rw [Rat.natCast_mul, Rat.intCast_mul, Rat.intCast_natCast]; grind⟩
theorem Dn.up' {d : Nat} {p : Rat} (a : Dn d p) (e : Nat) : Dn (e * d) p := by
  rw [Nat.mul_comm]; exact a.up e
theorem Dn.dvd {d e : Nat} {p : Rat} (a : Dn d p) (h : d ∣ e) : Dn e p := by
  obtain ⟨c, rfl⟩ := h
  exact a.up c
theorem Dn.int (d : Nat) (c : Int) : Dn d (c : Rat) := ⟨c * d, by rw [Rat.intCast_mul, Rat.intCast_natCast]⟩
theorem Dn.share {a : Int} {b : Nat} (hb : 0 < b) : Dn b (Rat.divInt a b) := ⟨a, by
  have h0 : ((b : Nat) : Rat) ≠ 0 := by
    intro z
    have := Rat.natCast_eq_zero_iff.mp z
    omega
  rw [Rat.divInt_eq_div, Rat.intCast_natCast]
  grind⟩
theorem Dn.le {d : Nat} {q : Rat} (hd : 0 < d) (a : Dn d q) : q.den ≤ d := by
  obtain ⟨n, hn⟩ := a
  have h0 : (d : Rat) ≠ 0 := by
    intro z
    have := Rat.natCast_eq_zero_iff.mp z
    omega
  have e : q = Rat.divInt n d := by
    rw [Rat.divInt_eq_div, Rat.intCast_natCast]
    grind
  rw [e, Rat.den_divInt, if_neg (by omega)]
  exact Nat.div_le_self _ _
theorem FB.of_den {a b : Nat} {q : Rat} {M : Nat} (h : q.den < 10 ^ a) (lo : -(M : Rat) ≤ q) (hi : q ≤ (M : Rat)) (hM : M ≤ 10 ^ b) : FB (a + b) q := by
  have d := q.den_pos
  have h1 : q.num ≤ (M : Int) * q.den := by
    have := (le_int q (M : Int)).mp (by rw [Rat.intCast_natCast]; exact hi)
    exact this
  have h2 : -(M : Int) * q.den ≤ q.num := by
    have := (int_le q (-(M : Int))).mp (by rw [Rat.intCast_neg, Rat.intCast_natCast]; exact lo)
    exact this
  have h3 : q.num.natAbs ≤ M * q.den := by
    rw [Int.neg_mul] at h2
    have e : ((M * q.den : Nat) : Int) = (M : Int) * q.den := by push_cast; rfl
    omega
  have p0 : 0 < 10 ^ b := Nat.pow_pos (by decide)
  have h4 : M * q.den < 10 ^ (a + b) := by
    rw [Nat.pow_add, Nat.mul_comm]
    calc q.den * M ≤ q.den * 10 ^ b := Nat.mul_le_mul_left _ hM
      _ < 10 ^ a * 10 ^ b := Nat.mul_lt_mul_of_pos_right h p0
  refine ⟨Nat.lt_of_le_of_lt h3 h4, ?_⟩
  show ((q.den : Nat) : Int).natAbs < _
  rw [Int.natAbs_natCast]
  refine Nat.lt_of_lt_of_le h ?_
  rw [Nat.pow_add]
  exact Nat.le_mul_of_pos_right _ p0
end Ev

end
section
set_option maxHeartbeats 4000000
/-! # EvP1: the package's checks -/
namespace Ev.C
open PySem
@[simp] theorem ev_isfrom (v lo hi : Int) : f_is_from.m [.int v, .int lo, .int hi] = ret (.bool (decide (lo ≤ v) && decide (v ≤ hi))) := by
  by_cases h1 : lo ≤ v
  · simp [f_is_from, b_is_from, run, h1]
  · simp [f_is_from, b_is_from, run, h1]
/-- of at most thirty digits -/
class FM (q : Rat) : Prop where
  a : -1000000000000000000000000000000 ≤ q.num
  b : q.num ≤ 1000000000000000000000000000000
  c : (q.den : Int) ≤ 1000000000000000000000000000000
theorem FM.fb {q : Rat} (h : FM q) : FB 31 q := ⟨Bd.of (by have := h.a; omega) (by have := h.b; omega), Bd.of (by have := q.den_pos; omega) (by have := h.c; omega)⟩
instance (priority := low) FM.qb {q : Rat} [h : FM q] : QB 31 q := ⟨h.fb⟩
instance : FM 0 := ⟨by decide, by decide, by decide⟩
instance : FM 1 := ⟨by decide, by decide, by decide⟩
theorem FM.of {n : Nat} {q : Rat} (h : FB n q) (l : n ≤ 30 := by decide) : FM q := by
  have a := (h.a.mono l).lt
  have b := (h.b.mono l).lt
  rw [show (10 : Int) ^ 30 = 1000000000000000000000000000000 from rfl] at a b
  exact ⟨by omega, by omega, by omega⟩
theorem FM.neg {q : Rat} (h : FM q) : FM (-q) := ⟨by have := h.b; simp; omega, by have := h.a; simp; omega, by have := h.c; simpa using this⟩
@[simp] theorem ev_isfrac {q : Rat} [h : FM q] : f_is_fraction.m [fr q] = ret (.bool true) := by
  have d : (1 : Int) ≤ q.den := by have := q.den_pos; omega
  have g : Nat.gcd q.num.natAbs q.den = 1 := q.reduced
  simp [f_is_fraction, b_is_fraction, run, fr, ev_isfrom, h.a, h.b, h.c, d, g]
@[simp] theorem ev_checkfrac {q : Rat} [h : FM q] : f_check_fraction.m [fr q] = ret (fr q) := by
  simp [f_check_fraction, b_check_fraction, run]
class PartOk (q : Rat) : Prop where
  fm : FM q
  p0 : 0 < q
  p1 : q < 1
  pd : (q.den : Int) ≤ 1000
instance PartOk.fm' {q : Rat} [h : PartOk q] : FM q := h.fm
@[simp] theorem ev_ispart {q : Rat} [h : PartOk q] : f_is_part.m [fr q] = ret (.bool true) := by
  simp [f_is_part, b_is_part, run, h.p0, h.p1, h.pd]
@[simp] theorem ev_checkpart {q : Rat} [h : PartOk q] : f_check_part.m [fr q] = ret (fr q) := by
  simp [f_check_part, b_check_part, run]
class SpotOk (q : Rat) : Prop where
  fm : FM q
  s0 : 0 < q
  s1 : q ≤ 1
instance SpotOk.fm' {q : Rat} [h : SpotOk q] : FM q := h.fm
instance : SpotOk 1 := ⟨inferInstance, by decide, by decide⟩
@[simp] theorem ev_isspot {q : Rat} [h : SpotOk q] : f_is_spot.m [fr q] = ret (.bool true) := by
  have n1 : ¬ (1 < q) := Rat.not_lt.mpr h.s1
  simp [f_is_spot, b_is_spot, run, h.s0, n1]
@[simp] theorem ev_checkspot {q : Rat} [h : SpotOk q] : f_check_spot.m [fr q] = ret (fr q) := by
  simp [f_check_spot, b_check_spot, run]
class HeightOk (p : Rat) (q : Rat) : Prop where
  fm : FM q
  le : p ≤ q
@[simp] theorem ev_checkheight {p q : Rat} [hp : FM p] [h : HeightOk p q] : f_check_height.m [fr p, fr q] = ret (fr q) := by
  have := h.fm
  have n1 : ¬ (q < p) := Rat.not_lt.mpr h.le
  simp [f_check_height, b_check_height, run, n1]
@[simp] theorem ev_checkplace {p h s : Rat} [PartOk p] [HeightOk p h] [SpotOk s] : f_check_place.m [fr p, fr h, fr s] = ret .none := by
  simp [f_check_place, b_check_place, run]
theorem ev_checkmany {n : Nat} (h : n ≤ 1000) : f_check_many.m [.int n] = ret (.int n) := by
  have : (n : Int) ≤ 1000 := by omega
  simp [f_check_many, b_check_many, run, this]
theorem ev_checkrun {n : Nat} (h : n ≤ 1000) : f_check_run.m [.int n] = ret (.int n) := by
  have : (n : Int) ≤ 1000 := by omega
  simp [f_check_run, b_check_run, run, this]
/-! ### settings -/
def st (l s p k : Rat) : D := .tuple [fr l, fr s, fr p, fr k]
theorem st_eq (l s p k : Rat) : (.tuple [fr l, fr s, fr p, fr k] : D) = st l s p k := rfl
@[simp] theorem st_0 {l s p k : Rat} : ixD (st l s p k) (.int 0) = some (fr l) := (rfl)
@[simp] theorem st_1 {l s p k : Rat} : ixD (st l s p k) (.int 1) = some (fr s) := (rfl)
@[simp] theorem st_2 {l s p k : Rat} : ixD (st l s p k) (.int 2) = some (fr p) := (rfl)
@[simp] theorem st_3 {l s p k : Rat} : ixD (st l s p k) (.int 3) = some (fr k) := (rfl)
@[simp] theorem st_asg {l s p k : Rat} {ts : Tgs} {env : Env} : asgT (.t ts) (st l s p k) env = asgTs ts [fr l, fr s, fr p, fr k] env := by simp [st]
@[simp] theorem st_isi {l s p k : Rat} : isiD .tuple (st l s p k) = some true := (rfl)
@[simp] theorem st_len {l s p k : Rat} : biD .len [st l s p k] = some (.int 4) := (rfl)
@[simp] theorem st_none {l s p k : Rat} : isNone (st l s p k) = false := (rfl)
class SetOk (l s p k : Rat) : Prop where
  fl : FM l
  fs : FM s
  fp : PartOk p
  fk : FM k
  s0 : 0 < s
  kept : p * (l + s) + k ≤ l
section
variable {l s p k : Rat}
@[simp] theorem ev_cutin {n : Nat} {x : Rat} [SetOk l s p k] [QB n x] (h : n ≤ 600) : f_cut_in.m [st l s p k, fr x] = ret (fr (p * x + k)) := by
  have h' : SetOk l s p k := inferInstance
  have := h'.fl; have := h'.fs; have := h'.fp; have := h'.fk
  have a1 : 31 + n ≤ 800 := by omega
  have a2 : 31 + n + 31 ≤ 800 := by omega
  simp [f_cut_in, b_cut_in, run, a1, a2]
@[simp] theorem ev_iskept [SetOk l s p k] : f_is_level_kept.m [st l s p k] = ret (.bool true) := by
  have h' : SetOk l s p k := inferInstance
  have := h'.fl; have := h'.fs; have := h'.fp; have := h'.fk
  have n1 : ¬ (l < p * (l + s) + k) := Rat.not_lt.mpr h'.kept
  simp [f_is_level_kept, b_is_level_kept, run, n1]
@[simp] theorem ev_wrong [SetOk l s p k] : f_wrong_place.m [st l s p k] = ret .none := by
  have h' : SetOk l s p k := inferInstance
  have := h'.fl; have := h'.fs; have := h'.fp; have := h'.fk
  simp [f_wrong_place, b_wrong_place, run, h'.s0]
@[simp] theorem ev_checkset [SetOk l s p k] : f_check_setting.m [st l s p k] = ret (st l s p k) := by
  simp [f_check_setting, b_check_setting, run]
@[simp] theorem ev_needset [SetOk l s p k] : f_need_setting.m [st l s p k] = ret (st l s p k) := by
  simp [f_need_setting, b_need_setting, run]
theorem ne_of_pos {q : Rat} (h : 0 < q) : q ≠ 0 := by
  intro z
  rw [z] at h
  exact Rat.lt_irrefl h
def hgt (l s p k : Rat) : Rat := ((1 - p) * l - k) / s
@[simp] theorem ev_heightin [SetOk l s p k] : f_height_in.m [st l s p k] = ret (fr (hgt l s p k)) := by
  have h' : SetOk l s p k := inferInstance
  have := h'.fl; have := h'.fs; have := h'.fp; have := h'.fk
  have n0 := ne_of_pos h'.s0
  simp [f_height_in, b_height_in, run, n0, hgt]
@[simp] theorem ev_heightof [SetOk l s p k] : f_height_of.m [st l s p k] = ret (fr (hgt l s p k)) := by
  simp [f_height_of, b_height_of, run]
@[simp] theorem ev_spotin {n : Nat} {x : Rat} [SetOk l s p k] [QB n x] (h : n ≤ 600) : f_spot_in.m [st l s p k, fr x] = ret (fr ((x - l) / s)) := by
  have h' : SetOk l s p k := inferInstance
  have := h'.fl; have := h'.fs; have := h'.fp; have := h'.fk
  have n0 := ne_of_pos h'.s0
  have a1 : n + 31 ≤ 800 := by omega
  have a2 : n + 31 + 1 + 31 ≤ 800 := by omega
  simp [f_spot_in, b_spot_in, run, n0, a1, a2]
theorem ev_checkstart {x : Rat} [SetOk l s p k] [FM x] (h : x ≤ l) : f_check_start.m [st l s p k, fr x] = ret (fr x) := by
  have h' : SetOk l s p k := inferInstance
  have := h'.fl
  have n1 : ¬ (l < x) := Rat.not_lt.mpr h
  simp [f_check_start, b_check_start, run, n1]
theorem ev_checkasked {x : Rat} {n : Nat} [SetOk l s p k] [FM x] (h : x ≤ l) (hn : n ≤ 1000) : f_check_asked.m [st l s p k, fr x, .int n] = ret .none := by
  simp [f_check_asked, b_check_asked, run, ev_checkstart h, ev_checkrun hn]
/-! ### ticks -/
def tk (l s p k x : Rat) : Rat := if l < x + s then p * (x + s) + k else x + s
@[simp] theorem ev_tickin {n : Nat} {x : Rat} [SetOk l s p k] [QB n x] (h : n ≤ 500) : f_tick_in.m [st l s p k, fr x] = ret (.tuple [fr (tk l s p k x), .bool (decide (l < x + s))]) := by
  have h' : SetOk l s p k := inferInstance
  have := h'.fl; have := h'.fs; have := h'.fp; have := h'.fk
  have a1 : n + 31 ≤ 800 := by omega
  have a2 : 31 + (n + 31 + 1) ≤ 800 := by omega
  have a3 : n + 31 + 1 ≤ 600 := by omega
  have l2 : lenOk 2 = true := by decide
  by_cases c : l < x + s
  · simp [f_tick_in, b_tick_in, run, a1, a2, a3, c, tk, l2]
  · simp [f_tick_in, b_tick_in, run, a1, a2, a3, c, tk, l2]
theorem ev_tick {x : Rat} [SetOk l s p k] [FM x] (h : x ≤ l) : f_tick.m [st l s p k, fr x] = ret (.tuple [fr (tk l s p k x), .bool (decide (l < x + s))]) := by
  simp [f_tick, b_tick, run, ev_checkstart h]
theorem ev_ltick {n : Nat} {x : Rat} [SetOk l s p k] [QB n x] (h : n ≤ 500) : f_u_law_tick.m [st l s p k, fr x] = ret (.tuple [fr (tk l s p k x), if l < x + s then fr (x + s) else .none]) := by
  have h' : SetOk l s p k := inferInstance
  have := h'.fl; have := h'.fs; have := h'.fp; have := h'.fk
  have a1 : n + 31 ≤ 800 := by omega
  have a2 : 31 + (n + 31 + 1) ≤ 800 := by omega
  have a3 : 31 + (n + 31 + 1) + 31 ≤ 800 := by omega
  have l2 : lenOk 2 = true := by decide
  by_cases c : l < x + s
  · simp [f_u_law_tick, b_u_law_tick, run, a1, a2, a3, c, tk, l2]
  · simp [f_u_law_tick, b_u_law_tick, run, a1, a2, a3, c, tk, l2]
end
end Ev.C

end
section
set_option maxHeartbeats 4000000
/-! # EvP2: what the laws draw -/
namespace Ev
open PySem
section
variable {a b c : Int}
theorem cpos (hb : 0 < b) : (0 : Rat) < (b : Rat) := by
  have := Rat.intCast_lt_intCast.mpr hb
  simpa using this
theorem sh_lt (hb : 0 < b) : Rat.divInt a b < (c : Rat) ↔ a < c * b := by
  rw [Rat.divInt_eq_div, Rat.div_lt_iff (cpos hb), ← Rat.intCast_mul, Rat.intCast_lt_intCast]
theorem lt_sh (hb : 0 < b) : (c : Rat) < Rat.divInt a b ↔ c * b < a := by
  rw [Rat.divInt_eq_div, Rat.lt_div_iff (cpos hb), ← Rat.intCast_mul, Rat.intCast_lt_intCast]
theorem sh_le (hb : 0 < b) : Rat.divInt a b ≤ (c : Rat) ↔ a ≤ c * b := by
  rw [← Rat.not_lt, lt_sh hb]
  omega
theorem le_sh (hb : 0 < b) : (c : Rat) ≤ Rat.divInt a b ↔ c * b ≤ a := by
  rw [← Rat.not_lt, sh_lt hb]
  omega
end
/-- a fraction by its two numbers -/
theorem sh_fb {a b : Int} {n : Nat} (hb : 0 < b) (h1 : Bd n a) (h2 : Bd n b) : FB n (Rat.divInt a b) := FB.mk' h1 h2 (by omega)
theorem bd_lit {n : Nat} {a : Int} {m : Nat} (h1 : -(m : Int) ≤ a) (h2 : a ≤ m) (l : m < 10 ^ n := by decide) : Bd n a := by
  unfold Bd
  omega
theorem sh_den {a : Int} {b : Nat} (hb : 0 < b) : (Rat.divInt a b).den ≤ b := Dn.le hb (Dn.share hb)
theorem s_share {a b : Int} {n : Nat} (hb : 0 < b) (h : Bd n b) (l : n ≤ 900 := by decide) : L.f_u_law_share.m [.int a, .int b] = ret (fr (Rat.divInt a b)) := F.share (by omega) (h.mono l)
namespace C
section
variable {B : Nat} {ds : Option DS} {Q : D → Option DS → Prop}
/-- a part that is drawn -/
structure Cut (p : Rat) : Prop where
  ok : PartOk p
  d : p.den ≤ 8
  fb : FB 1 p
theorem ev_lcut (h : DrB (B + 2) ds) (k : ∀ p ds', Cut p → DrB B ds' → Q (fr p) ds') : wpR (f_u_law_cut.m [.dict []] ds) Q := by
  simp [f_u_law_cut, b_u_law_cut, run]
  rw [wp_bnd]
  refine L.drawN (b := B + 1) h (by omega) (by omega) ?_
  intro v d1 hv h1
  simp
  rw [wp_bnd]
  refine L.drawN (b := B) h1 (by omega) (by omega) ?_
  intro w d2 hw h2
  have e := s_share (a := 1 + (w : Int)) (b := 2 + (v : Int)) (n := 1) (by omega) (bd_lit (m := 8) (by omega) (by omega))
  simp [e]
  have p0 : ((0 : Int) : Rat) < Rat.divInt (1 + (w : Int)) (2 + (v : Int)) := (lt_sh (by omega)).mpr (by omega)
  have p1 : Rat.divInt (1 + (w : Int)) (2 + (v : Int)) < ((1 : Int) : Rat) := (sh_lt (by omega)).mpr (by omega)
  have fb : FB 1 (Rat.divInt (1 + (w : Int)) (2 + (v : Int))) := sh_fb (by omega) (bd_lit (m := 8) (by omega) (by omega)) (bd_lit (m := 8) (by omega) (by omega))
  have dn := sh_den (a := 1 + (w : Int)) (b := 2 + v) (by omega)
  rw [show ((2 + v : Nat) : Int) = 2 + (v : Int) by push_cast; rfl] at dn
  exact k _ _ ⟨⟨FM.of fb, by simpa using p0, by simpa using p1, by omega⟩, by omega, fb⟩ h2
/-- a height that is drawn -/
structure Lot (p h : Rat) : Prop where
  ok : HeightOk p h
  hi : h ≤ 9
  d : h.den ≤ 96
  fb : FB 5 h
  sh : ∃ x : Rat, x.den ≤ 12 ∧ 0 ≤ x ∧ (h = x ∨ (x < p ∧ h = x + p))
theorem ev_llot {p : Rat} (hp : Cut p) (h : DrB (B + 2) ds) (k : ∀ x ds', Lot p x → DrB B ds' → Q (fr x) ds') : wpR (f_u_law_lot.m [.dict [], fr p] ds) Q := by
  simp [f_u_law_lot, b_u_law_lot, run]
  rw [wp_bnd]
  refine L.drawN (b := B + 1) h (by omega) (by omega) ?_
  intro v d1 hv h1
  have m8 : mulOk 8 (1 + (v : Int)) = true := mulOk_l (by decide)
  simp [m8]
  rw [wp_bnd]
  refine L.drawN (b := B) h1 (by omega) (by omega) ?_
  intro w d2 hw h2
  have e := s_share (a := (w : Int)) (b := 1 + (v : Int)) (n := 2) (by omega) (bd_lit (m := 12) (by omega) (by omega))
  have := hp.ok
  have hx0 : ((0 : Int) : Rat) ≤ Rat.divInt (w : Int) (1 + (v : Int)) := (le_sh (by omega)).mpr (by omega)
  have hx1 : Rat.divInt (w : Int) (1 + (v : Int)) ≤ ((8 : Int) : Rat) := (sh_le (by omega)).mpr (by omega)
  have fb : FB 2 (Rat.divInt (w : Int) (1 + (v : Int))) := sh_fb (by omega) (bd_lit (m := 99) (by omega) (by omega)) (bd_lit (m := 99) (by omega) (by omega))
  have dn := sh_den (a := (w : Int)) (b := 1 + v) (by omega)
  have dsh := Dn.share (a := (w : Int)) (b := 1 + v) (by omega)
  rw [show ((1 + v : Nat) : Int) = 1 + (v : Int) by push_cast; rfl] at dn dsh
  generalize Rat.divInt (w : Int) (1 + (v : Int)) = x at *
  have q1 : QB 2 x := ⟨fb⟩
  simp [e]
  by_cases c : x < p
  · have fs := fb.add hp.fb
    have dd : (x + p).den ≤ (1 + v) * p.den := Dn.le (Nat.mul_pos (by omega) p.den_pos) ((dsh.up p.den).add ((Dn.den p).up' (1 + v)))
    have dl : (1 + v) * p.den ≤ 12 * 8 := Nat.mul_le_mul (by omega) hp.d
    simp [c]
    have p1 := hp.ok.p1
    have hx1' : x ≤ 8 := by simpa using hx1
    have hx0' : 0 ≤ x := by simpa using hx0
    exact k _ _ ⟨⟨FM.of fs, by grind⟩, by grind, by omega, fs.mono (by decide), ⟨x, by omega, hx0', .inr ⟨c, rfl⟩⟩⟩ h2
  · simp [c]
    have hx1' : x ≤ 8 := by simpa using hx1
    have hx0' : 0 ≤ x := by simpa using hx0
    exact k _ _ ⟨⟨FM.of fb, Rat.not_lt.mp c⟩, by grind, by omega, fb.mono (by decide), ⟨x, by omega, hx0', .inl rfl⟩⟩ h2
/-- a spot that is drawn -/
structure Spt (s : Rat) : Prop where
  ok : SpotOk s
  d : s.den ≤ 30
  fb : FB 2 s
theorem ev_lspot (h : DrB (B + 2) ds) (k : ∀ x ds', Spt x → DrB B ds' → Q (fr x) ds') : wpR (f_u_law_spot.m [.dict []] ds) Q := by
  simp [f_u_law_spot, b_u_law_spot, run]
  rw [wp_bnd]
  refine L.drawN (b := B + 1) h (by omega) (by omega) ?_
  intro v d1 hv h1
  simp
  rw [wp_bnd]
  refine L.drawN (b := B) h1 (by omega) (by omega) ?_
  intro w d2 hw h2
  have e := s_share (a := 1 + (w : Int)) (b := 1 + (v : Int)) (n := 2) (by omega) (bd_lit (m := 30) (by omega) (by omega))
  simp [e]
  have p0 : ((0 : Int) : Rat) < Rat.divInt (1 + (w : Int)) (1 + (v : Int)) := (lt_sh (by omega)).mpr (by omega)
  have p1 : Rat.divInt (1 + (w : Int)) (1 + (v : Int)) ≤ ((1 : Int) : Rat) := (sh_le (by omega)).mpr (by omega)
  have fb : FB 2 (Rat.divInt (1 + (w : Int)) (1 + (v : Int))) := sh_fb (by omega) (bd_lit (m := 30) (by omega) (by omega)) (bd_lit (m := 30) (by omega) (by omega))
  have dn := sh_den (a := 1 + (w : Int)) (b := 1 + v) (by omega)
  rw [show ((1 + v : Nat) : Int) = 1 + (v : Int) by push_cast; rfl] at dn
  exact k _ _ ⟨⟨FM.of fb, by simpa using p0, by simpa using p1⟩, by omega, fb⟩ h2
/-- a setting that is drawn -/
structure Rul (l s p k : Rat) : Prop where
  ok : SetOk l s p k
  cut : Cut p
  lot : Lot p (hgt l s p k)
  lb : FB 2 l
  sb : FB 1 s
  kb : FB 12 k
  l0 : -20 ≤ l
  l1 : l ≤ 40
  ld : l.den ≤ 5
  s1 : s ≤ 9
  sd : s.den ≤ 6
  eqk : k = (1 - p) * l - hgt l s p k * s
theorem ev_lrule (h : DrB (B + 8) ds) (k : ∀ l s p k ds', Rul l s p k → DrB B ds' → Q (st l s p k) ds') : wpR (f_u_law_rule.m [.dict []] ds) Q := by
  simp [f_u_law_rule, b_u_law_rule, run]
  rw [wp_bnd]
  refine ev_lcut (B := B + 6) h ?_
  intro p d1 hp h1
  try simp
  rw [wp_bnd]
  refine L.drawN (b := B + 5) h1 (by omega) (by omega) ?_
  intro v1 d2 u1 h2
  try simp
  rw [wp_bnd]
  refine L.drawN (b := B + 4) h2 (by omega) (by omega) ?_
  intro v2 d3 u2 h3
  have e1 := s_share (a := (v1 : Int) - 20) (b := 1 + (v2 : Int)) (n := 1) (by omega) (bd_lit (m := 4) (by omega) (by omega))
  simp [e1]
  rw [wp_bnd]
  refine L.drawN (b := B + 3) h3 (by omega) (by omega) ?_
  intro v3 d4 u3 h4
  simp
  rw [wp_bnd]
  refine L.drawN (b := B + 2) h4 (by omega) (by omega) ?_
  intro v4 d5 u4 h5
  have e2 := s_share (a := 1 + (v3 : Int)) (b := 1 + (v4 : Int)) (n := 1) (by omega) (bd_lit (m := 6) (by omega) (by omega))
  simp [e2]
  rw [wp_bnd]
  refine ev_llot hp (B := B) h5 ?_
  intro x d6 hx h6
  have l0 : ((-20 : Int) : Rat) ≤ Rat.divInt ((v1 : Int) - 20) (1 + (v2 : Int)) := (le_sh (by omega)).mpr (by omega)
  have l1 : Rat.divInt ((v1 : Int) - 20) (1 + (v2 : Int)) ≤ ((40 : Int) : Rat) := (sh_le (by omega)).mpr (by omega)
  have lb : FB 2 (Rat.divInt ((v1 : Int) - 20) (1 + (v2 : Int))) := sh_fb (by omega) (bd_lit (m := 40) (by omega) (by omega)) (bd_lit (m := 40) (by omega) (by omega))
  have ld := sh_den (a := (v1 : Int) - 20) (b := 1 + v2) (by omega)
  rw [show ((1 + v2 : Nat) : Int) = 1 + (v2 : Int) by push_cast; rfl] at ld
  have s0 : ((0 : Int) : Rat) < Rat.divInt (1 + (v3 : Int)) (1 + (v4 : Int)) := (lt_sh (by omega)).mpr (by omega)
  have s1 : Rat.divInt (1 + (v3 : Int)) (1 + (v4 : Int)) ≤ ((9 : Int) : Rat) := (sh_le (by omega)).mpr (by omega)
  have sb : FB 1 (Rat.divInt (1 + (v3 : Int)) (1 + (v4 : Int))) := sh_fb (by omega) (bd_lit (m := 9) (by omega) (by omega)) (bd_lit (m := 9) (by omega) (by omega))
  have sd := sh_den (a := 1 + (v3 : Int)) (b := 1 + v4) (by omega)
  rw [show ((1 + v4 : Nat) : Int) = 1 + (v4 : Int) by push_cast; rfl] at sd
  generalize Rat.divInt ((v1 : Int) - 20) (1 + (v2 : Int)) = l at *
  generalize Rat.divInt (1 + (v3 : Int)) (1 + (v4 : Int)) = s at *
  have := hp.ok
  have q1 : QB 2 l := ⟨lb⟩
  have q2 : QB 1 s := ⟨sb⟩
  have q3 : QB 5 x := ⟨hx.fb⟩
  have q4 : QB 1 p := ⟨hp.fb⟩
  have s0' : 0 < s := by simpa using s0
  have sn : s ≠ 0 := ne_of_pos s0'
  have l4 : lenOk 4 = true := by decide
  simp [l4, st_eq]
  have kb := ((fb_one.sub hp.fb).mul lb).sub (hx.fb.mul sb)
  have eh : hgt l s p ((1 - p) * l - x * s) = x := by
    unfold hgt
    have : (1 - p) * l - ((1 - p) * l - x * s) = x * s := by grind
    rw [this, Rat.mul_div_cancel sn]
  refine k _ _ _ _ _ ⟨⟨FM.of lb, FM.of sb, hp.ok, FM.of kb, s0', ?_⟩, hp, by rw [eh]; exact hx, lb, sb, kb, by simpa using l0, by simpa using l1, by omega, by simpa using s1, by omega, by rw [eh]⟩ h6
  have := hx.ok.le
  have := Rat.mul_le_mul_of_nonneg_right this (Rat.le_of_lt s0')
  grind
/-- a start that is drawn -/
structure Fst (l s x : Rat) : Prop where
  le : x ≤ l
  lo : l - 360 ≤ x
  lo2 : l - 40 * s ≤ x
  fb : FB 8 x
  d : x.den ≤ 240
  dn : Dn (l.den * (60 * s.den)) x
theorem ev_lfirst {l s p kp : Rat} (hr : Rul l s p kp) (h : DrB (B + 3) ds) (k : ∀ x ds', Fst l s x → DrB B ds' → Q (fr x) ds') : wpR (f_u_law_first.m [.dict [], st l s p kp] ds) Q := by
  simp [f_u_law_first, b_u_law_first, run]
  rw [wp_bnd]
  refine L.drawN (b := B + 2) h (by omega) (by omega) ?_
  intro v1 d2 u1 h2
  try simp
  rw [wp_bnd]
  refine L.drawN (b := B + 1) h2 (by omega) (by omega) ?_
  intro v2 d3 u2 h3
  have e1 := s_share (a := (v1 : Int)) (b := 1 + (v2 : Int)) (n := 1) (by omega) (bd_lit (m := 5) (by omega) (by omega))
  simp [e1]
  rw [wp_bnd]
  refine L.drawN (b := B) h3 (by omega) (by omega) ?_
  intro v3 d4 u3 h4
  have f0 : ((0 : Int) : Rat) ≤ Rat.divInt (v1 : Int) (1 + (v2 : Int)) := (le_sh (by omega)).mpr (by omega)
  have f1 : Rat.divInt (v1 : Int) (1 + (v2 : Int)) ≤ ((40 : Int) : Rat) := (sh_le (by omega)).mpr (by omega)
  have fb : FB 2 (Rat.divInt (v1 : Int) (1 + (v2 : Int))) := sh_fb (by omega) (bd_lit (m := 40) (by omega) (by omega)) (bd_lit (m := 40) (by omega) (by omega))
  have fd := Dn.share (a := (v1 : Int)) (b := 1 + v2) (by omega)
  have fd60 : Dn 60 (Rat.divInt (v1 : Int) ((1 + v2 : Nat) : Int)) := fd.dvd (by
    have : v2 = 0 ∨ v2 = 1 ∨ v2 = 2 ∨ v2 = 3 ∨ v2 = 4 := by omega
    rcases this with z | z | z | z | z <;> subst z <;> decide)
  rw [show ((1 + v2 : Nat) : Int) = 1 + (v2 : Int) by push_cast; rfl] at fd60
  have ddl : (Rat.divInt (v1 : Int) (1 + (v2 : Int))).den ≤ 5 := by
    have := sh_den (a := (v1 : Int)) (b := 1 + v2) (by omega)
    rw [show ((1 + v2 : Nat) : Int) = 1 + (v2 : Int) by push_cast; rfl] at this
    omega
  generalize Rat.divInt (v1 : Int) (1 + (v2 : Int)) = f at *
  have f0' : 0 ≤ f := by simpa using f0
  have f1' : f ≤ 40 := by simpa using f1
  have q1 : QB 2 l := ⟨hr.lb⟩
  have q2 : QB 1 s := ⟨hr.sb⟩
  have q3 : QB 2 f := ⟨fb⟩
  have s0 := hr.ok.s0
  have ld := hr.ld
  have sd := hr.sd
  have dl : Dn (l.den * (60 * s.den)) l := (Dn.den l).up _
  by_cases c : v3 = 0
  · subst c
    simp
    exact k _ _ ⟨Rat.le_refl, by grind, by grind, hr.lb.mono (by decide), by omega, dl⟩ h4
  · have c' : ¬ ((v3 : Int) = 0) := by omega
    simp [c, c']
    have m1 : 0 ≤ f * s := Rat.mul_nonneg f0' (Rat.le_of_lt s0)
    have m2 : f * s ≤ 40 * s := Rat.mul_le_mul_of_nonneg_right f1' (Rat.le_of_lt s0)
    have s1 := hr.s1
    have df : Dn (f.den * s.den) (f * s) := (Dn.den f).mul (Dn.den s)
    have dx : (l - f * s).den ≤ l.den * (f.den * s.den) := Dn.le (Nat.mul_pos l.den_pos (Nat.mul_pos f.den_pos s.den_pos)) (((Dn.den l).up _).sub (df.up' _))
    have dl2 : l.den * (f.den * s.den) ≤ 5 * (5 * 6) := Nat.mul_le_mul ld (Nat.mul_le_mul ddl sd)
    exact k _ _ ⟨by grind, by grind, by grind, (hr.lb.sub (fb.mul hr.sb)).mono (by decide), by omega, dl.sub ((fd60.mul (Dn.den s)).up' _)⟩ h4
end
end C
end Ev

end
section
set_option maxHeartbeats 4000000
/-! # EvP3: runs of ticks -/
namespace Ev.C
open PySem
section
variable (l s p k x : Rat)
/-- the level behind so many ticks -/
def lv : Nat → Rat
  | 0 => x
  | n + 1 => tk l s p k (lv n)
/-- the numbers of the ticks that are cut -/
def ctl (n : Nat) : List Int := ((List.range n).filter fun i => decide (l < lv l s p k x i + s)).map fun i : Nat => (i : Int) + 1
def lvl (n : Nat) : List Rat := (List.range n).map fun i => lv l s p k x (i + 1)
end
section
variable {l s p k x : Rat}
theorem ctl_succ (n : Nat) : ctl l s p k x (n + 1) = ctl l s p k x n ++ (if l < lv l s p k x n + s then [(n : Int) + 1] else []) := by
  unfold ctl
  rw [List.range_succ, List.filter_append, List.map_append]
  by_cases c : l < lv l s p k x n + s <;> simp [c]
theorem lvl_succ (n : Nat) : lvl l s p k x (n + 1) = lvl l s p k x n ++ [lv l s p k x (n + 1)] := by
  unfold lvl
  rw [List.range_succ, List.map_append]
  rfl
theorem lvl_len (n : Nat) : (lvl l s p k x n).length = n := by simp [lvl]
theorem ctl_le (n : Nat) : (ctl l s p k x n).length ≤ n := by
  unfold ctl
  rw [List.length_map]
  have := List.length_filter_le (fun i => decide (l < lv l s p k x i + s)) (List.range n)
  simpa using this
theorem lv_dn {C : Nat} (hl : Dn C l) (hs : Dn C s) (hk : Dn C k) (hx : Dn C x) : ∀ t, Dn (C * p.den ^ t) (lv l s p k x t)
  | 0 => by simpa [lv] using hx
  | t + 1 => by
    have ih := lv_dn hl hs hk hx t
    have up : Dn (C * p.den ^ t) (lv l s p k x t + s) := ih.add (hs.up _)
    have e : C * p.den ^ (t + 1) = p.den * (C * p.den ^ t) := by rw [Nat.pow_succ]; ac_rfl
    show Dn _ (tk l s p k (lv l s p k x t))
    unfold tk
    split
    · rw [e]
      refine ((Dn.den p).mul up).add ?_
      rw [← e]
      exact hk.up _
    · rw [e]
      exact up.up' _
theorem lv_le (h : SetOk l s p k) (hx : x ≤ l) : ∀ t, lv l s p k x t ≤ l
  | 0 => hx
  | t + 1 => by
    have ih := lv_le h hx t
    have kp := h.kept
    have p0 := h.fp.p0
    show tk l s p k (lv l s p k x t) ≤ l
    unfold tk
    split
    · have : p * (lv l s p k x t + s) ≤ p * (l + s) := Rat.mul_le_mul_of_nonneg_left (by grind) (Rat.le_of_lt p0)
      grind
    · grind
theorem lv_ge (h : SetOk l s p k) {L : Rat} (h1 : L ≤ x) (h2 : L ≤ p * l + k) : ∀ t, L ≤ lv l s p k x t
  | 0 => h1
  | t + 1 => by
    have ih := lv_ge h h1 h2 t
    have p0 := h.fp.p0
    have s0 := h.s0
    show L ≤ tk l s p k (lv l s p k x t)
    unfold tk
    split
    · rename_i c
      have : p * l ≤ p * (lv l s p k x t + s) := Rat.mul_le_mul_of_nonneg_left (Rat.le_of_lt c) (Rat.le_of_lt p0)
      grind
    · grind
/-- all levels of so many ticks can be reckoned with -/
def LvB (l s p k x : Rat) (n : Nat) : Prop := ∀ t, t ≤ n → FB 500 (lv l s p k x t)
/-- a start from which one goes on -/
structure Beg (e : Nat) (l x : Rat) : Prop where
  le : x ≤ l
  lo : -1000 ≤ x
  d : x.den ≤ 10 ^ e
theorem lv_fbe (h : Rul l s p k) {e : Nat} (hx : Beg e l x) (t : Nat) : FB (17 + e + t) (lv l s p k x t) := by
  have C0 : 0 < l.den * s.den * k.den * x.den := Nat.mul_pos (Nat.mul_pos (Nat.mul_pos l.den_pos s.den_pos) k.den_pos) x.den_pos
  have d := lv_dn (p := p) (((Dn.den l).up s.den).up k.den |>.up x.den) (((Dn.den s).up' l.den).up k.den |>.up x.den) ((Dn.den k).up' (l.den * s.den) |>.up x.den) ((Dn.den x).up' (l.den * s.den * k.den)) t
  have dl := d.le (Nat.mul_pos C0 (Nat.pow_pos p.den_pos))
  have kd : k.den ≤ 10 ^ 12 := by have := h.kb.b; unfold Bd at this; omega
  have m1 : l.den * s.den * k.den * x.den ≤ 5 * 6 * 10 ^ 12 * 10 ^ e := Nat.mul_le_mul (Nat.mul_le_mul (Nat.mul_le_mul h.ld h.sd) kd) hx.d
  have m2 : p.den ^ t ≤ 10 ^ t := Nat.pow_le_pow_left (by have := h.cut.d; omega) t
  have m3 : l.den * s.den * k.den * x.den * p.den ^ t ≤ 5 * 6 * 10 ^ 12 * 10 ^ e * 10 ^ t := Nat.mul_le_mul m1 m2
  have m4 : 5 * 6 * 10 ^ 12 * 10 ^ e * 10 ^ t < 10 ^ (14 + e + t) := by
    rw [Nat.pow_add, Nat.pow_add]
    exact Nat.mul_lt_mul_of_pos_right (Nat.mul_lt_mul_of_pos_right (by decide) (Nat.pow_pos (by decide))) (Nat.pow_pos (by decide))
  have lo : -1000 ≤ lv l s p k x t := lv_ge h.ok hx.lo (by
    have e := h.eqk
    have := h.lot.hi
    have := h.l0
    have s0 := h.ok.s0
    have : hgt l s p k * s ≤ 9 * s := Rat.mul_le_mul_of_nonneg_right h.lot.hi (Rat.le_of_lt s0)
    have := h.s1
    rw [e]
    grind) t
  have hi := lv_le h.ok hx.le t
  have l1 := h.l1
  have := FB.of_den (a := 14 + e + t) (b := 3) (q := lv l s p k x t) (M := 1000) (by omega) (by rw [Rat.natCast_ofNat]; exact lo) (by rw [Rat.natCast_ofNat]; grind) (by decide)
  exact this.mono (by omega)
theorem lv_fb (h : Rul l s p k) {e : Nat} (hx : Beg e l x) (n : Nat) (hn : n ≤ 400) (he : e ≤ 50 := by decide) : LvB l s p k x n := fun t ht => (lv_fbe h hx t).mono (by omega)
theorem Fst.beg (h : Rul l s p k) (hf : Fst l s x) : Beg 3 l x := ⟨hf.le, by have := hf.lo; have := h.l0; grind, by have := hf.d; omega⟩
theorem lvl_take {n m : Nat} (h : m ≤ n) : (lvl l s p k x n).take m = lvl l s p k x m := by
  unfold lvl
  rw [← List.map_take, List.take_range, Nat.min_eq_left h]
theorem ctl_mem {n : Nat} {c : Int} (h : c ∈ ctl l s p k x n) : ∃ i : Nat, i < n ∧ c = (i : Int) + 1 ∧ l < lv l s p k x i + s := by
  unfold ctl at h
  obtain ⟨i, hi, rfl⟩ := List.mem_map.mp h
  obtain ⟨h1, h2⟩ := List.mem_filter.mp hi
  exact ⟨i, List.mem_range.mp h1, rfl, by simpa using h2⟩
theorem ctl_filter {m : Nat} : ∀ j, (ctl l s p k x (m + j)).filter (fun c => decide (c ≤ (m : Int))) = ctl l s p k x m
  | 0 => by
    show List.filter _ (ctl l s p k x m) = _
    rw [List.filter_eq_self]
    intro c hc
    obtain ⟨i, h1, rfl, _⟩ := ctl_mem hc
    simp
    omega
  | j + 1 => by
    rw [← Nat.add_assoc, ctl_succ, List.filter_append, ctl_filter j]
    have : ¬ (((m + j : Nat) : Int) + 1 ≤ (m : Int)) := by omega
    split <;> simp [this]
    omega
/-! ### the package's run -/
def rtT : Tb := ⟨[f_tick_in], c_run_in⟩
theorem run_loop [h : SetOk l s p k] {a1 a2 : Option D} (n : Nat) : ∀ (m t : Nat) (o6 o7 : Option D), t + m = n → n ≤ 1000 → LvB l s p k x n →
    ∃ o6' o7', forL (fun x env => bnd (lft (asgT (.n 6) x env)) fun env' => evSs rtT 1000000 b_run_in_1 env') ((List.range' t m).map fun t : Nat => PyData.int (1 + (t : Int))) [some (st l s p k), a1, a2, some (.list ((lvl l s p k x t).map fr)), some (.list ((ctl l s p k x t).map .int)), some (fr (lv l s p k x t)), o6, o7] = ret (.nx [some (st l s p k), a1, a2, some (.list ((lvl l s p k x n).map fr)), some (.list ((ctl l s p k x n).map .int)), some (fr (lv l s p k x n)), o6', o7'])
  | 0, t, o6, o7, e, _, _ => by
    simp at e
    subst e
    exact ⟨o6, o7, rfl⟩
  | m + 1, t, o6, o7, e, hn, hb => by
    rw [List.range'_succ, List.map_cons]
    unfold forL
    have q : QB 500 (lv l s p k x t) := ⟨hb t (by omega)⟩
    have tk := ev_tickin (l := l) (s := s) (p := p) (k := k) (x := lv l s p k x t) (Nat.le_refl 500)
    have l1 : lenOk ((lvl l s p k x t).length + 1) = true := lenOk_le (by rw [lvl_len]; omega)
    have cl := ctl_le (l := l) (s := s) (p := p) (k := k) (x := x) t
    have l2 : lenOk ((ctl l s p k x t).length + 1) = true := lenOk_le (by omega)
    have l3 : lenOk (ctl l s p k x t).length = true := lenOk_le (by omega)
    have n1 : lenOk 1 = true := by decide
    have n0 : lenOk 0 = true := by decide
    have e1 : (1 : Int) + t = (t : Int) + 1 := by omega
    have ex : lv l s p k x (t + 1) = C.tk l s p k (lv l s p k x t) := rfl
    have body : (bnd (lft (asgT (.n 6) (.int (1 + (t : Int))) [some (st l s p k), a1, a2, some (.list ((lvl l s p k x t).map fr)), some (.list ((ctl l s p k x t).map .int)), some (fr (lv l s p k x t)), o6, o7])) fun env' => evSs rtT 1000000 b_run_in_1 env') = ret (.nx [some (st l s p k), a1, a2, some (.list ((lvl l s p k x (t + 1)).map fr)), some (.list ((ctl l s p k x (t + 1)).map .int)), some (fr (lv l s p k x (t + 1))), some (.int (1 + (t : Int))), some (.bool (decide (l < lv l s p k x t + s)))]) := by
      rw [lvl_succ, ctl_succ, ex, ← e1]
      by_cases c : l < lv l s p k x t + s
      · simp [b_run_in_1, rtT, tk, c, l1, l2, n1, n0]
      · simp [b_run_in_1, rtT, tk, c, l1, l3, n1, n0]
    rw [body, bnd_ret]
    exact run_loop n m (t + 1) _ _ (by omega) hn hb
theorem rng1 (n : Nat) : rngD 1 ((n : Int) + 1) = (List.range' 0 n).map fun t : Nat => PyData.int (1 + (t : Int)) := by
  rw [rng_map, ← List.range_eq_range']
  congr 2
  omega
theorem ev_runin [h : SetOk l s p k] {n : Nat} (hn : n ≤ 1000) (hb : LvB l s p k x n) : f_run_in.m [st l s p k, fr x, .int n] = ret (.tuple [.list ((lvl l s p k x n).map fr), .list ((ctl l s p k x n).map .int)]) := by
  obtain ⟨o6, o7, e⟩ := run_loop (x := x) (a1 := some (fr x)) (a2 := some (.int n)) n n 0 none none (by omega) hn hb
  have g1 : rngOk 1 = true := by decide
  have g2 : rngOk ((n : Int) + 1) = true := rngOk_le (by omega) (by omega)
  have l2 : lenOk 2 = true := by decide
  have l0 : lenOk 0 = true := by decide
  have e1 : lvl l s p k x 0 = [] := rfl
  have e2 : ctl l s p k x 0 = [] := rfl
  have e3 : lv l s p k x 0 = x := rfl
  rw [e1, e2, e3] at e
  simp only [List.map_nil] at e
  simp [f_run_in, b_run_in, run, g1, g2, l0, l2, rng1]
  simp [rtT] at e
  rw [e]
  simp [l2]
theorem ev_levels [SetOk l s p k] [FM x] {n : Nat} (hx : x ≤ l) (hn : n ≤ 1000) (hb : LvB l s p k x n) : f_levels_after.m [st l s p k, fr x, .int n] = ret (.tuple ((lvl l s p k x n).map fr)) := by
  simp [f_levels_after, b_levels_after, run, ev_checkasked hx hn, ev_runin hn hb]
theorem ev_cuts [SetOk l s p k] [FM x] {n : Nat} (hx : x ≤ l) (hn : n ≤ 1000) (hb : LvB l s p k x n) : f_cuts_plainly.m [st l s p k, fr x, .int n] = ret (.tuple ((ctl l s p k x n).map .int)) := by
  simp [f_cuts_plainly, b_cuts_plainly, run, ev_checkasked hx hn, ev_runin hn hb]
end
end Ev.C

end
section
set_option maxHeartbeats 4000000
/-! # EvP4: first ticks, rounds from spot to spot -/
namespace Ev.C
open PySem
section
variable {n : Nat} {q : Rat}
theorem bd_den (h : FB n q) : Bd n (q.den : Int) := h.b
@[simp] theorem ev_floorin [h : QB n q] (l : n ≤ 900) : f_floor_in.m [fr q] = ret (.int q.floor) := by
  have d0 : ((q.den : Nat) : Int) ≠ 0 := den0 q
  have d1 : q.den ≠ 0 := q.den_nz
  have dv : divOk q.num (q.den : Int) = true := divOk_bd h.h.b
  have ed : q.num.fdiv q.den = q.num / (q.den : Int) := Int.fdiv_eq_ediv_of_nonneg _ (by omega)
  simp [f_floor_in, b_floor_in, run, dv, ed, d1, Rat.floor_def]
theorem ceil_num (q : Rat) : q.ceil = -(-q.num / (q.den : Int)) := by
  rw [Rat.ceil_eq_neg_floor_neg, Rat.floor_def]
  rfl
@[simp] theorem ev_ceilin [h : QB n q] (l : n ≤ 900) : f_ceil_in.m [fr q] = ret (.int q.ceil) := by
  have d0 : ((q.den : Nat) : Int) ≠ 0 := den0 q
  have d1 : q.den ≠ 0 := q.den_nz
  have dv : divOk (-q.num) (q.den : Int) = true := divOk_bd h.h.b
  have ed : (-q.num).fdiv q.den = (-q.num) / (q.den : Int) := Int.fdiv_eq_ediv_of_nonneg _ (by omega)
  simp [f_ceil_in, b_ceil_in, run, dv, ed, d1, ceil_num]
@[simp] theorem ev_lup [h : QB n q] (l : n ≤ 900) : f_u_law_up.m [fr q] = ret (.int q.ceil) := by
  have d0 : ((q.den : Nat) : Int) ≠ 0 := den0 q
  have d1 : q.den ≠ 0 := q.den_nz
  have dv : divOk (-q.num) (q.den : Int) = true := divOk_bd h.h.b
  have ed : (-q.num).fdiv q.den = (-q.num) / (q.den : Int) := Int.fdiv_eq_ediv_of_nonneg _ (by omega)
  simp [f_u_law_up, b_u_law_up, run, dv, ed, d1, ceil_num]
theorem floor_bd (h : FB n q) : Bd n q.floor := by
  rw [Rat.floor_def]
  exact h.a.ediv _
theorem ceil_bd (h : FB n q) : Bd n q.ceil := by
  rw [ceil_num]
  exact (h.a.neg.ediv _).neg
end
section
variable {l s p k : Rat}
/-! ### the first ticks -/
def fc (l s x : Rat) : Int := ((l - x) / s).floor + 1
def fs (l s x : Rat) : Rat := (x + (fc l s x : Rat) * s - l) / s
theorem ev_firstin {n : Nat} {x : Rat} [SetOk l s p k] [hq : QB n x] (h : n ≤ 100) : f_first_in.m [st l s p k, fr x] = ret (.tuple [.int (fc l s x), fr (fs l s x)]) := by
  have h' : SetOk l s p k := inferInstance
  have := h'.fl; have := h'.fs; have := h'.fp; have := h'.fk
  have n0 := ne_of_pos h'.s0
  have a1 : 31 + n ≤ 800 := by omega
  have a2 : 31 + n + 1 + 31 ≤ 800 := by omega
  have a3 : 31 + n + 1 + 31 ≤ 900 := by omega
  have fb1 : FB (31 + n + 1 + 31) ((l - x) / s) := ((h'.fl.fb.sub hq.h).div' h'.fs.fb)
  have bc : Bd (31 + n + 1 + 31 + 1) (fc l s x) := by
    unfold fc
    exact (floor_bd fb1).add (Bd.mono (n := 1) (by unfold Bd; decide) (by omega))
  have qc : QB (31 + n + 1 + 31 + 1) ((fc l s x : Int) : Rat) := ⟨fb_int bc (by omega)⟩
  have a4 : 31 + n + 1 + 31 + 1 + 31 ≤ 800 := by omega
  have a5 : n + (31 + n + 1 + 31 + 1 + 31) ≤ 800 := by omega
  have a6 : n + (31 + n + 1 + 31 + 1 + 31) + 1 ≤ 600 := by omega
  have l2 : lenOk 2 = true := by decide
  have e1 : (PyData.tuple [.int (((l - x) / s).floor + 1), .int 1] : D) = fr ((fc l s x : Int) : Rat) := int_fr _
  simp [f_first_in, b_first_in, run, a1, a2, a3, n0, l2, e1, a4, a5, a6]
  rfl
theorem ev_first {x : Rat} [SetOk l s p k] [FM x] (h : x ≤ l) : f_first_ticks.m [st l s p k, fr x] = ret (.tuple [.int (fc l s x), fr (fs l s x)]) := by
  have e := ev_firstin (l := l) (s := s) (p := p) (k := k) (x := x) (n := 31) (by decide)
  simp [f_first_ticks, b_first_ticks, run, ev_checkstart h, e]
theorem fc_spec (s0 : 0 < s) (x : Rat) : l < x + (fc l s x : Rat) * s ∧ x + ((fc l s x : Rat) - 1) * s ≤ l := by
  have e : (fc l s x : Rat) = (((l - x) / s).floor : Rat) + 1 := by unfold fc; rw [Rat.intCast_add]; rfl
  have h1 := Rat.floor_le ((l - x) / s)
  have h2 := Rat.lt_floor_add_one ((l - x) / s)
  rw [Rat.intCast_add] at h2
  have m : (l - x) / s * s = l - x := Rat.div_mul_cancel (ne_of_pos s0)
  have h3 := Rat.mul_le_mul_of_nonneg_right h1 (Rat.le_of_lt s0)
  have h4 := Rat.mul_lt_mul_of_pos_right h2 s0
  rw [m] at h3 h4
  rw [e]
  have e1 : ((1 : Int) : Rat) = 1 := rfl
  rw [e1] at h4
  constructor <;> grind
theorem fc_pos (s0 : 0 < s) {x : Rat} (h : x ≤ l) : 1 ≤ fc l s x := by
  have : (0 : Int) ≤ ((l - x) / s).floor := by
    rw [Rat.le_floor_iff, Rat.div_def]
    exact Rat.mul_nonneg (by grind) (Rat.le_of_lt (Rat.inv_pos.mpr s0))
  unfold fc
  omega
/-- the number is the only one -/
theorem fc_uniq (s0 : 0 < s) {x : Rat} {c : Int} (h1 : l < x + (c : Rat) * s) (h2 : x + ((c : Rat) - 1) * s ≤ l) : fc l s x = c := by
  obtain ⟨g1, g2⟩ := fc_spec (l := l) s0 x
  have b1 : (fc l s x : Rat) - 1 < c := by
    have : ((fc l s x : Rat) - 1) * s < c * s := by grind
    exact Rat.lt_of_mul_lt_mul_right this (Rat.le_of_lt s0)
  have b2 : (c : Rat) - 1 < fc l s x := by
    have : ((c : Rat) - 1) * s < fc l s x * s := by grind
    exact Rat.lt_of_mul_lt_mul_right this (Rat.le_of_lt s0)
  have c1 : ((fc l s x - 1 : Int) : Rat) < (c : Rat) := by rw [Rat.intCast_sub]; exact b1
  have c2 : ((c - 1 : Int) : Rat) < (fc l s x : Rat) := by rw [Rat.intCast_sub]; exact b2
  have := Rat.intCast_lt_intCast.mp c1
  have := Rat.intCast_lt_intCast.mp c2
  omega
theorem fs_pos (s0 : 0 < s) (x : Rat) : 0 < fs l s x ∧ fs l s x ≤ 1 := by
  obtain ⟨g1, g2⟩ := fc_spec (l := l) s0 x
  unfold fs
  constructor
  · rw [Rat.lt_div_iff s0]; grind
  · rw [← Rat.not_lt, Rat.lt_div_iff s0]; grind
end
/-! ### rounds -/
def mv (p h s : Rat) : Rat := p * s - h
def cnt (p h s : Rat) : Int := 1 - (mv p h s).ceil
def nxt (p h s : Rat) : Rat := mv p h s + (cnt p h s : Rat)
theorem cnt_spec (p h s : Rat) : 0 < nxt p h s ∧ nxt p h s ≤ 1 := by
  have h1 := Rat.le_ceil (x := mv p h s)
  have h2 := Rat.ceil_lt (x := mv p h s)
  have e : (cnt p h s : Rat) = 1 - ((mv p h s).ceil : Rat) := by unfold cnt; rw [Rat.intCast_sub]; rfl
  unfold nxt
  rw [e]
  constructor <;> grind
theorem cnt_uniq {p h s : Rat} {c : Int} (h1 : 0 < mv p h s + (c : Rat)) (h2 : mv p h s + (c : Rat) ≤ 1) : cnt p h s = c := by
  obtain ⟨g1, g2⟩ := cnt_spec p h s
  unfold nxt at g1 g2
  have c1 : ((cnt p h s - 1 : Int) : Rat) < (c : Rat) := by rw [Rat.intCast_sub]; show (cnt p h s : Rat) - 1 < c; grind
  have c2 : ((c - 1 : Int) : Rat) < (cnt p h s : Rat) := by rw [Rat.intCast_sub]; show (c : Rat) - 1 < _; grind
  have := Rat.intCast_lt_intCast.mp c1
  have := Rat.intCast_lt_intCast.mp c2
  omega
theorem cnt_pos {p h s : Rat} (p0 : 0 < p) (ph : p ≤ h) (s1 : s ≤ 1) : 1 ≤ cnt p h s := by
  obtain ⟨g1, g2⟩ := cnt_spec p h s
  unfold nxt at g1
  have m : p * s ≤ p * 1 := Rat.mul_le_mul_of_nonneg_left s1 (Rat.le_of_lt p0)
  have : (0 : Rat) < (cnt p h s : Rat) := by unfold mv at g1; grind
  have := Rat.intCast_lt_intCast.mp (show ((0 : Int) : Rat) < _ from this)
  omega
theorem cnt_lt {p h s : Rat} {H : Int} (p0 : 0 < p) (s0 : 0 ≤ s) (hH : h ≤ H) : cnt p h s ≤ H + 1 := by
  obtain ⟨g1, g2⟩ := cnt_spec p h s
  unfold nxt at g2
  have m : 0 ≤ p * s := Rat.mul_nonneg (Rat.le_of_lt p0) s0
  have : (cnt p h s : Rat) ≤ ((H + 1 : Int) : Rat) := by rw [Rat.intCast_add]; show _ ≤ (H : Rat) + 1; unfold mv at g2; grind
  exact Rat.intCast_le_intCast.mp this
section
variable {p h s : Rat} {n m o : Nat}
theorem cnt_bd (hp : FB n p) (hh : FB m h) (hs : FB o s) : Bd (n + o + m + 2) (cnt p h s) := by
  have b := (hp.mul hs).sub hh
  have h1 : Bd (n + o + m + 1) 1 := Bd.mono (n := 1) (by unfold Bd; decide) (by omega)
  exact h1.sub (ceil_bd b)
theorem ev_roundin [a : QB n p] [b : QB m h] [c : QB o s] (l : n + o + m ≤ 390) : f_round_in.m [fr p, fr h, fr s] = ret (.tuple [.int (cnt p h s), fr (nxt p h s)]) := by
  have a1 : n + o ≤ 800 := by omega
  have a2 : n + o + m ≤ 800 := by omega
  have a3 : n + o + m + 1 ≤ 900 := by omega
  have a4 : n + o + m + 1 + (n + o + m + 2) ≤ 800 := by omega
  have qc : QB (n + o + m + 2) ((cnt p h s : Int) : Rat) := ⟨fb_int (cnt_bd a.h b.h c.h) (by omega)⟩
  have l2 : lenOk 2 = true := by decide
  have e1 : (PyData.tuple [.int (1 - (p * s - h).ceil), .int 1] : D) = fr ((cnt p h s : Int) : Rat) := int_fr _
  simp [f_round_in, b_round_in, run, a1, a2, a3, l2, e1, a4]
  rfl
theorem ev_lnext [a : QB n p] [b : QB m h] [c : QB o s] (l : n + o + m ≤ 390) : f_u_law_next.m [fr p, fr h, fr s] = ret (.tuple [.int (cnt p h s), fr (nxt p h s)]) := by
  have a1 : n + o ≤ 800 := by omega
  have a2 : n + o + m ≤ 800 := by omega
  have a3 : n + o + m + 1 ≤ 900 := by omega
  have a4 : n + o + m + 1 + (n + o + m + 2) ≤ 800 := by omega
  have qc : QB (n + o + m + 2) ((cnt p h s : Int) : Rat) := ⟨fb_int (cnt_bd a.h b.h c.h) (by omega)⟩
  have l2 : lenOk 2 = true := by decide
  have e1 : (PyData.tuple [.int (1 - (p * s - h).ceil), .int 1] : D) = fr ((cnt p h s : Int) : Rat) := int_fr _
  simp [f_u_law_next, b_u_law_next, run, a1, a2, a3, l2, e1, a4]
  rfl
theorem ev_next [PartOk p] [hh : HeightOk p h] [SpotOk s] : f_next_spot.m [fr p, fr h, fr s] = ret (.tuple [.int (cnt p h s), fr (nxt p h s)]) := by
  have := hh.fm
  have e := ev_roundin (p := p) (h := h) (s := s) (n := 31) (m := 31) (o := 31) (by decide)
  simp [f_next_spot, b_next_spot, run, e]
end
section
variable (p h s : Rat)
/-- the spot so many rounds on -/
def sp : Nat → Rat
  | 0 => s
  | n + 1 => nxt p h (sp n)
def cns (n : Nat) : List Int := (List.range n).map fun i => cnt p h (sp p h s i)
def sps (n : Nat) : List Rat := (List.range n).map fun i => sp p h s (i + 1)
end
section
variable {p h s : Rat}
theorem cns_succ (n : Nat) : cns p h s (n + 1) = cns p h s n ++ [cnt p h (sp p h s n)] := by
  unfold cns
  rw [List.range_succ, List.map_append]
  rfl
theorem sps_succ (n : Nat) : sps p h s (n + 1) = sps p h s n ++ [sp p h s (n + 1)] := by
  unfold sps
  rw [List.range_succ, List.map_append]
  rfl
@[simp] theorem cns_len (n : Nat) : (cns p h s n).length = n := by simp [cns]
@[simp] theorem sps_len (n : Nat) : (sps p h s n).length = n := by simp [sps]
theorem sp_in (s0 : 0 < s) (s1 : s ≤ 1) : ∀ n, 0 < sp p h s n ∧ sp p h s n ≤ 1
  | 0 => ⟨s0, s1⟩
  | n + 1 => cnt_spec p h _
theorem sp_dn {C : Nat} (hh : Dn C h) (hs : Dn C s) : ∀ t, Dn (C * p.den ^ t) (sp p h s t)
  | 0 => by simpa [sp] using hs
  | t + 1 => by
    have ih := sp_dn hh hs t
    have e : C * p.den ^ (t + 1) = p.den * (C * p.den ^ t) := by rw [Nat.pow_succ]; ac_rfl
    show Dn _ (mv p h (sp p h s t) + ((cnt p h (sp p h s t) : Int) : Rat))
    refine Dn.add ?_ (Dn.int _ _)
    unfold mv
    refine Dn.sub ?_ (hh.up _)
    rw [e]
    exact (Dn.den p).mul ih
/-- the spots can be reckoned with -/
def SpB (N : Nat) (p h s : Rat) (n : Nat) : Prop := ∀ t, t ≤ n → FB N (sp p h s t)
theorem sp_fb {a : Nat} (hp : p.den ≤ 10) (s0 : 0 < s) (s1 : s ≤ 1) (hd : h.den * s.den < 10 ^ a) (n N : Nat) (l : a + n ≤ N) : SpB N p h s n := by
  intro t ht
  have C0 : 0 < h.den * s.den := Nat.mul_pos h.den_pos s.den_pos
  have d := (sp_dn (p := p) ((Dn.den h).up s.den) ((Dn.den s).up' h.den) t).le (Nat.mul_pos C0 (Nat.pow_pos p.den_pos))
  have m2 : p.den ^ t ≤ 10 ^ t := Nat.pow_le_pow_left hp t
  have m3 : h.den * s.den * p.den ^ t < 10 ^ (a + t) := by
    rw [Nat.pow_add]
    exact Nat.lt_of_le_of_lt (Nat.mul_le_mul_left _ m2) (Nat.mul_lt_mul_of_pos_right hd (Nat.pow_pos (by decide)))
  obtain ⟨i0, i1⟩ := sp_in (p := p) (h := h) s0 s1 t
  have := FB.of_den (a := a + t) (b := 0) (q := sp p h s t) (M := 1) (by omega) (by rw [Rat.natCast_ofNat]; grind) (by rw [Rat.natCast_ofNat]; grind) (by decide)
  exact this.mono (by omega)
abbrev riT : Tb := ⟨[f_round_in], c_rounds_in⟩
abbrev lsT : Tb := ⟨[f_u_law_next], c_u_law_spots⟩
theorem rounds_loop {a b N : Nat} [QB a p] [QB b h] (ab : a + N + b ≤ 390) {a3 : Option D} (n : Nat) : ∀ (m t : Nat) (o6 o7 : Option D), t + m = n → n ≤ 1000 → SpB N p h s n →
    ∃ o6' o7', forL (fun x env => bnd (lft (asgT (.n 6) x env)) fun env' => evSs riT 1000000 b_rounds_in_1 env') ((List.range' t m).map fun t : Nat => PyData.int (0 + (t : Int))) [some (fr p), some (fr h), some (fr (sp p h s t)), a3, some (.list ((cns p h s t).map .int)), some (.list ((sps p h s t).map fr)), o6, o7] = ret (.nx [some (fr p), some (fr h), some (fr (sp p h s n)), a3, some (.list ((cns p h s n).map .int)), some (.list ((sps p h s n).map fr)), o6', o7'])
  | 0, t, o6, o7, e, _, _ => by
    simp at e
    subst e
    exact ⟨o6, o7, rfl⟩
  | m + 1, t, o6, o7, e, hn, hb => by
    rw [List.range'_succ, List.map_cons]
    unfold forL
    have q : QB N (sp p h s t) := ⟨hb t (by omega)⟩
    have tk := ev_roundin (p := p) (h := h) (s := sp p h s t) ab
    have l1 : lenOk (t + 1) = true := lenOk_le (by omega)
    have ex : sp p h s (t + 1) = nxt p h (sp p h s t) := rfl
    have body : (bnd (lft (asgT (.n 6) (.int (0 + (t : Int))) [some (fr p), some (fr h), some (fr (sp p h s t)), a3, some (.list ((cns p h s t).map .int)), some (.list ((sps p h s t).map fr)), o6, o7])) fun env' => evSs riT 1000000 b_rounds_in_1 env') = ret (.nx [some (fr p), some (fr h), some (fr (sp p h s (t + 1))), a3, some (.list ((cns p h s (t + 1)).map .int)), some (.list ((sps p h s (t + 1)).map fr)), some (.int (0 + (t : Int))), some (.int (cnt p h (sp p h s t)))]) := by
      rw [cns_succ, sps_succ, ex]
      simp [b_rounds_in_1, riT, tk, l1]
    rw [body, bnd_ret]
    exact rounds_loop ab n m (t + 1) _ _ (by omega) hn hb
theorem lspots_loop {a b N : Nat} [QB a p] [QB b h] (ab : a + N + b ≤ 390) {a3 : Option D} (n : Nat) : ∀ (m t : Nat) (o6 o7 : Option D), t + m = n → n ≤ 1000 → SpB N p h s n →
    ∃ o6' o7', forL (fun x env => bnd (lft (asgT (.n 6) x env)) fun env' => evSs lsT 1000000 b_u_law_spots_1 env') ((List.range' t m).map fun t : Nat => PyData.int (0 + (t : Int))) [some (fr p), some (fr h), some (fr (sp p h s t)), a3, some (.list ((cns p h s t).map .int)), some (.list ((sps p h s t).map fr)), o6, o7] = ret (.nx [some (fr p), some (fr h), some (fr (sp p h s n)), a3, some (.list ((cns p h s n).map .int)), some (.list ((sps p h s n).map fr)), o6', o7'])
  | 0, t, o6, o7, e, _, _ => by
    simp at e
    subst e
    exact ⟨o6, o7, rfl⟩
  | m + 1, t, o6, o7, e, hn, hb => by
    rw [List.range'_succ, List.map_cons]
    unfold forL
    have q : QB N (sp p h s t) := ⟨hb t (by omega)⟩
    have tk := ev_lnext (p := p) (h := h) (s := sp p h s t) ab
    have l1 : lenOk (t + 1) = true := lenOk_le (by omega)
    have ex : sp p h s (t + 1) = nxt p h (sp p h s t) := rfl
    have body : (bnd (lft (asgT (.n 6) (.int (0 + (t : Int))) [some (fr p), some (fr h), some (fr (sp p h s t)), a3, some (.list ((cns p h s t).map .int)), some (.list ((sps p h s t).map fr)), o6, o7])) fun env' => evSs lsT 1000000 b_u_law_spots_1 env') = ret (.nx [some (fr p), some (fr h), some (fr (sp p h s (t + 1))), a3, some (.list ((cns p h s (t + 1)).map .int)), some (.list ((sps p h s (t + 1)).map fr)), some (.int (0 + (t : Int))), some (.int (cnt p h (sp p h s t)))]) := by
      rw [cns_succ, sps_succ, ex]
      simp [b_u_law_spots_1, lsT, tk, l1]
    rw [body, bnd_ret]
    exact lspots_loop ab n m (t + 1) _ _ (by omega) hn hb
theorem rng0' (n : Nat) : rngD 0 (n : Int) = (List.range' 0 n).map fun t : Nat => PyData.int (0 + (t : Int)) := by
  rw [rng_map, ← List.range_eq_range']
  congr 2
theorem ev_roundsin {a b N : Nat} [QB a p] [QB b h] (ab : a + N + b ≤ 390) {n : Nat} (hn : n ≤ 1000) (hb : SpB N p h s n) : f_rounds_in.m [fr p, fr h, fr s, .int n] = ret (.tuple [.list ((cns p h s n).map .int), .list ((sps p h s n).map fr)]) := by
  obtain ⟨o6, o7, e⟩ := rounds_loop (a3 := some (.int n)) ab n n 0 none none (by omega) hn hb
  have g2 : rngOk (n : Int) = true := rngOk_le (by omega) (by omega)
  have l2 : lenOk 2 = true := by decide
  have l0 : lenOk 0 = true := by decide
  have e1 : cns p h s 0 = [] := rfl
  have e2 : sps p h s 0 = [] := rfl
  have e3 : sp p h s 0 = s := rfl
  rw [e1, e2, e3] at e
  simp only [List.map_nil] at e
  simp [f_rounds_in, b_rounds_in, run, g2, l0, l2, rng0']
  simp [riT] at e
  rw [e]
  simp [l2]
theorem ev_lspots {a b N : Nat} [QB a p] [QB b h] (ab : a + N + b ≤ 390) {n : Nat} (hn : n ≤ 1000) (hb : SpB N p h s n) : f_u_law_spots.m [fr p, fr h, fr s, .int n] = ret (.tuple [.list ((cns p h s n).map .int), .list ((sps p h s n).map fr)]) := by
  obtain ⟨o6, o7, e⟩ := lspots_loop (a3 := some (.int n)) ab n n 0 none none (by omega) hn hb
  have g2 : rngOk (n : Int) = true := rngOk_le (by omega) (by omega)
  have l2 : lenOk 2 = true := by decide
  have l0 : lenOk 0 = true := by decide
  have e1 : cns p h s 0 = [] := rfl
  have e2 : sps p h s 0 = [] := rfl
  have e3 : sp p h s 0 = s := rfl
  rw [e1, e2, e3] at e
  simp only [List.map_nil] at e
  simp [f_u_law_spots, b_u_law_spots, run, g2, l0, l2, rng0']
  simp [lsT] at e
  rw [e]
  simp [l2]
theorem ev_spotsafter {N : Nat} [PartOk p] [hh : HeightOk p h] [SpotOk s] {n : Nat} (hn : n ≤ 1000) (l : N ≤ 300) (hb : SpB N p h s n) : f_spots_after.m [fr p, fr h, fr s, .int n] = ret (.tuple [.tuple ((cns p h s n).map .int), .tuple ((sps p h s n).map fr)]) := by
  have := hh.fm
  have e := ev_roundsin (p := p) (h := h) (s := s) (a := 31) (b := 31) (N := N) (by omega) hn hb
  have l2 : lenOk 2 = true := by decide
  simp [f_spots_after, b_spots_after, run, ev_checkmany hn, e, l2]
/-- sums from 0 on -/
def sms (p h s : Rat) (i : Nat) : Int := (cns p h s i).sum
def smsL (p h s : Rat) (n : Nat) : List Int := (List.range (n + 1)).map (sms p h s)
theorem sms_succ (n : Nat) : sms p h s (n + 1) = sms p h s n + cnt p h (sp p h s n) := by
  unfold sms
  rw [cns_succ]
  simp
theorem smsL_succ (n : Nat) : smsL p h s (n + 1) = smsL p h s n ++ [sms p h s (n + 1)] := by
  unfold smsL
  rw [List.range_succ, List.map_append]
  rfl
theorem smsL_len (n : Nat) : (smsL p h s n).length = n + 1 := by simp [smsL]
end
end Ev.C

end
section
set_option maxHeartbeats 4000000
/-! # EvP5: what is shown -/
namespace Ev
open PySem
class OkD (a b : outParam Nat) (d : D) : Prop where
  o : okd d = true
  dp : d.depth ≤ a
  bk : d.bulk ≤ b
class OkL (a b : outParam Nat) (xs : List D) : Prop where
  o : okds xs = true
  dp : PyData.depthAll xs ≤ a
  bk : PyData.bulkAll xs ≤ b
instance : OkD 0 0 .none := ⟨rfl, Nat.le_refl _, Nat.le_refl _⟩
instance {b : Bool} : OkD 0 0 (.bool b) := ⟨rfl, Nat.le_refl _, Nat.le_refl _⟩
theorem ok_int {i : Int} (h : Bd 500 i) : OkD 0 0 (.int i) := ⟨okd_int h, Nat.le_refl _, Nat.le_refl _⟩
theorem ok_fr' {n : Nat} {q : Rat} (h : FB n q) (l : n ≤ 500 := by decide) : OkD 1 2 (fr q) := by
  have z := fr_ok h l
  exact ⟨z.ok, Nat.le_refl 1, Nat.le_refl 2⟩
instance : OkL 0 0 [] := ⟨rfl, Nat.le_refl _, Nat.le_refl _⟩
instance OkL.cons {a b c e : Nat} {x : D} {xs : List D} [h : OkD a b x] [k : OkL c e xs] : OkL (a + c) (b + 1 + e) (x :: xs) := ⟨by
    show (okd x && okds xs) = true
    rw [h.o, k.o]; rfl, by
    show max x.depth (PyData.depthAll xs) ≤ _
    have := h.dp
    have := k.dp
    omega, by
    show x.bulk + 1 + PyData.bulkAll xs ≤ _
    have := h.bk
    have := k.bk
    omega⟩
instance OkL.tup {a b : Nat} {xs : List D} [h : OkL a b xs] : OkD (a + 1) b (.tuple xs) := ⟨h.o, Nat.add_le_add_right h.dp 1, h.bk⟩
instance OkL.lst {a b : Nat} {xs : List D} [h : OkL a b xs] : OkD (a + 1) b (.list xs) := ⟨h.o, Nat.add_le_add_right h.dp 1, h.bk⟩
theorem ok_map {α : Type} {f : α → D} {a b : Nat} : ∀ (xs : List α), (∀ x ∈ xs, OkD a b (f x)) → OkL a (xs.length * (b + 1)) (xs.map f)
  | [], _ => ⟨rfl, Nat.zero_le _, Nat.zero_le _⟩
  | x :: xs, h => by
    have h1 := h x List.mem_cons_self
    have h2 := ok_map xs fun y hy => h y (List.mem_cons_of_mem _ hy)
    refine ⟨?_, ?_, ?_⟩
    · show (okd (f x) && okds (xs.map f)) = true
      rw [h1.o, h2.o]; rfl
    · show max (f x).depth (PyData.depthAll (xs.map f)) ≤ _
      have := h1.dp
      have := h2.dp
      omega
    · show (f x).bulk + 1 + PyData.bulkAll (xs.map f) ≤ (xs.length + 1) * (b + 1)
      have := h1.bk
      have := h2.bk
      rw [Nat.add_mul]
      omega
theorem OkD.okd {a b : Nat} {d : D} (h : OkD a b d) (ha : a ≤ 64) (hb : b ≤ 27000) : Okd d := ⟨h.o, Nat.le_trans h.dp ha, Nat.le_trans h.bk hb⟩
@[simp] theorem s_like {a b : Nat} {d : D} [h : OkD a b d] (ha : a ≤ 64) (hb : b ≤ 27000) : L.f_u_law_like.m [d, d] = ret (.bool true) := L.like (h.okd ha hb)
/-- two that are alike -/
theorem like_eq {a b : Nat} {d e : D} (h : OkD a b d) (eq : e = d) (ha : a ≤ 64 := by decide) (hb : b ≤ 27000 := by decide) : L.f_u_law_like.m [d, e] = ret (.bool true) := by
  rw [eq]
  exact L.like (h.okd ha hb)
theorem okl_mono {a b c e : Nat} {xs : List D} (h : OkL a b xs) (l : a ≤ c) (m : b ≤ e) : OkL c e xs := ⟨h.o, Nat.le_trans h.dp l, Nat.le_trans h.bk m⟩
theorem ok_frs {n m : Nat} {xs : List Rat} (h : ∀ x ∈ xs, FB n x) (l : n ≤ 500) (hm : xs.length ≤ m) : OkL 1 (m * 3) (xs.map fr) := okl_mono (ok_map xs fun x hx => ok_fr' (h x hx) l) (Nat.le_refl _) (by omega)
theorem ok_ints {m : Nat} {xs : List Int} (h : ∀ x ∈ xs, Bd 500 x) (hm : xs.length ≤ m) : OkL 0 m (xs.map PyData.int) := okl_mono (ok_map xs fun x hx => ok_int (h x hx)) (Nat.le_refl _) (by omega)
/-- a loop of turns -/
theorem wp_turns {b : D → Env → M Fl} {Q : Fl → Option DS → Prop} (inv : Env → Prop) (c : Nat) (xs : List D) (B : Nat) (env : Env) (ds : Option DS) (h0 : inv env) (hd : DrB (B + c * xs.length) ds)
    (step : ∀ x ∈ xs, ∀ B env ds, inv env → DrB (B + c) ds → wpR (b x env ds) fun fl ds' => ∃ e, fl = .nx e ∧ inv e ∧ DrB B ds')
    (fin : ∀ env ds, inv env → DrB B ds → Q (.nx env) ds) : wpR (forL b xs env ds) Q := by
  induction xs generalizing env ds with
  | nil => exact fin env ds h0 (by simpa using hd)
  | cons x xs ih =>
    unfold forL
    rw [wp_bnd]
    refine wpR_mono (step x List.mem_cons_self (B + c * xs.length) env ds h0 (by rw [List.length_cons, Nat.mul_add] at hd; exact hd.mono (by omega))) fun fl ds' w => ?_
    obtain ⟨e, rfl, he, hd'⟩ := w
    exact ih e ds' he hd' (fun y hy => step y (List.mem_cons_of_mem _ hy))
theorem lcL_filter {γ : Type} {f : D → M (Option D)} {u v : γ → D} {c : γ → Bool} : ∀ {xs : List γ}, (∀ x ∈ xs, f (u x) = ret (if c x then some (v x) else none)) → lcL f (xs.map u) = ret ((xs.filter c).map v)
  | [], _ => rfl
  | x :: xs, h => by
    rw [List.map_cons]
    unfold lcL
    rw [h x List.mem_cons_self, bnd_ret, lcL_filter fun y hy => h y (List.mem_cons_of_mem _ hy), bnd_ret]
    by_cases e : c x <;> simp [List.filter_cons, e]
@[simp] theorem args_k1 {a : D} : argsOf 1 [] [(0, a)] = some [a] := (rfl)
@[simp] theorem args_k21 {a b : D} : argsOf 2 [] [(1, b), (0, a)] = some [a, b] := (rfl)
@[simp] theorem args_k321 {a b c : D} : argsOf 3 [] [(2, c), (1, b), (0, a)] = some [a, b, c] := (rfl)
@[simp] theorem args_k4321 {a b c d : D} : argsOf 4 [] [(3, d), (2, c), (1, b), (0, a)] = some [a, b, c, d] := (rfl)
theorem lit_fr {a b : Int} {q : Rat} (h1 : q.num = a) (h2 : (q.den : Int) = b) : (.tuple [.int a, .int b] : D) = fr q := by
  subst h1 h2
  rfl
theorem fm_lit {q : Rat} (h : (decide (-1000000000000000000000000000000 ≤ q.num) && decide (q.num ≤ 1000000000000000000000000000000) && decide ((q.den : Int) ≤ 1000000000000000000000000000000)) = true) : C.FM q := by
  simp at h
  exact ⟨h.1.1, h.1.2, h.2⟩
theorem fb_lit {q : Rat} (n : Nat) (h : (decide (q.num.natAbs < 10 ^ n) && decide (q.den < 10 ^ n)) = true) : FB n q := by
  simp at h
  exact ⟨h.1, by unfold Bd; have := h.2; omega⟩
theorem set_lit {l s p k : Rat} (a : C.FM l) (b : C.FM s) (c : C.FM p) (d : C.FM k) (h : (decide (0 < s) && decide (0 < p) && decide (p < 1) && decide (p.den ≤ 1000) && decide (p * (l + s) + k ≤ l)) = true) : C.SetOk l s p k := by
  simp at h
  exact ⟨a, b, ⟨c, h.1.1.1.2, h.1.1.2, by have := h.1.2; omega⟩, d, h.1.1.1.1, h.2⟩
theorem lvb_lit {l s p k x : Rat} {n : Nat} (h : ((List.range (n + 1)).all fun t => decide ((C.lv l s p k x t).num.natAbs < 10 ^ 500) && decide ((C.lv l s p k x t).den < 10 ^ 500)) = true) : C.LvB l s p k x n := by
  intro t ht
  have := List.all_eq_true.mp h t (List.mem_range.mpr (by omega))
  exact fb_lit 500 this
end Ev

end
section
set_option maxHeartbeats 4000000
/-! # EvP6: what is compared -/
namespace Ev
open PySem
class ShD (a : outParam Nat) (d : D) : Prop where
  o : d.canLay0 = true
  dp : d.depth ≤ a
class ShL (a : outParam Nat) (xs : List D) : Prop where
  o : PyData.canLayAll0 xs = true
  dp : PyData.depthAll xs ≤ a
instance : ShD 0 .none := ⟨rfl, Nat.le_refl _⟩
instance {b : Bool} : ShD 0 (.bool b) := ⟨rfl, Nat.le_refl _⟩
instance {i : Int} : ShD 0 (.int i) := ⟨rfl, Nat.le_refl _⟩
instance {q : Rat} : ShD 1 (fr q) := ⟨rfl, Nat.le_refl _⟩
instance : ShL 0 [] := ⟨rfl, Nat.le_refl _⟩
instance ShL.cons {a c : Nat} {x : D} {xs : List D} [h : ShD a x] [k : ShL c xs] : ShL (a + c) (x :: xs) := ⟨by
    show (x.canLay0 && PyData.canLayAll0 xs) = true
    rw [h.o, k.o]; rfl, by
    show max x.depth (PyData.depthAll xs) ≤ _
    have := h.dp
    have := k.dp
    omega⟩
instance ShL.tup {a : Nat} {xs : List D} [h : ShL a xs] : ShD (a + 1) (.tuple xs) := ⟨h.o, Nat.add_le_add_right h.dp 1⟩
instance ShL.lst {a : Nat} {xs : List D} [h : ShL a xs] : ShD (a + 1) (.list xs) := ⟨h.o, Nat.add_le_add_right h.dp 1⟩
theorem sh_map {α : Type} {f : α → D} {a : Nat} : ∀ (xs : List α), (∀ x, ShD a (f x)) → ShL a (xs.map f)
  | [], _ => ⟨rfl, Nat.zero_le _⟩
  | x :: xs, h => by
    have h1 := h x
    have h2 := sh_map xs h
    exact ⟨by
      show ((f x).canLay0 && PyData.canLayAll0 (xs.map f)) = true
      rw [h1.o, h2.o]; rfl, by
      show max (f x).depth (PyData.depthAll (xs.map f)) ≤ a
      have := h1.dp
      have := h2.dp
      omega⟩
instance {xs : List Rat} : ShL 1 (xs.map fr) := sh_map xs fun _ => inferInstance
instance {xs : List Int} : ShL 0 (xs.map PyData.int) := sh_map xs fun _ => inferInstance
instance {xs : List Bool} : ShL 0 (xs.map PyData.bool) := sh_map xs fun _ => inferInstance
theorem ShD.shaped {a : Nat} {d : D} (h : ShD a d) (l : a ≤ 64) : SeqAt.shaped d = true := by
  show (d.canLay0 && decide (d.depth ≤ 64)) = true
  rw [h.o, decide_eq_true (Nat.le_trans h.dp l)]; rfl
theorem cmp_eqD {a b : Nat} {x y : D} [h : ShD a x] [k : ShD b y] (l : a ≤ 64) (m : b ≤ 64) : cmpD .eq x y = some (PyData.eqv x y) := by
  show (if SeqAt.shaped x && SeqAt.shaped y then some (PyData.eqv x y) else none) = _
  rw [h.shaped l, k.shaped m]; rfl
theorem cmp_neD {a b : Nat} {x y : D} [h : ShD a x] [k : ShD b y] (l : a ≤ 64) (m : b ≤ 64) : cmpD .ne x y = some (!PyData.eqv x y) := by
  show (if SeqAt.shaped x && SeqAt.shaped y then some (!PyData.eqv x y) else none) = _
  rw [h.shaped l, k.shaped m]; rfl
@[simp] theorem eqv_int {i j : Int} : PyData.eqv (.int i) (.int j) = decide (i = j) := by
  show (i == j) = _
  rw [Bool.beq_eq_decide_eq]
@[simp] theorem eqv_bool {i j : Bool} : PyData.eqv (.bool i) (.bool j) = decide (i = j) := by
  show (i == j) = _
  rw [Bool.beq_eq_decide_eq]
@[simp] theorem eqv_none : PyData.eqv .none .none = true := (rfl)
@[simp] theorem eqv_tup {xs ys : List D} : PyData.eqv (.tuple xs) (.tuple ys) = PyData.eqvAll xs ys := (rfl)
@[simp] theorem eqv_lst {xs ys : List D} : PyData.eqv (.list xs) (.list ys) = PyData.eqvAll xs ys := (rfl)
@[simp] theorem eqvA_nil : PyData.eqvAll [] [] = true := (rfl)
@[simp] theorem eqvA_cons {x y : D} {xs ys : List D} : PyData.eqvAll (x :: xs) (y :: ys) = (PyData.eqv x y && PyData.eqvAll xs ys) := (rfl)
@[simp] theorem eqvA_cn {x : D} {xs : List D} : PyData.eqvAll (x :: xs) [] = false := (rfl)
@[simp] theorem eqvA_nc {x : D} {xs : List D} : PyData.eqvAll [] (x :: xs) = false := (rfl)
theorem eqvA_nilr {xs : List D} : PyData.eqvAll xs [] = xs.isEmpty := by cases xs <;> rfl
@[simp] theorem eqv_fr {p q : Rat} : PyData.eqv (fr p) (fr q) = decide (p = q) := by
  show PyData.eqvAll [.int p.num, .int p.den] [.int q.num, .int q.den] = _
  simp only [eqvA_cons, eqvA_nil, eqv_int, Bool.and_true]
  by_cases e : p = q
  · subst e; simp
  · rw [decide_eq_false e]
    simp only [Bool.and_eq_false_iff, decide_eq_false_iff_not]
    by_cases n : p.num = q.num
    · right
      intro d
      exact e (Rat.ext n (by omega))
    · exact .inl n
theorem eqvA_map {α : Type} [DecidableEq α] {f : α → D} (h : ∀ x y, PyData.eqv (f x) (f y) = decide (x = y)) : ∀ xs ys : List α, PyData.eqvAll (xs.map f) (ys.map f) = decide (xs = ys)
  | [], [] => rfl
  | [], _ :: _ => by simp
  | _ :: _, [] => by simp
  | x :: xs, y :: ys => by
    rw [List.map_cons, List.map_cons, eqvA_cons, h, eqvA_map h xs ys]
    by_cases a : x = y <;> by_cases b : xs = ys <;> simp [a, b]
theorem eqvA_fr (xs ys : List Rat) : PyData.eqvAll (xs.map fr) (ys.map fr) = decide (xs = ys) := eqvA_map (fun _ _ => eqv_fr) xs ys
theorem eqvA_int (xs ys : List Int) : PyData.eqvAll (xs.map PyData.int) (ys.map PyData.int) = decide (xs = ys) := eqvA_map (fun _ _ => eqv_int) xs ys
theorem eqvA_bool (xs ys : List Bool) : PyData.eqvAll (xs.map PyData.bool) (ys.map PyData.bool) = decide (xs = ys) := eqvA_map (fun _ _ => eqv_bool) xs ys
@[simp] theorem cmp_eqfr {p q : Rat} : cmpD .eq (fr p) (fr q) = some (decide (p = q)) := by rw [cmp_eqD (by decide) (by decide), eqv_fr]
@[simp] theorem cmp_nefr {p q : Rat} : cmpD .ne (fr p) (fr q) = some (!decide (p = q)) := by rw [cmp_neD (by decide) (by decide), eqv_fr]
theorem cmp_eqnil {a : Nat} {xs : List D} [ShL a xs] (l : a + 1 ≤ 64 := by decide) : cmpD .eq (.list xs) (.list []) = some xs.isEmpty := by rw [cmp_eqD l (by decide), eqv_lst, eqvA_nilr]
theorem cmp_nenil {a : Nat} {xs : List D} [ShL a xs] (l : a + 1 ≤ 64 := by decide) : cmpD .ne (.list xs) (.list []) = some (!xs.isEmpty) := by rw [cmp_neD l (by decide), eqv_lst, eqvA_nilr]
@[simp] theorem cmp_nil : cmpD .eq (.list []) (.list []) = some true := (rfl)
@[simp] theorem cmp_nenil0 : cmpD .ne (.list []) (.list []) = some false := (rfl)
/-- a comprehension that takes nothing -/
theorem lcL_none {γ : Type} {f : D → M (Option D)} {u : γ → D} : ∀ {xs : List γ}, (∀ x ∈ xs, f (u x) = ret none) → lcL f (xs.map u) = ret []
  | [], _ => rfl
  | x :: xs, h => by
    rw [List.map_cons]
    unfold lcL
    rw [h x List.mem_cons_self, bnd_ret, lcL_none fun y hy => h y (List.mem_cons_of_mem _ hy), bnd_ret]
theorem at_mapf {α : Type} {f : α → D} {xs : List α} {i : Nat} {x : α} (h : xs[i]? = some x) : L2.atI (xs.map f) (i : Int) = some (f x) := by
  rw [atI_lit, List.getElem?_map, h]
  rfl
end Ev

end
section
set_option maxHeartbeats 4000000
/-! # EvP7: ticks and rounds -/
namespace Ev.C
open PySem
section
variable (l s p k x : Rat)
/-- the spot of cut j -/
def sg (j : Nat) : Rat := sp p (hgt l s p k) (fs l s x) j
/-- the tick of cut j -/
def tn (j : Nat) : Int := fc l s x + sms p (hgt l s p k) (fs l s x) j
end
section
variable {l s p k x : Rat}
theorem tn_0 : tn l s p k x 0 = fc l s x := by
  unfold tn sms cns
  simp
theorem tn_succ (j : Nat) : tn l s p k x (j + 1) = tn l s p k x j + cnt p (hgt l s p k) (sg l s p k x j) := by
  unfold tn sg
  rw [sms_succ]
  omega
theorem sg_0 : sg l s p k x 0 = fs l s x := rfl
theorem sg_succ (j : Nat) : sg l s p k x (j + 1) = nxt p (hgt l s p k) (sg l s p k x j) := rfl
theorem sg_in (h : SetOk l s p k) (j : Nat) : 0 < sg l s p k x j ∧ sg l s p k x j ≤ 1 := by
  obtain ⟨a, b⟩ := fs_pos (l := l) h.s0 x
  exact sp_in a b j
theorem hgt_mul (h : SetOk l s p k) : hgt l s p k * s = (1 - p) * l - k := by
  unfold hgt
  exact Rat.div_mul_cancel (ne_of_pos h.s0)
theorem hgt_ge (h : SetOk l s p k) : p ≤ hgt l s p k := by
  have e := hgt_mul h
  have kp := h.kept
  have : p * s ≤ hgt l s p k * s := by grind
  exact Rat.le_of_mul_le_mul_right this h.s0
theorem cnt_ge (h : SetOk l s p k) (j : Nat) : 1 ≤ cnt p (hgt l s p k) (sg l s p k x j) := cnt_pos h.fp.p0 (hgt_ge h) (sg_in h j).2
theorem tn_lt (h : SetOk l s p k) (j : Nat) : tn l s p k x j + 1 ≤ tn l s p k x (j + 1) := by
  rw [tn_succ]
  have := cnt_ge (x := x) h j
  omega
theorem tn_mono (h : SetOk l s p k) {i j : Nat} (le : i ≤ j) : tn l s p k x i + ((j - i : Nat) : Int) ≤ tn l s p k x j := by
  induction le with
  | refl => simp
  | step le ih =>
    rename_i m
    have := tn_lt (x := x) h m
    have : ((m + 1 - i : Nat) : Int) = ((m - i : Nat) : Int) + 1 := by
      have : i ≤ m := le
      omega
    show _ ≤ tn l s p k x (m + 1)
    omega
theorem tn_pos (h : SetOk l s p k) (hx : x ≤ l) (j : Nat) : (j : Int) + 1 ≤ tn l s p k x j := by
  have a := fc_pos (l := l) h.s0 hx
  have b := tn_mono (x := x) h (Nat.zero_le j)
  rw [tn_0] at b
  simp at b
  omega
/-- where a run is behind N ticks: c cuts lie behind it -/
structure At (l s p k x : Rat) (N c : Nat) : Prop where
  cut : ctl l s p k x N = (List.range c).map (tn l s p k x)
  lt : (N : Int) < tn l s p k x c
  lev : lv l s p k x N = l + sg l s p k x c * s - ((tn l s p k x c : Rat) - ((N : Int) : Rat)) * s
theorem at_cut (h : SetOk l s p k) {N c : Nat} (a : At l s p k x N c) : l < lv l s p k x N + s ↔ tn l s p k x c = (N : Int) + 1 := by
  obtain ⟨s0, s1⟩ := sg_in (x := x) h c
  rw [a.lev]
  constructor
  · intro g
    rcases Int.lt_or_le ((N : Int) + 1) (tn l s p k x c) with z | z
    · exfalso
      have z2 : (((N : Int) + 2 : Int) : Rat) ≤ (tn l s p k x c : Rat) := Rat.intCast_le_intCast.mpr (by omega)
      rw [Rat.intCast_add, show ((2 : Int) : Rat) = 2 from rfl] at z2
      have m1 : 2 * s ≤ ((tn l s p k x c : Rat) - ((N : Int) : Rat)) * s := Rat.mul_le_mul_of_nonneg_right (by grind) (Rat.le_of_lt h.s0)
      have m2 : sg l s p k x c * s ≤ 1 * s := Rat.mul_le_mul_of_nonneg_right s1 (Rat.le_of_lt h.s0)
      grind
    · have := a.lt
      omega
  · intro e
    rw [e, Rat.intCast_add, Rat.intCast_one]
    have m : 0 < sg l s p k x c * s := Rat.mul_pos s0 h.s0
    grind
theorem at_next (h : SetOk l s p k) {N c : Nat} (a : At l s p k x N c) : At l s p k x (N + 1) (if tn l s p k x c = (N : Int) + 1 then c + 1 else c) := by
  have ac := at_cut h a
  by_cases e : tn l s p k x c = (N : Int) + 1
  · rw [if_pos e]
    have g := ac.mpr e
    refine ⟨?_, ?_, ?_⟩
    · rw [ctl_succ, if_pos g, a.cut, List.range_succ, List.map_append, ← e]
      rfl
    · have := tn_lt (x := x) h c
      omega
    · show C.tk l s p k (lv l s p k x N) = _
      unfold C.tk
      rw [if_pos g, a.lev, tn_succ, sg_succ]
      unfold nxt mv
      rw [e, Rat.intCast_add, Rat.intCast_add, show ((N + 1 : Nat) : Int) = (N : Int) + 1 by push_cast; rfl, Rat.intCast_add]
      have hm := hgt_mul h
      grind
  · rw [if_neg e]
    have g : ¬ (l < lv l s p k x N + s) := fun g => e (ac.mp g)
    refine ⟨?_, ?_, ?_⟩
    · rw [ctl_succ, if_neg g, a.cut, List.append_nil]
    · have := a.lt
      omega
    · show C.tk l s p k (lv l s p k x N) = _
      unfold C.tk
      rw [if_neg g, a.lev, show ((N + 1 : Nat) : Int) = (N : Int) + 1 by push_cast; rfl, Rat.intCast_add, Rat.intCast_one]
      grind
theorem at_all (h : SetOk l s p k) (hx : x ≤ l) : ∀ N : Nat, ∃ c, At l s p k x N c
  | 0 => by
    refine ⟨0, rfl, ?_, ?_⟩
    · have := tn_pos h hx 0
      omega
    · show x = _
      rw [tn_0, sg_0, show (((0 : Nat) : Int) : Rat) = 0 from rfl]
      unfold fs
      have := Rat.div_mul_cancel (a := x + (fc l s x : Rat) * s - l) (ne_of_pos h.s0)
      grind
  | N + 1 => by
    obtain ⟨c, a⟩ := at_all h hx N
    exact ⟨_, at_next h a⟩
theorem at_len {N c : Nat} (a : At l s p k x N c) : (ctl l s p k x N).length = c := by rw [a.cut]; simp
theorem at_le (h : SetOk l s p k) {N c : Nat} (a : At l s p k x N c) {j : Nat} (hj : j < c) : tn l s p k x j ≤ (N : Int) := by
  have : tn l s p k x j ∈ ctl l s p k x N := by
    rw [a.cut]
    exact List.mem_map.mpr ⟨j, List.mem_range.mpr hj, rfl⟩
  obtain ⟨i, h1, h2, _⟩ := ctl_mem this
  omega
theorem at_iff (h : SetOk l s p k) {N c : Nat} (a : At l s p k x N c) (j : Nat) : j < c ↔ tn l s p k x j ≤ (N : Int) := by
  constructor
  · exact at_le h a
  · intro g
    apply Classical.byContradiction
    intro n
    have := tn_mono (x := x) h (show c ≤ j by omega)
    have := a.lt
    omega
theorem at_uniq (h : SetOk l s p k) {N c : Nat} (hx : x ≤ l) (h1 : (N : Int) < tn l s p k x c) (h2 : c = 0 ∨ tn l s p k x (c - 1) ≤ (N : Int)) : At l s p k x N c := by
  obtain ⟨d, a⟩ := at_all h hx N
  have : d = c := by
    apply Classical.byContradiction
    intro ne
    rcases Nat.lt_or_ge d c with z | z
    · rcases h2 with q | q
      · omega
      · have := tn_mono (x := x) h (show d ≤ c - 1 by omega)
        have := a.lt
        omega
    · have := at_le h a (show c < d by omega)
      omega
  rwa [this] at a
/-! ### order -/
/-- when the level comes to the limit -/
def ta (l s p k x : Rat) (j : Nat) : Rat := (tn l s p k x j : Rat) - sg l s p k x j
theorem ta_succ (j : Nat) : ta l s p k x (j + 1) = (tn l s p k x j : Rat) - p * sg l s p k x j + hgt l s p k := by
  unfold ta
  rw [tn_succ, sg_succ, Rat.intCast_add]
  unfold nxt mv
  grind
theorem ta_0 (h : SetOk l s p k) : ta l s p k x 0 = (l - x) / s := by
  unfold ta
  rw [tn_0, sg_0]
  unfold fs
  have e := Rat.div_mul_cancel (a := (x + (fc l s x : Rat) * s - l)) (ne_of_pos h.s0)
  have e2 := Rat.div_mul_cancel (a := l - x) (ne_of_pos h.s0)
  have : ((fc l s x : Rat) - (x + (fc l s x : Rat) * s - l) / s) * s = (l - x) / s * s := by rw [e2]; grind
  have sn := ne_of_pos h.s0
  have h1 : ((fc l s x : Rat) - (x + (fc l s x : Rat) * s - l) / s) * s / s = (l - x) / s * s / s := by rw [this]
  rwa [Rat.mul_div_cancel sn, Rat.mul_div_cancel sn] at h1
theorem ta_tn (h : SetOk l s p k) {y : Rat} {j : Nat} (le : ta l s p k x j ≤ ta l s p k y j) : tn l s p k x j ≤ tn l s p k y j := by
  obtain ⟨a0, a1⟩ := sg_in (x := x) h j
  obtain ⟨b0, b1⟩ := sg_in (x := y) h j
  unfold ta at le
  have : (tn l s p k x j : Rat) < ((tn l s p k y j + 1 : Int) : Rat) := by
    rw [Rat.intCast_add, Rat.intCast_one]
    grind
  have := Rat.intCast_lt_intCast.mp this
  omega
theorem ta_le (h : SetOk l s p k) {y : Rat} (le : y ≤ x) : ∀ j, ta l s p k x j ≤ ta l s p k y j
  | 0 => by
    rw [ta_0 h, ta_0 h]
    rw [Rat.div_def, Rat.div_def]
    exact Rat.mul_le_mul_of_nonneg_right (by grind) (Rat.le_of_lt (Rat.inv_pos.mpr h.s0))
  | j + 1 => by
    have ih := ta_le h le j
    have lt := ta_tn h ih
    obtain ⟨a0, a1⟩ := sg_in (x := x) h j
    obtain ⟨b0, b1⟩ := sg_in (x := y) h j
    rw [ta_succ, ta_succ]
    rcases Int.lt_or_eq_of_le lt with z | z
    · have z2 : ((tn l s p k x j + 1 : Int) : Rat) ≤ (tn l s p k y j : Rat) := Rat.intCast_le_intCast.mpr z
      rw [Rat.intCast_add, Rat.intCast_one] at z2
      have m1 : 0 ≤ p * sg l s p k x j := Rat.mul_nonneg (Rat.le_of_lt h.fp.p0) (Rat.le_of_lt a0)
      have m2 : p * sg l s p k y j ≤ p * 1 := Rat.mul_le_mul_of_nonneg_left b1 (Rat.le_of_lt h.fp.p0)
      have := h.fp.p1
      grind
    · unfold ta at ih
      rw [z] at ih ⊢
      have : sg l s p k y j ≤ sg l s p k x j := by grind
      have := Rat.mul_le_mul_of_nonneg_left this (Rat.le_of_lt h.fp.p0)
      grind
theorem tn_le (h : SetOk l s p k) {y : Rat} (le : y ≤ x) (j : Nat) : tn l s p k x j ≤ tn l s p k y j := ta_tn h (ta_le h le j)
/-- one step lower: one tick later, with the same spot -/
theorem fc_down (s0 : 0 < s) (x : Rat) : fc l s (x - s) = fc l s x + 1 := by
  obtain ⟨h1, h2⟩ := fc_spec (l := l) s0 x
  refine fc_uniq s0 ?_ ?_
  · rw [Rat.intCast_add, Rat.intCast_one]; grind
  · rw [Rat.intCast_add, Rat.intCast_one]; grind
theorem fs_down (s0 : 0 < s) (x : Rat) : fs l s (x - s) = fs l s x := by
  unfold fs
  rw [fc_down s0, Rat.intCast_add, Rat.intCast_one]
  congr 1
  grind
theorem tn_down (s0 : 0 < s) (x : Rat) (j : Nat) : tn l s p k (x - s) j = tn l s p k x j + 1 := by
  unfold tn
  rw [fc_down s0, fs_down s0]
  omega
end
end Ev.C

end
section
set_option maxHeartbeats 4000000
/-! # EvP8: the law's own run, round by round -/
namespace Ev.C
open PySem
section
variable {l s p k x : Rat}
theorem lv_dnc {C : Nat} (hl : Dn C l) (hs : Dn C s) (hk : Dn C k) (hx : Dn C x) : ∀ N, Dn (C * p.den ^ (ctl l s p k x N).length) (lv l s p k x N)
  | 0 => by simpa [lv, ctl] using hx
  | N + 1 => by
    have ih := lv_dnc hl hs hk hx N
    have up : Dn (C * p.den ^ (ctl l s p k x N).length) (lv l s p k x N + s) := ih.add (hs.up _)
    show Dn _ (tk l s p k (lv l s p k x N))
    rw [ctl_succ]
    unfold tk
    by_cases c : l < lv l s p k x N + s
    · rw [if_pos c, if_pos c, List.length_append, List.length_cons, List.length_nil, Nat.zero_add]
      have e : C * p.den ^ ((ctl l s p k x N).length + 1) = p.den * (C * p.den ^ (ctl l s p k x N).length) := by rw [Nat.pow_succ]; ac_rfl
      rw [e]
      refine ((Dn.den p).mul up).add ?_
      rw [← e]
      exact hk.up _
    · rw [if_neg c, if_neg c, List.append_nil]
      exact up
theorem lv_fbc (h : Rul l s p k) {e : Nat} (hx : Beg e l x) (N : Nat) : FB (17 + e + (ctl l s p k x N).length) (lv l s p k x N) := by
  generalize ht : (ctl l s p k x N).length = t
  have C0 : 0 < l.den * s.den * k.den * x.den := Nat.mul_pos (Nat.mul_pos (Nat.mul_pos l.den_pos s.den_pos) k.den_pos) x.den_pos
  have d := lv_dnc (p := p) (((Dn.den l).up s.den).up k.den |>.up x.den) (((Dn.den s).up' l.den).up k.den |>.up x.den) ((Dn.den k).up' (l.den * s.den) |>.up x.den) ((Dn.den x).up' (l.den * s.den * k.den)) N
  rw [ht] at d
  have dl := d.le (Nat.mul_pos C0 (Nat.pow_pos p.den_pos))
  have kd : k.den ≤ 10 ^ 12 := by have := h.kb.b; unfold Bd at this; omega
  have m1 : l.den * s.den * k.den * x.den ≤ 5 * 6 * 10 ^ 12 * 10 ^ e := Nat.mul_le_mul (Nat.mul_le_mul (Nat.mul_le_mul h.ld h.sd) kd) hx.d
  have m2 : p.den ^ t ≤ 10 ^ t := Nat.pow_le_pow_left (by have := h.cut.d; omega) t
  have m3 : l.den * s.den * k.den * x.den * p.den ^ t ≤ 5 * 6 * 10 ^ 12 * 10 ^ e * 10 ^ t := Nat.mul_le_mul m1 m2
  have m4 : 5 * 6 * 10 ^ 12 * 10 ^ e * 10 ^ t < 10 ^ (14 + e + t) := by
    rw [Nat.pow_add, Nat.pow_add]
    exact Nat.mul_lt_mul_of_pos_right (Nat.mul_lt_mul_of_pos_right (by decide) (Nat.pow_pos (by decide))) (Nat.pow_pos (by decide))
  have lo : -1000 ≤ lv l s p k x N := lv_ge h.ok hx.lo (by
    have e := h.eqk
    have := h.lot.hi
    have := h.l0
    have s0 := h.ok.s0
    have : hgt l s p k * s ≤ 9 * s := Rat.mul_le_mul_of_nonneg_right h.lot.hi (Rat.le_of_lt s0)
    have := h.s1
    rw [e]
    grind) N
  have hi := lv_le h.ok hx.le N
  have l1 := h.l1
  have := FB.of_den (a := 14 + e + t) (b := 3) (q := lv l s p k x N) (M := 1000) (by omega) (by rw [Rat.natCast_ofNat]; exact lo) (by rw [Rat.natCast_ofNat]; grind) (by decide)
  exact this.mono (by omega)
theorem fc_near (h : SetOk l s p k) (lo : l - 40 * s ≤ x) : fc l s x ≤ 41 := by
  obtain ⟨h1, h2⟩ := fc_spec (l := l) h.s0 x
  have s0 := h.s0
  have : ((fc l s x : Rat) - 1) * s ≤ 40 * s := by grind
  have h3 : (fc l s x : Rat) - 1 ≤ 40 := Rat.le_of_mul_le_mul_right this s0
  have h4 : ((fc l s x - 1 : Int) : Rat) ≤ ((40 : Int) : Rat) := by rw [Rat.intCast_sub]; exact h3
  have := Rat.intCast_le_intCast.mp h4
  omega
theorem cnt_le (hr : Rul l s p k) (j : Nat) : cnt p (hgt l s p k) (sg l s p k x j) ≤ 10 := by
  have := cnt_lt (p := p) (h := hgt l s p k) (s := sg l s p k x j) (H := 9) hr.ok.fp.p0 (Rat.le_of_lt (sg_in hr.ok j).1) hr.lot.hi
  omega
theorem tn_le' (hr : Rul l s p k) (hx : fc l s x ≤ 41) : ∀ j : Nat, tn l s p k x j ≤ 41 + 10 * (j : Int)
  | 0 => by rw [tn_0]; omega
  | j + 1 => by
    have ih := tn_le' hr hx j
    have := cnt_le (x := x) hr j
    rw [tn_succ]
    omega
/-- the tick of the cut before cut j -/
def pv (l s p k x : Rat) : Nat → Int
  | 0 => 0
  | j + 1 => tn l s p k x j
/-- the ticks from cut to cut -/
def gaps (l s p k x : Rat) (c : Nat) : List Int := (List.range c).map fun j => tn l s p k x j - pv l s p k x j
def sgs (l s p k x : Rat) (c : Nat) : List Rat := (List.range c).map (sg l s p k x)
theorem gaps_succ (c : Nat) : gaps l s p k x (c + 1) = gaps l s p k x c ++ [tn l s p k x c - pv l s p k x c] := by
  unfold gaps
  rw [List.range_succ, List.map_append]
  rfl
theorem sgs_succ (c : Nat) : sgs l s p k x (c + 1) = sgs l s p k x c ++ [sg l s p k x c] := by
  unfold sgs
  rw [List.range_succ, List.map_append]
  rfl
theorem gaps_all (n : Nat) : gaps l s p k x (n + 1) = fc l s x :: cns p (hgt l s p k) (fs l s x) n := by
  unfold gaps cns
  rw [List.range_succ_eq_map, List.map_cons, List.map_map]
  congr 1
  · rw [tn_0]
    show fc l s x - 0 = _
    omega
  · refine List.map_congr_left fun j _ => ?_
    show tn l s p k x (j + 1) - tn l s p k x j = _
    rw [tn_succ]
    unfold sg
    omega
theorem sgs_all (n : Nat) : sgs l s p k x (n + 1) = fs l s x :: sps p (hgt l s p k) (fs l s x) n := by
  unfold sgs sps
  rw [List.range_succ_eq_map, List.map_cons, List.map_map]
  rfl
@[simp] theorem gaps_len (n : Nat) : (gaps l s p k x n).length = n := by simp [gaps]
@[simp] theorem sgs_len (n : Nat) : (sgs l s p k x n).length = n := by simp [sgs]
abbrev lrT : Tb := ⟨[f_u_law_tick, F.f_u_law_over, F.f_u_law_minus], c_u_law_run⟩
theorem at_spot (h : SetOk l s p k) {N c : Nat} (a : At l s p k x N c) (e : tn l s p k x c = (N : Int) + 1) : (lv l s p k x N + s - l) / s = sg l s p k x c := by
  have : lv l s p k x N + s - l = sg l s p k x c * s := by
    rw [a.lev, e, Rat.intCast_add, Rat.intCast_one]
    grind
  rw [this, Rat.mul_div_cancel (ne_of_pos h.s0)]
theorem run_loop2 [h : SetOk l s p k] (n : Nat) (hn : n ≤ 1000) (hb : ∀ N c, At l s p k x N c → c ≤ n + 1 → FB 200 (lv l s p k x N)) : ∀ (xs : List D) (N c : Nat) (o6 o7 : Option D), At l s p k x N c → c ≤ n + 1 → (c = n + 1 ∨ tn l s p k x n - N ≤ xs.length) → 1 ≤ xs.length → (c ≤ n → tn l s p k x n - N + 1 ≤ xs.length) →
    ∃ o1 o5 o6' o7', forL (fun y env => bnd (lft (asgT (.n 6) y env)) fun env' => evSs lrT 1000000 b_u_law_run_1 env') xs [some (st l s p k), some (fr (lv l s p k x N)), some (.int n), some (.list ((gaps l s p k x c).map .int)), some (.list ((sgs l s p k x c).map fr)), some (.int ((N : Int) - pv l s p k x c)), o6, o7] = ret (.nx [some (st l s p k), o1, some (.int n), some (.list ((gaps l s p k x (n + 1)).map .int)), some (.list ((sgs l s p k x (n + 1)).map fr)), o5, o6', o7'])
  | [], N, c, o6, o7, a, hc, hl, h1, h2 => by simp at h1
  | y :: xs, N, c, o6, o7, a, hc, hl, h1, h2 => by
    unfold forL
    by_cases full : c = n + 1
    · subst full
      have gt : (n : Int) < (n : Int) + 1 := by omega
      have body : (bnd (lft (asgT (.n 6) y [some (st l s p k), some (fr (lv l s p k x N)), some (.int n), some (.list ((gaps l s p k x (n + 1)).map .int)), some (.list ((sgs l s p k x (n + 1)).map fr)), some (.int ((N : Int) - pv l s p k x (n + 1))), o6, o7])) fun env' => evSs lrT 1000000 b_u_law_run_1 env') = ret (.bk [some (st l s p k), some (fr (lv l s p k x N)), some (.int n), some (.list ((gaps l s p k x (n + 1)).map .int)), some (.list ((sgs l s p k x (n + 1)).map fr)), some (.int ((N : Int) - pv l s p k x (n + 1))), some y, o7]) := by
        simp [b_u_law_run_1, gt]
      rw [body, bnd_ret]
      exact ⟨_, _, _, _, rfl⟩
    · have hc' : c ≤ n := by omega
      have h2' := h2 hc'
      have q : QB 200 (lv l s p k x N) := ⟨hb N c a hc⟩
      have := h.fl; have := h.fs; have := h.fp; have := h.fk
      have n0 := ne_of_pos h.s0
      have tk := ev_ltick (l := l) (s := s) (p := p) (k := k) (x := lv l s p k x N) (n := 200) (by decide)
      have l1 : lenOk (c + 1) = true := lenOk_le (by omega)
      have ng : ¬ ((n : Int) < (c : Int)) := by omega
      have nx := at_next h a
      have ac := at_cut h a
      have mono := tn_mono (x := x) h hc'
      have lt := a.lt
      by_cases e : tn l s p k x c = (N : Int) + 1
      · rw [if_pos e] at nx
        have g := ac.mpr e
        have sp := at_spot h a e
        have body : (bnd (lft (asgT (.n 6) y [some (st l s p k), some (fr (lv l s p k x N)), some (.int n), some (.list ((gaps l s p k x c).map .int)), some (.list ((sgs l s p k x c).map fr)), some (.int ((N : Int) - pv l s p k x c)), o6, o7])) fun env' => evSs lrT 1000000 b_u_law_run_1 env') = ret (.nx [some (st l s p k), some (fr (lv l s p k x (N + 1))), some (.int n), some (.list ((gaps l s p k x (c + 1)).map .int)), some (.list ((sgs l s p k x (c + 1)).map fr)), some (.int (((N + 1 : Nat) : Int) - pv l s p k x (c + 1))), some y, some (fr (lv l s p k x N + s))]) := by
          have e2 : ((N + 1 : Nat) : Int) - pv l s p k x (c + 1) = 0 := by
            show _ - tn l s p k x c = 0
            omega
          rw [gaps_succ, sgs_succ, e2]
          have e3 : (N : Int) - pv l s p k x c + 1 = tn l s p k x c - pv l s p k x c := by omega
          have e4 : lv l s p k x (N + 1) = C.tk l s p k (lv l s p k x N) := rfl
          rw [e4]
          simp [b_u_law_run_1, lrT, tk, g, ng, n0, sp, l1, e3]
        rw [body, bnd_ret]
        refine run_loop2 n hn hb xs (N + 1) (c + 1) _ _ nx (by omega) ?_ ?_ ?_
        · simp at h2'
          rcases Nat.lt_or_ge c n with z | z
          · right; omega
          · left; omega
        · simp at h2'; omega
        · intro _; simp at h2'; omega
      · rw [if_neg e] at nx
        have g : ¬ (l < lv l s p k x N + s) := fun g => e (ac.mp g)
        have body : (bnd (lft (asgT (.n 6) y [some (st l s p k), some (fr (lv l s p k x N)), some (.int n), some (.list ((gaps l s p k x c).map .int)), some (.list ((sgs l s p k x c).map fr)), some (.int ((N : Int) - pv l s p k x c)), o6, o7])) fun env' => evSs lrT 1000000 b_u_law_run_1 env') = ret (.nx [some (st l s p k), some (fr (lv l s p k x (N + 1))), some (.int n), some (.list ((gaps l s p k x c).map .int)), some (.list ((sgs l s p k x c).map fr)), some (.int (((N + 1 : Nat) : Int) - pv l s p k x c)), some y, some .none]) := by
          have e3 : (N : Int) - pv l s p k x c + 1 = ((N + 1 : Nat) : Int) - pv l s p k x c := by push_cast; omega
          have e4 : lv l s p k x (N + 1) = C.tk l s p k (lv l s p k x N) := rfl
          rw [e4, ← e3]
          simp [b_u_law_run_1, lrT, tk, g, ng]
        rw [body, bnd_ret]
        refine run_loop2 n hn hb xs (N + 1) c _ _ nx hc ?_ ?_ ?_
        · right; simp at h2'; omega
        · simp at h2'; omega
        · intro _; simp at h2'; omega
theorem ev_lrun [h : SetOk l s p k] {n : Nat} (hx : x ≤ l) (hn : n ≤ 1000) (hb : ∀ N c, At l s p k x N c → c ≤ n + 1 → FB 200 (lv l s p k x N)) (ht : tn l s p k x n ≤ 90000) : f_u_law_run.m [st l s p k, fr x, .int n] = ret (.tuple [.int (fc l s x), .list ((cns p (hgt l s p k) (fs l s x) n).map .int), .list (fr (fs l s x) :: (sps p (hgt l s p k) (fs l s x) n).map fr)]) := by
  have a0 : At l s p k x 0 0 := by
    obtain ⟨c, a⟩ := at_all h hx 0
    have := at_len a
    have e : ctl l s p k x 0 = [] := rfl
    rw [e] at this
    simp at this
    subst this
    exact a
  have g1 : rngOk 100000 = true := by decide
  have len : (rngD 0 100000).length = 100000 := by rw [rngD_len]; rfl
  obtain ⟨o1, o5, o6, o7, e⟩ := run_loop2 n hn hb (rngD 0 100000) 0 0 none none a0 (by omega) (by rw [len]; omega) (by rw [len]; omega) (by rw [len]; omega)
  have e1 : gaps l s p k x 0 = [] := rfl
  have e2 : sgs l s p k x 0 = [] := rfl
  have e3 : lv l s p k x 0 = x := rfl
  have e4 : pv l s p k x 0 = 0 := rfl
  rw [e1, e2, e3, e4, gaps_all, sgs_all] at e
  have cd := cutA_drop (((fc l s x) :: cns p (hgt l s p k) (fs l s x) n).map PyData.int) 1
  simp at cd
  simp at e
  simp [f_u_law_run, b_u_law_run, run, g1]
  rw [e]
  simp [isNo, cd]
end
end Ev.C

end
section
set_option maxHeartbeats 4000000
/-! # EvP9: settings made, rounds put together, counts -/
namespace Ev.C
open PySem
theorem rul_mk {l s p x : Rat} (hp : Cut p) (hx : Lot p x) (lb : FB 2 l) (sb : FB 1 s) (l0 : -20 ≤ l) (l1 : l ≤ 40) (ld : l.den ≤ 5) (s0 : 0 < s) (s1 : s ≤ 9) (sd : s.den ≤ 6) : Rul l s p ((1 - p) * l - x * s) := by
  have sn : s ≠ 0 := ne_of_pos s0
  have kb := ((fb_one.sub hp.fb).mul lb).sub (hx.fb.mul sb)
  have eh : hgt l s p ((1 - p) * l - x * s) = x := by
    unfold hgt
    have : (1 - p) * l - ((1 - p) * l - x * s) = x * s := by grind
    rw [this, Rat.mul_div_cancel sn]
  refine ⟨⟨FM.of lb, FM.of sb, hp.ok, FM.of kb, s0, ?_⟩, hp, by rw [eh]; exact hx, lb, sb, kb, l0, l1, ld, s1, sd, by rw [eh]⟩
  have := hx.ok.le
  have := Rat.mul_le_mul_of_nonneg_right this (Rat.le_of_lt s0)
  grind
theorem cns_take (p h f : Rat) {n m : Nat} (hm : m ≤ n) : (cns p h f n).take m = cns p h f m := by
  unfold cns
  rw [← List.map_take, List.take_range, Nat.min_eq_left hm]
theorem sps_take (p h f : Rat) {n m : Nat} (hm : m ≤ n) : (sps p h f n).take m = sps p h f m := by
  unfold sps
  rw [← List.map_take, List.take_range, Nat.min_eq_left hm]
section
variable {p h f : Rat}
theorem sp_add (a : Nat) : ∀ b, sp p h f (a + b) = sp p h (sp p h f a) b
  | 0 => rfl
  | b + 1 => by
    show nxt p h (sp p h f (a + b)) = nxt p h (sp p h (sp p h f a) b)
    rw [sp_add a b]
theorem cns_add (a : Nat) : ∀ b, cns p h f (a + b) = cns p h f a ++ cns p h (sp p h f a) b
  | 0 => by simp [cns]
  | b + 1 => by
    rw [← Nat.add_assoc, cns_succ, cns_add a b, cns_succ, sp_add, List.append_assoc]
theorem sps_add (a : Nat) : ∀ b, sps p h f (a + b) = sps p h f a ++ sps p h (sp p h f a) b
  | 0 => by simp [sps]
  | b + 1 => by
    rw [← Nat.add_assoc, sps_succ, sps_add a b, sps_succ, List.append_assoc, Nat.add_assoc, sp_add]
theorem cns_first (n : Nat) : cns p h f (n + 1) = cnt p h f :: cns p h (nxt p h f) n := by
  rw [Nat.add_comm, cns_add]
  rfl
theorem sps_first (n : Nat) : sps p h f (n + 1) = nxt p h f :: sps p h (nxt p h f) n := by
  rw [Nat.add_comm, sps_add]
  rfl
theorem atI_last {x : D} {xs : List D} : L2.atI (xs ++ [x]) (-1) = some x := by
  unfold L2.atI L2.ixN
  simp
  have h1 : (1 : Int) ≤ (xs.length : Int) + 1 := by omega
  have h2 : (-1 + ((xs.length : Int) + 1)).toNat = xs.length := by omega
  rw [if_pos h1, h2]
  simp
theorem smsL_last (n : Nat) : (smsL p h f n).map PyData.int = ((List.range n).map (sms p h f)).map PyData.int ++ [.int (sms p h f n)] := by
  unfold smsL
  rw [List.range_succ, List.map_append, List.map_append]
  rfl
theorem counts_loop {T : Tb} {a0 a1 a2 a3 : Option D} : ∀ (m t : Nat) (o5 : Option D), t + m ≤ 2000 →
    ∃ o5', forL (fun x env => bnd (lft (asgT (.n 5) x env)) fun env' => evSs T 1000000 b_counts_after_1 env') (((cns p h f (t + m)).drop t).map PyData.int) [a0, a1, a2, a3, some (.list ((smsL p h f t).map .int)), o5] = ret (.nx [a0, a1, a2, a3, some (.list ((smsL p h f (t + m)).map .int)), o5'])
  | 0, t, o5, ht => by
    have : (cns p h f (t + 0)).drop t = [] := List.drop_eq_nil_of_le (by simp)
    rw [this]
    exact ⟨_, rfl⟩
  | m + 1, t, o5, ht => by
    have d : (cns p h f (t + (m + 1))).drop t = cnt p h (sp p h f t) :: (cns p h f (t + (m + 1))).drop (t + 1) := by
      rw [List.drop_eq_getElem_cons (by simp)]
      congr 1
      simp [cns]
    rw [d, List.map_cons]
    unfold forL
    have l1 : lenOk ((smsL p h f t).length + 1) = true := lenOk_le (by rw [smsL_len]; omega)
    have la : L2.atI ((smsL p h f t).map PyData.int) (-1) = some (.int (sms p h f t)) := by rw [smsL_last]; exact atI_last
    have body : (bnd (lft (asgT (.n 5) (.int (cnt p h (sp p h f t))) [a0, a1, a2, a3, some (.list ((smsL p h f t).map .int)), o5])) fun env' => evSs T 1000000 b_counts_after_1 env') = ret (.nx [a0, a1, a2, a3, some (.list ((smsL p h f (t + 1)).map .int)), some (.int (cnt p h (sp p h f t)))]) := by
      rw [smsL_succ, sms_succ]
      simp [b_counts_after_1, l1, la]
    rw [body, bnd_ret]
    have z := counts_loop (T := T) (a0 := a0) (a1 := a1) (a2 := a2) (a3 := a3) m (t + 1) (some (.int (cnt p h (sp p h f t)))) (by omega)
    rw [show t + 1 + m = t + (m + 1) by omega] at z
    exact z
theorem ev_counts {N : Nat} [PartOk p] [hh : HeightOk p h] [SpotOk f] {n : Nat} (hn : n ≤ 1000) (l : N ≤ 300) (hb : SpB N p h f n) : f_counts_after.m [fr p, fr h, fr f, .int n] = ret (.tuple ((smsL p h f n).map .int)) := by
  have := hh.fm
  have e := ev_roundsin (p := p) (h := h) (s := f) (a := 31) (b := 31) (N := N) (by omega) hn hb
  obtain ⟨o5, lp⟩ := counts_loop (T := ⟨[f_check_place, f_rounds_in, f_check_many], c_counts_after⟩) (p := p) (h := h) (f := f) (a0 := some (fr p)) (a1 := some (fr h)) (a2 := some (fr f)) (a3 := some (.int n)) n 0 none (by omega)
  have e0 : smsL p h f 0 = [0] := rfl
  rw [e0] at lp
  simp at lp
  simp [f_counts_after, b_counts_after, run, ev_checkmany hn, e]
  rw [lp]
  simp
end
section
variable {l s p k : Rat}
/-- the level behind a cut with a spot -/
def beh (l s p k f : Rat) : Rat := p * (l + f * s) + k
theorem beh_div (h : SetOk l s p k) (f : Rat) : (l - beh l s p k f) / s = -mv p (hgt l s p k) f := by
  have e := hgt_mul h
  have : l - beh l s p k f = -mv p (hgt l s p k) f * s := by unfold beh mv; grind
  rw [this, Rat.mul_div_cancel (ne_of_pos h.s0)]
theorem beh_fc (h : SetOk l s p k) (f : Rat) : fc l s (beh l s p k f) = cnt p (hgt l s p k) f := by
  unfold fc cnt
  rw [beh_div h, Rat.ceil_eq_neg_floor_neg]
  omega
theorem beh_fs (h : SetOk l s p k) (f : Rat) : fs l s (beh l s p k f) = nxt p (hgt l s p k) f := by
  unfold fs
  rw [beh_fc h]
  have e := hgt_mul h
  have : beh l s p k f + (cnt p (hgt l s p k) f : Rat) * s - l = nxt p (hgt l s p k) f * s := by
    unfold beh nxt mv
    grind
  rw [this, Rat.mul_div_cancel (ne_of_pos h.s0)]
theorem beh_le (h : SetOk l s p k) {f : Rat} (f1 : f ≤ 1) : beh l s p k f ≤ l := by
  have m1 : f * s ≤ 1 * s := Rat.mul_le_mul_of_nonneg_right f1 (Rat.le_of_lt h.s0)
  have m2 : p * (l + f * s) ≤ p * (l + s) := Rat.mul_le_mul_of_nonneg_left (by grind) (Rat.le_of_lt h.fp.p0)
  have := h.kept
  unfold beh
  grind
end
end Ev.C

end
section
set_option maxHeartbeats 4000000
/-! # EvP10: settings moved, scaled, made -/
namespace Ev.C
open PySem
section
variable {l s p k : Rat}
theorem ev_lotof [h : SetOk l s p k] : f_u_law_lot_of.m [st l s p k] = ret (fr (hgt l s p k)) := by
  have := h.fl; have := h.fs; have := h.fp; have := h.fk
  have n0 := ne_of_pos h.s0
  simp [f_u_law_lot_of, b_u_law_lot_of, run, n0, hgt]
theorem ev_settingof {h : Rat} [PartOk p] [hh : HeightOk p h] : f_setting_of.m [fr p, fr h] = ret (st 0 1 p (-h)) := by
  have := hh.fm
  simp [f_setting_of, b_setting_of, run, neg_fr, st_eq]
theorem set_of {h : Rat} [hp : PartOk p] [hh : HeightOk p h] : SetOk 0 1 p (-h) := by
  have := hh.fm
  have := hh.le
  exact ⟨inferInstance, inferInstance, hp, FM.neg hh.fm, by decide, by grind⟩
theorem hgt_of {h : Rat} : hgt 0 1 p (-h) = h := by
  unfold hgt
  have : (1 - p) * 0 - -h = h := by grind
  rw [this]
  have := Rat.mul_div_cancel (a := h) (b := 1) (by decide)
  rwa [Rat.mul_one] at this
theorem ev_spotlevel {f : Rat} [h : SetOk l s p k] [SpotOk f] : f_spot_level.m [st l s p k, fr f] = ret (fr (l + f * s)) := by
  have := h.fl; have := h.fs; have := h.fp; have := h.fk
  simp [f_spot_level, b_spot_level, run]
theorem ev_levelspot {x : Rat} [h : SetOk l s p k] [hx : FM x] (lo : l < x) (hi : x ≤ l + s) : f_level_spot.m [st l s p k, fr x] = ret (fr ((x - l) / s)) := by
  have := h.fl; have := h.fs; have := h.fp; have := h.fk
  have n0 := ne_of_pos h.s0
  have n1 : ¬ (l + s < x) := Rat.not_lt.mpr hi
  simp [f_level_spot, b_level_spot, run, n0, lo, n1]
theorem ev_checkabove {x : Rat} [hx : FM x] (h0 : 0 < x) : f_check_above.m [fr x] = ret (fr x) := by
  simp [f_check_above, b_check_above, run, h0]
theorem ev_moved {x : Rat} [h : SetOk l s p k] [hx : FM x] : f_moved.m [st l s p k, fr x] = ret (st (l + x) s p (k + (1 - p) * x)) := by
  have := h.fl; have := h.fs; have := h.fp; have := h.fk
  simp [f_moved, b_moved, run, st_eq]
theorem ev_scaled {x : Rat} [h : SetOk l s p k] [hx : FM x] (h0 : 0 < x) : f_scaled.m [st l s p k, fr x] = ret (st (l * x) (s * x) p (k * x)) := by
  have := h.fl; have := h.fs; have := h.fp; have := h.fk
  simp [f_scaled, b_scaled, run, st_eq, ev_checkabove h0]
theorem ev_alike {l' s' p' k' : Rat} [h : SetOk l s p k] [h' : SetOk l' s' p' k'] : f_alike.m [st l s p k, st l' s' p' k'] = ret (.bool (decide (p = p') && decide (hgt l s p k = hgt l' s' p' k'))) := by
  by_cases c : p = p'
  · subst c
    simp [f_alike, b_alike, run]
  · simp [f_alike, b_alike, run, c]
end
theorem ok_st {l s p k : Rat} [a : OkD 1 2 (fr l)] [b : OkD 1 2 (fr s)] [c : OkD 1 2 (fr p)] [d : OkD 1 2 (fr k)] : OkD 5 12 (st l s p k) := by
  have : OkD 5 12 (.tuple [fr l, fr s, fr p, fr k]) := inferInstance
  exact this
end Ev.C

end
section
set_option maxHeartbeats 4000000
/-! # EvP11: greater heights, less parts -/
namespace Ev.C
open PySem
section
variable {p h f : Rat}
/-- when the level comes to the limit -/
def th (p h f : Rat) (n : Nat) : Rat := (sms p h f n : Rat) - sp p h f n
theorem th_succ (n : Nat) : th p h f (n + 1) = (sms p h f n : Rat) - p * sp p h f n + h := by
  unfold th
  rw [sms_succ, Rat.intCast_add]
  show _ - nxt p h (sp p h f n) = _
  unfold nxt mv
  grind
theorem th_sms {p' h' f' : Rat} {n : Nat} {c : Int} (f0 : 0 < f) (f1 : f ≤ 1) (g0 : 0 < f') (g1 : f' ≤ 1) (le : th p h f n ≤ th p' h' f' n + (c : Rat)) : sms p h f n ≤ sms p' h' f' n + c := by
  obtain ⟨a0, a1⟩ := sp_in (p := p) (h := h) f0 f1 n
  obtain ⟨b0, b1⟩ := sp_in (p := p') (h := h') g0 g1 n
  unfold th at le
  have : (sms p h f n : Rat) < ((sms p' h' f' n + c + 1 : Int) : Rat) := by
    rw [Rat.intCast_add, Rat.intCast_add, Rat.intCast_one]
    grind
  have := Rat.intCast_lt_intCast.mp this
  omega
/-- a greater height, a less part: no fewer ticks -/
theorem th_le {p' h' : Rat} (p0 : 0 < p) (p1 : p < 1) (q0 : 0 < p') (pp : p' ≤ p) (hh : h ≤ h') (f0 : 0 < f) (f1 : f ≤ 1) : ∀ n, th p h f n ≤ th p' h' f n
  | 0 => Rat.le_refl
  | n + 1 => by
    have ih := th_le p0 p1 q0 pp hh f0 f1 n
    have lt := th_sms (p := p) (h := h) (p' := p') (h' := h') (n := n) (c := 0) f0 f1 f0 f1 (by rw [show ((0 : Int) : Rat) = 0 from rfl]; grind)
    obtain ⟨a0, a1⟩ := sp_in (p := p) (h := h) f0 f1 n
    obtain ⟨b0, b1⟩ := sp_in (p := p') (h := h') f0 f1 n
    rw [th_succ, th_succ]
    rcases Int.lt_or_eq_of_le lt with z | z
    · have z2 : ((sms p h f n + 1 : Int) : Rat) ≤ (sms p' h' f n : Rat) := Rat.intCast_le_intCast.mpr (by omega)
      rw [Rat.intCast_add, Rat.intCast_one] at z2
      have m1 : 0 ≤ p * sp p h f n := Rat.mul_nonneg (Rat.le_of_lt p0) (Rat.le_of_lt a0)
      have m2 : p' * sp p' h' f n ≤ p' * 1 := Rat.mul_le_mul_of_nonneg_left b1 (Rat.le_of_lt q0)
      grind
    · unfold th at ih
      rw [Int.add_zero] at z
      rw [z] at ih ⊢
      have s1 : sp p' h' f n ≤ sp p h f n := by grind
      have m1 := Rat.mul_le_mul_of_nonneg_left s1 (Rat.le_of_lt q0)
      have m2 := Rat.mul_le_mul_of_nonneg_right pp (Rat.le_of_lt a0)
      grind
theorem sms_le {p' h' : Rat} (p0 : 0 < p) (p1 : p < 1) (q0 : 0 < p') (pp : p' ≤ p) (hh : h ≤ h') (f0 : 0 < f) (f1 : f ≤ 1) (n : Nat) : sms p h f n ≤ sms p' h' f n := by
  have := th_sms (p := p) (h := h) (p' := p') (h' := h') (c := 0) f0 f1 f0 f1 (n := n) (by rw [show ((0 : Int) : Rat) = 0 from rfl]; have := th_le p0 p1 q0 pp hh f0 f1 n; grind)
  omega
/-- a whole number more -/
theorem mv_whole (w : Int) (y : Rat) : mv p (h + w) y = mv p h y + ((-w : Int) : Rat) := by
  unfold mv
  rw [Rat.intCast_neg]
  grind
theorem cnt_whole (w : Int) (y : Rat) : cnt p (h + w) y = cnt p h y + w := by
  unfold cnt
  rw [mv_whole, Rat.ceil_add_intCast]
  omega
theorem nxt_whole (w : Int) (y : Rat) : nxt p (h + w) y = nxt p h y := by
  unfold nxt
  rw [mv_whole, cnt_whole, Rat.intCast_add, Rat.intCast_neg]
  grind
theorem sp_whole (w : Int) : ∀ n, sp p (h + w) f n = sp p h f n
  | 0 => rfl
  | n + 1 => by
    show nxt p (h + w) (sp p (h + w) f n) = nxt p h (sp p h f n)
    rw [sp_whole w n, nxt_whole]
theorem cns_whole (w : Int) (n : Nat) : cns p (h + w) f n = (cns p h f n).map (· + w) := by
  unfold cns
  rw [List.map_map]
  refine List.map_congr_left fun i _ => ?_
  rw [sp_whole, cnt_whole]
  rfl
theorem sps_whole (w : Int) (n : Nat) : sps p (h + w) f n = sps p h f n := by
  unfold sps
  refine List.map_congr_left fun i _ => ?_
  rw [sp_whole]
/-- by a little more -/
theorem th_little (p0 : 0 < p) (p1 : p < 1) (f0 : 0 < f) (f1 : f ≤ 1) : ∀ n : Nat, th p (h + (1 - p)) f n ≤ th p h f n + (((n : Nat) : Int) : Rat)
  | 0 => by
    rw [show (((0 : Nat) : Int) : Rat) = 0 from rfl]
    show th p _ f 0 ≤ th p h f 0 + 0
    unfold th sms cns sp
    simp
    grind
  | n + 1 => by
    have ih := th_little p0 p1 f0 f1 n
    have lt := th_sms f0 f1 f0 f1 ih
    obtain ⟨a0, a1⟩ := sp_in (p := p) (h := h) f0 f1 n
    obtain ⟨b0, b1⟩ := sp_in (p := p) (h := h + (1 - p)) f0 f1 n
    rw [th_succ, th_succ, show ((n + 1 : Nat) : Int) = (n : Int) + 1 by push_cast; rfl, Rat.intCast_add, Rat.intCast_one]
    have m1 : 0 ≤ p * sp p (h + (1 - p)) f n := Rat.mul_nonneg (Rat.le_of_lt p0) (Rat.le_of_lt b0)
    have m2 : p * sp p h f n ≤ p * 1 := Rat.mul_le_mul_of_nonneg_left a1 (Rat.le_of_lt p0)
    rcases Int.lt_or_eq_of_le lt with z | z
    · have z2 : ((sms p (h + (1 - p)) f n + 1 : Int) : Rat) ≤ ((sms p h f n + n : Int) : Rat) := Rat.intCast_le_intCast.mpr (by omega)
      rw [Rat.intCast_add, Rat.intCast_add, Rat.intCast_one] at z2
      grind
    · unfold th at ih
      have z2 : (sms p (h + (1 - p)) f n : Rat) = (sms p h f n : Rat) + ((n : Int) : Rat) := by rw [z, Rat.intCast_add]
      rw [z2] at ih ⊢
      have s1 : sp p h f n ≤ sp p (h + (1 - p)) f n := by grind
      have m3 := Rat.mul_le_mul_of_nonneg_left s1 (Rat.le_of_lt p0)
      grind
theorem sms_little (p0 : 0 < p) (p1 : p < 1) (f0 : 0 < f) (f1 : f ≤ 1) (n : Nat) : sms p (h + (1 - p)) f n ≤ sms p h f n + n := th_sms f0 f1 f0 f1 (th_little p0 p1 f0 f1 n)
end
end Ev.C

end
section
set_option maxHeartbeats 4000000
/-! # EvP12: floor sums -/
namespace Ev.C
open PySem
/-- the floor of so many means -/
def flo (m : Rat) (i : Nat) : Int := (((i : Int) + 1) * m.num) / (m.den : Int)
section
variable {p m : Rat}
theorem den_pos' (m : Rat) : (0 : Int) < (m.den : Int) := by have := m.den_pos; omega
theorem flo_nonneg (h : 0 ≤ m.num) (i : Nat) : 0 ≤ flo m i := by
  unfold flo
  exact Int.ediv_nonneg (Int.mul_nonneg (by omega) h) (by have := den_pos' m; omega)
theorem flo_period (i : Nat) : flo m (i + m.den) = flo m i + m.num := by
  unfold flo
  have e : (((i + m.den : Nat) : Int) + 1) * m.num = ((i : Int) + 1) * m.num + m.num * (m.den : Int) := by
    push_cast; grind
  rw [e, Int.add_mul_ediv_right _ _ (by have := den_pos' m; omega)]
theorem rat_den (m : Rat) : m * (m.den : Rat) = (m.num : Rat) := by
  have h0 : ((m.den : Nat) : Rat) ≠ 0 := by
    intro z
    have := Rat.natCast_eq_zero_iff.mp z
    have := m.den_pos
    omega
  have e := Rat.num_divInt_den m
  rw [Rat.divInt_eq_div, Rat.intCast_natCast] at e
  have := Rat.div_mul_cancel (a := (m.num : Rat)) h0
  rw [e] at this
  exact this
theorem flo_le (i : Nat) : (flo m i : Rat) ≤ (((i : Int) + 1 : Int) : Rat) * m := by
  have d := den_pos' m
  have h1 : flo m i * (m.den : Int) ≤ ((i : Int) + 1) * m.num := by
    unfold flo
    exact Int.ediv_mul_le _ (by omega)
  have h2 : ((flo m i * (m.den : Int) : Int) : Rat) ≤ ((((i : Int) + 1) * m.num : Int) : Rat) := Rat.intCast_le_intCast.mpr h1
  rw [Rat.intCast_mul, Rat.intCast_mul, ← rat_den m, Rat.intCast_natCast] at h2
  have dp : (0 : Rat) < (m.den : Rat) := Rat.natCast_pos.mpr m.den_pos
  have h3 : (flo m i : Rat) * (m.den : Rat) ≤ ((((i : Int) + 1 : Int) : Rat) * m) * (m.den : Rat) := by grind
  exact Rat.le_of_mul_le_mul_right h3 dp
/-- the sum of so many things from thing j on -/
def fsum (p m : Rat) (j : Nat) : Nat → Rat
  | 0 => 0
  | n + 1 => fsum p m j n + p ^ n * (flo m (n + j) : Rat)
theorem fsum_first (j : Nat) : ∀ n, fsum p m j (n + 1) = (flo m j : Rat) + p * fsum p m (j + 1) n
  | 0 => by
    show (0 : Rat) + p ^ 0 * (flo m (0 + j) : Rat) = _ + p * 0
    rw [Rat.pow_zero, Nat.zero_add]
    grind
  | n + 1 => by
    show fsum p m j (n + 1) + p ^ (n + 1) * (flo m (n + 1 + j) : Rat) = _ + p * (fsum p m (j + 1) n + p ^ n * (flo m (n + (j + 1)) : Rat))
    rw [fsum_first j n, Rat.pow_succ, show n + 1 + j = n + (j + 1) by omega]
    grind
/-- the sum of all things from thing j on -/
def FS (p m : Rat) (j : Nat) : Rat := fsum p m j m.den / (1 - p ^ m.den) + (m.num : Rat) * p ^ m.den / (1 - p ^ m.den) / (1 - p)
theorem pow_lt_one (p0 : 0 < p) (p1 : p < 1) : ∀ n, p ^ (n + 1) < 1
  | 0 => by rw [Rat.pow_succ, Rat.pow_zero]; grind
  | n + 1 => by
    have ih := pow_lt_one p0 p1 n
    rw [Rat.pow_succ]
    have := Rat.mul_lt_mul_of_pos_right ih p0
    grind
theorem pow_den_lt (p0 : 0 < p) (p1 : p < 1) {n : Nat} (h : 0 < n) : p ^ n < 1 := by
  have := pow_lt_one p0 p1 (n - 1)
  rwa [show n - 1 + 1 = n by omega] at this
theorem mul_inv' {a : Rat} (h : 0 < a) : a * a⁻¹ = 1 := Rat.mul_inv_cancel a (ne_of_pos h)
theorem FS_rec (p0 : 0 < p) (p1 : p < 1) (j : Nat) : FS p m j = (flo m j : Rat) + p * FS p m (j + 1) := by
  have R0 : 0 < 1 - p ^ m.den := by have := pow_den_lt p0 p1 m.den_pos; grind
  have e0 : 0 < 1 - p := by grind
  have hR := mul_inv' R0
  have he := mul_inv' e0
  have h1 := fsum_first (p := p) (m := m) j m.den
  have h2 : fsum p m j (m.den + 1) = fsum p m j m.den + p ^ m.den * (flo m (m.den + j) : Rat) := rfl
  rw [Nat.add_comm m.den j, flo_period, Rat.intCast_add] at h2
  unfold FS
  simp only [Rat.div_def]
  generalize (1 - p ^ m.den)⁻¹ = u at *
  generalize (1 - p)⁻¹ = v at *
  generalize p ^ m.den = q at *
  generalize fsum p m j (m.den + 1) = X at *
  grind
theorem FS_from (p0 : 0 < p) (p1 : p < 1) : ∀ N, FS p m 0 = fsum p m 0 N + p ^ N * FS p m N
  | 0 => by
    show _ = (0 : Rat) + p ^ 0 * _
    rw [Rat.pow_zero]; grind
  | N + 1 => by
    rw [FS_from p0 p1 N, FS_rec p0 p1 N, Rat.pow_succ]
    show _ = fsum p m 0 N + p ^ N * (flo m (N + 0) : Rat) + _
    rw [Nat.add_zero]
    grind
theorem fsum_nonneg (p0 : 0 < p) (h : 0 ≤ m.num) (j : Nat) : ∀ n, 0 ≤ fsum p m j n
  | 0 => Rat.le_refl
  | n + 1 => by
    have ih := fsum_nonneg p0 h j n
    have := Rat.mul_nonneg (Rat.le_of_lt (Rat.pow_pos (n := n) p0)) (Rat.intCast_nonneg.mpr (flo_nonneg (m := m) h (n + j)))
    show 0 ≤ fsum p m j n + p ^ n * (flo m (n + j) : Rat)
    grind
theorem FS_nonneg (p0 : 0 < p) (p1 : p < 1) (h : 0 ≤ m.num) (j : Nat) : 0 ≤ FS p m j := by
  have R0 : 0 < 1 - p ^ m.den := by have := pow_den_lt p0 p1 m.den_pos; grind
  have e0 : 0 < 1 - p := by grind
  have a := fsum_nonneg p0 h j m.den
  have u0 := Rat.le_of_lt (Rat.inv_pos.mpr R0)
  have v0 := Rat.le_of_lt (Rat.inv_pos.mpr e0)
  have b := Rat.mul_nonneg a u0
  have c := Rat.mul_nonneg (Rat.mul_nonneg (Rat.mul_nonneg (Rat.intCast_nonneg.mpr h) (Rat.le_of_lt (Rat.pow_pos (n := m.den) p0))) u0) v0
  unfold FS
  simp only [Rat.div_def]
  exact Rat.add_nonneg b c
/-- sums of linear things -/
def lsum (p c d : Rat) : Nat → Rat
  | 0 => 0
  | n + 1 => lsum p c d n + p ^ n * (c + (n : Rat) * d)
theorem lsum_closed (c d : Rat) : ∀ n : Nat, (1 - p) * (1 - p) * lsum p c d n = c * (1 - p) * (1 - p ^ n) + d * (p - (n : Rat) * p ^ n + ((n : Rat) - 1) * (p ^ n * p))
  | 0 => by
    show (1 - p) * (1 - p) * 0 = _
    rw [Rat.pow_zero, show ((0 : Nat) : Rat) = 0 from rfl]
    grind
  | n + 1 => by
    have ih := lsum_closed c d n
    show (1 - p) * (1 - p) * (lsum p c d n + p ^ n * (c + (n : Rat) * d)) = _
    rw [Rat.pow_succ, Rat.natCast_add, show ((1 : Nat) : Rat) = 1 from rfl]
    grind
/-- one period and all others of linear things -/
theorem lsum_all (p0 : 0 < p) (p1 : p < 1) (c d : Rat) {n : Nat} (hn : 0 < n) : lsum p c d n / (1 - p ^ n) + ((n : Rat) * d) * p ^ n / (1 - p ^ n) / (1 - p) = c / (1 - p) + d * p / ((1 - p) * (1 - p)) := by
  have R0 : 0 < 1 - p ^ n := by have := pow_den_lt p0 p1 hn; grind
  have e0 : 0 < 1 - p := by grind
  have hR := mul_inv' R0
  have he := mul_inv' e0
  have hee : ((1 - p) * (1 - p))⁻¹ = (1 - p)⁻¹ * (1 - p)⁻¹ := Rat.inv_mul_rev _ _
  have cl := lsum_closed (p := p) c d n
  simp only [Rat.div_def, hee]
  generalize (1 - p ^ n)⁻¹ = u at *
  generalize (1 - p)⁻¹ = v at *
  generalize p ^ n = q at *
  generalize lsum p c d n = X at *
  have hX : X = (c * (1 - p) * (1 - q) + d * (p - (n : Rat) * q + ((n : Rat) - 1) * (q * p))) * (v * v) := by
    have : (1 - p) * (1 - p) * X * (v * v) = X := by grind
    rw [← this, cl]
  subst hX
  grind
end
end Ev.C

end
section
set_option maxHeartbeats 4000000
/-! # EvP13: floor sums, walked -/
namespace Ev.C
open PySem
section
variable {p m : Rat}
theorem nat_den (m : Rat) : (m.den : Rat) * m = (m.num : Rat) := by rw [Rat.mul_comm]; exact rat_den m
theorem fsum_le (p0 : 0 < p) (j : Nat) : ∀ n, fsum p m j n ≤ lsum p ((((j : Int) + 1 : Int) : Rat) * m) m n
  | 0 => Rat.le_refl
  | n + 1 => by
    have ih := fsum_le p0 j n
    have a := flo_le (m := m) (n + j)
    have e : ((((n + j : Nat) : Int) + 1 : Int) : Rat) * m = (((j : Int) + 1 : Int) : Rat) * m + (n : Rat) * m := by
      rw [show (((n + j : Nat) : Int) + 1 : Int) = ((j : Int) + 1) + (n : Int) by push_cast; omega, Rat.intCast_add, Rat.intCast_natCast]
      grind
    rw [e] at a
    have := Rat.mul_le_mul_of_nonneg_left a (Rat.le_of_lt (Rat.pow_pos (n := n) p0))
    show fsum p m j n + _ ≤ lsum p _ m n + _
    grind
theorem FS_le (p0 : 0 < p) (p1 : p < 1) (j : Nat) : FS p m j ≤ ((((j : Int) + 1 : Int) : Rat) * m) / (1 - p) + m * p / ((1 - p) * (1 - p)) := by
  have R0 : 0 < 1 - p ^ m.den := by have := pow_den_lt p0 p1 m.den_pos; grind
  have a := fsum_le (m := m) p0 j m.den
  have b := lsum_all p0 p1 ((((j : Int) + 1 : Int) : Rat) * m) m m.den_pos
  rw [nat_den] at b
  rw [← b]
  unfold FS
  have := Rat.mul_le_mul_of_nonneg_right a (Rat.le_of_lt (Rat.inv_pos.mpr R0))
  rw [← Rat.div_def, ← Rat.div_def] at this
  grind
/-! ### a mean greater by one -/
theorem mean_up (m : Rat) : (m + 1).num = m.num + (m.den : Int) ∧ (m + 1).den = m.den := by
  have co : Nat.gcd (m.num + (m.den : Int)).natAbs m.den = 1 := by
    have h := m.reduced
    have e : Int.gcd (m.num + (m.den : Int)) (m.den : Int) = Int.gcd m.num (m.den : Int) := by
      have := Int.gcd_add_mul_right_left (m := (m.den : Int)) (n := m.num) (k := 1)
      simpa using this
    show Int.gcd (m.num + (m.den : Int)) (m.den : Int) = 1
    rw [e]
    exact h
  have q : m + 1 = ⟨m.num + (m.den : Int), m.den, m.den_nz, co⟩ := by
    rw [Rat.mk_eq_mkRat, Rat.add_def']
    simp
  constructor <;> rw [q]
theorem flo_up (m : Rat) (i : Nat) : flo (m + 1) i = flo m i + ((i : Int) + 1) := by
  obtain ⟨h1, h2⟩ := mean_up m
  unfold flo
  rw [h1, h2]
  have e : ((i : Int) + 1) * (m.num + (m.den : Int)) = ((i : Int) + 1) * m.num + ((i : Int) + 1) * (m.den : Int) := by grind
  rw [e, Int.add_mul_ediv_right _ _ (by have := den_pos' m; omega)]
theorem fsum_up : ∀ n, fsum p (m + 1) 0 n = fsum p m 0 n + lsum p 1 1 n
  | 0 => by show (0 : Rat) = 0 + 0; grind
  | n + 1 => by
    have ih := fsum_up n
    show fsum p (m + 1) 0 n + p ^ n * (flo (m + 1) (n + 0) : Rat) = fsum p m 0 n + p ^ n * (flo m (n + 0) : Rat) + (lsum p 1 1 n + p ^ n * (1 + (n : Rat) * 1))
    rw [flo_up, Rat.intCast_add, Rat.intCast_add, Rat.intCast_one, Rat.intCast_natCast, ih, Nat.add_zero]
    grind
theorem FS_up (p0 : 0 < p) (p1 : p < 1) : FS p (m + 1) 0 = FS p m 0 + 1 / ((1 - p) * (1 - p)) := by
  obtain ⟨h1, h2⟩ := mean_up m
  have e0 : 0 < 1 - p := by grind
  have he := mul_inv' e0
  have hee : ((1 - p) * (1 - p))⁻¹ = (1 - p)⁻¹ * (1 - p)⁻¹ := Rat.inv_mul_rev _ _
  have b := lsum_all p0 p1 1 1 m.den_pos
  unfold FS
  rw [h1, h2, fsum_up, Rat.intCast_add, Rat.intCast_natCast]
  simp only [Rat.div_def, hee] at b ⊢
  generalize (1 - p ^ m.den)⁻¹ = u at *
  generalize (1 - p)⁻¹ = v at *
  generalize p ^ m.den = q at *
  grind
/-! ### bounds -/
theorem pow_fb (hp : Cut p) (n : Nat) : FB (n + 1) (p ^ n) := by
  have pk := hp.ok
  have d8 := hp.d
  have n0 : 0 < p.num := (num_pos p).mpr pk.p0
  have n1 : p.num < p.den := by have := (lt_int p 1).mp (by rw [Rat.intCast_one]; exact pk.p1); omega
  have a : p.num.natAbs ^ n ≤ 10 ^ n := Nat.pow_le_pow_left (by omega) n
  have b : p.den ^ n ≤ 10 ^ n := Nat.pow_le_pow_left (by omega) n
  have c : 10 ^ n < 10 ^ (n + 1) := Nat.pow_lt_pow_right (by decide) (by omega)
  constructor
  · unfold Bd
    rw [Rat.num_pow, Int.natAbs_pow]
    omega
  · unfold Bd
    rw [Rat.den_pow, Int.natAbs_natCast]
    omega
theorem Dn.pow (p : Rat) : ∀ n, Dn (p.den ^ n) (p ^ n)
  | 0 => by
    rw [Rat.pow_zero, Nat.pow_zero]
    have := Dn.int 1 1
    rwa [Rat.intCast_one] at this
  | n + 1 => by
    rw [Rat.pow_succ, Nat.pow_succ]
    exact (Dn.pow p n).mul (Dn.den p)
/-- a mean that is drawn -/
class MeanOk (m : Rat) : Prop where
  fm : FM m
  ge : (m.den : Int) ≤ m.num
  d : m.den ≤ 300
instance MeanOk.fm' {m : Rat} [h : MeanOk m] : FM m := h.fm
structure Men (m : Rat) : Prop where
  ok : MeanOk m
  d : m.den ≤ 36
  hi : m ≤ 12
  fb : FB 3 m
theorem fsum_dn (n : Nat) : Dn (p.den ^ n) (fsum p m 0 n) := by
  induction n with
  | zero =>
    have := Dn.int (p.den ^ 0) 0
    exact this
  | succ n ih =>
    refine (ih.dvd (Nat.pow_dvd_pow _ (Nat.le_succ n))).add ?_
    have := (Dn.pow p n).mul (Dn.int 1 (flo m (n + 0)))
    rw [Nat.mul_one] at this
    exact this.dvd (Nat.pow_dvd_pow _ (Nat.le_succ n))
theorem flo_hi (hm : Men m) (i : Nat) : (flo m i : Rat) ≤ ((12 * ((i : Int) + 1) : Int) : Rat) := by
  have a := flo_le (m := m) i
  have i0 : (0 : Rat) ≤ (((i : Int) + 1 : Int) : Rat) := Rat.intCast_nonneg.mpr (by omega)
  have b := Rat.mul_le_mul_of_nonneg_left hm.hi i0
  rw [Rat.intCast_mul, show ((12 : Int) : Rat) = 12 from rfl]
  grind
theorem num_nonneg' (hm : Men m) : 0 ≤ m.num := by have := hm.ok.ge; omega
theorem flo_bd (hm : Men m) (i : Nat) (hi : i ≤ 50) : Bd 3 (flo m i) := by
  have a := flo_nonneg (num_nonneg' hm) i
  have b := Rat.intCast_le_intCast.mp (flo_hi hm i)
  unfold Bd
  omega
theorem pow_le_one' (p0 : 0 < p) (p1 : p < 1) : ∀ n : Nat, p ^ n ≤ 1
  | 0 => by rw [Rat.pow_zero]; exact Rat.le_refl
  | n + 1 => Rat.le_of_lt (pow_lt_one p0 p1 n)
theorem fsum_hi (hp : Cut p) (hm : Men m) : ∀ n : Nat, n ≤ 40 → fsum p m 0 n ≤ ((500 * (n : Int) : Int) : Rat)
  | 0, _ => by
    show (0 : Rat) ≤ ((500 * 0 : Int) : Rat)
    decide
  | n + 1, hn => by
    have ih := fsum_hi hp hm n (by omega)
    have f0 : (0 : Rat) ≤ (flo m (n + 0) : Rat) := Rat.intCast_nonneg.mpr (flo_nonneg (num_nonneg' hm) _)
    have f1 := flo_hi hm (n + 0)
    have f2 : ((12 * (((n + 0 : Nat) : Int) + 1) : Int) : Rat) ≤ ((500 : Int) : Rat) := Rat.intCast_le_intCast.mpr (by omega)
    have a := Rat.mul_le_mul_of_nonneg_right (pow_le_one' hp.ok.p0 hp.ok.p1 n) f0
    show fsum p m 0 n + p ^ n * (flo m (n + 0) : Rat) ≤ _
    rw [show (500 * ((n + 1 : Nat) : Int) : Int) = 500 * (n : Int) + 500 by push_cast; omega, Rat.intCast_add]
    grind
theorem fsum_fb (hp : Cut p) (hm : Men m) (n : Nat) (hn : n ≤ 40) : FB (n + 6) (fsum p m 0 n) := by
  have lo := fsum_nonneg hp.ok.p0 (num_nonneg' hm) 0 n
  have hi := fsum_hi hp hm n (by omega)
  have hi2 : ((500 * (n : Int) : Int) : Rat) ≤ ((20000 : Int) : Rat) := Rat.intCast_le_intCast.mpr (by omega)
  have dl := (fsum_dn (p := p) (m := m) n).le (Nat.pow_pos p.den_pos)
  have b : p.den ^ n ≤ 10 ^ n := Nat.pow_le_pow_left (by have := hp.d; omega) n
  have c : 10 ^ n < 10 ^ (n + 1) := Nat.pow_lt_pow_right (by decide) (by omega)
  have := FB.of_den (a := n + 1) (b := 5) (q := fsum p m 0 n) (M := 20000) (by omega) (by rw [Rat.natCast_ofNat]; grind) (by rw [Rat.natCast_ofNat]; rw [show ((20000 : Int) : Rat) = 20000 from rfl] at hi2; grind) (by decide)
  exact this.mono (by omega)
/-! ### the walk -/
@[simp] theorem ev_ismean [h : MeanOk m] : f_is_mean_form.m [fr m] = ret (.bool true) := by
  have d : (m.den : Int) ≤ 300 := by have := h.d; omega
  simp [f_is_mean_form, b_is_mean_form, run, h.ge, d]
@[simp] theorem ev_checkmean [h : MeanOk m] : f_check_mean.m [fr m] = ret (fr m) := by
  simp [f_check_mean, b_check_mean, run]
@[simp] theorem ev_checkends [PartOk p] [MeanOk m] : f_check_ends.m [fr p, fr m] = ret .none := by
  simp [f_check_ends, b_check_ends, run]
theorem ev_lpair {B : Nat} {ds : Option DS} {Q : D → Option DS → Prop} {most : Nat} (h0 : 1 ≤ most) (h1 : most ≤ 20) (h : DrB (B + 2) ds) (kk : ∀ m ds', Men m → m.den ≤ most → m ≤ 4 → DrB B ds' → Q (fr m) ds') : wpR (f_u_law_pair.m [.dict [], .int most] ds) Q := by
  simp [f_u_law_pair, b_u_law_pair, run]
  rw [wp_bnd]
  refine L.drawN (b := B + 1) h (by omega) (by omega) ?_
  intro v d1 hv h1
  have m3 : mulOk 3 (1 + (v : Int)) = true := mulOk_l (by decide)
  simp [m3]
  rw [wp_bnd]
  refine L.drawN (b := B) h1 (by omega) (by omega) ?_
  intro w d2 hw h2
  have e := s_share (a := 1 + (v : Int) + (w : Int)) (b := 1 + (v : Int)) (n := 2) (by omega) (bd_lit (m := 20) (by omega) (by omega))
  have lo : ((1 : Int) : Rat) ≤ Rat.divInt (1 + (v : Int) + (w : Int)) (1 + (v : Int)) := (le_sh (by omega)).mpr (by omega)
  have hi : Rat.divInt (1 + (v : Int) + (w : Int)) (1 + (v : Int)) ≤ ((4 : Int) : Rat) := (sh_le (by omega)).mpr (by omega)
  have fb : FB 3 (Rat.divInt (1 + (v : Int) + (w : Int)) (1 + (v : Int))) := sh_fb (by omega) (bd_lit (m := 99) (by omega) (by omega)) (bd_lit (m := 99) (by omega) (by omega))
  have dn := sh_den (a := 1 + (v : Int) + (w : Int)) (b := 1 + v) (by omega)
  rw [show ((1 + v : Nat) : Int) = 1 + (v : Int) by push_cast; rfl] at dn
  simp [e]
  generalize Rat.divInt (1 + (v : Int) + (w : Int)) (1 + (v : Int)) = x at *
  have hi' : x ≤ 4 := hi
  have ge := (int_le x 1).mp lo
  rw [Int.one_mul] at ge
  exact kk _ _ ⟨⟨FM.of fb, ge, by omega⟩, by omega, by grind, fb⟩ (by omega) hi' h2
theorem fdiv_flo (hm : Men m) (i : Nat) : ((1 + (i : Int)) * m.num).fdiv (m.den : Int) = flo m i := by
  unfold flo
  rw [Int.fdiv_eq_ediv_of_nonneg _ (by omega), Int.add_comm]
theorem floors_loop (hp : Cut p) (hm : Men m) (n : Nat) (hn : n ≤ 40) : ∀ (k t : Nat) (o4 : Option D), t + k = n → ∃ o4', forL (fun x env => bnd (lft (asgT (.n 4) x env)) fun env' => evSs ⟨[F.f_plus_in, F.f_times_in], c_floors_of⟩ 1000000 b_floors_of_1 env') ((List.range' t k).map fun t : Nat => PyData.int (1 + (t : Int))) [some (fr p), some (fr m), some (fr (fsum p m 0 t)), some (fr (p ^ t)), o4] = ret (.nx [some (fr p), some (fr m), some (fr (fsum p m 0 n)), some (fr (p ^ n)), o4'])
  | 0, t, o4, e => by
    simp at e
    subst e
    exact ⟨_, rfl⟩
  | k + 1, t, o4, e => by
    rw [List.range'_succ, List.map_cons]
    unfold forL
    have q1 : QB 46 (fsum p m 0 t) := ⟨(fsum_fb hp hm t (by omega)).mono (by omega)⟩
    have q2 : QB 46 (p ^ t) := ⟨(pow_fb hp t).mono (by omega)⟩
    have q3 : QB 3 ((flo m t : Int) : Rat) := ⟨fb_int (flo_bd hm t (by omega))⟩
    have q4 : QB 1 p := ⟨hp.fb⟩
    have m1 : mulOk (1 + (t : Int)) m.num = true := mulOk_l (by omega)
    have d1 : divOk ((1 + (t : Int)) * m.num) (m.den : Int) = true := divOk_bd hm.fb.b
    have d0 : m.den ≠ 0 := m.den_nz
    have fl := fdiv_flo hm t
    have body : (bnd (lft (asgT (.n 4) (.int (1 + (t : Int))) [some (fr p), some (fr m), some (fr (fsum p m 0 t)), some (fr (p ^ t)), o4])) fun env' => evSs ⟨[F.f_plus_in, F.f_times_in], c_floors_of⟩ 1000000 b_floors_of_1 env') = ret (.nx [some (fr p), some (fr m), some (fr (fsum p m 0 (t + 1))), some (fr (p ^ (t + 1))), some (.int (1 + (t : Int)))]) := by
      rw [Rat.pow_succ]
      show _ = ret (Fl.nx [some (fr p), some (fr m), some (fr (fsum p m 0 t + p ^ t * (flo m (t + 0) : Rat))), some (fr (p ^ t * p)), some (.int (1 + (t : Int)))])
      rw [Nat.add_zero]
      simp [b_floors_of_1, m1, d1, d0, fl, int_fr]
    rw [body, bnd_ret]
    exact floors_loop hp hm n hn k (t + 1) _ (by omega)
theorem ev_floorsof (hp : Cut p) (hm : Men m) : f_floors_of.m [fr p, fr m] = ret (.tuple [fr (fsum p m 0 m.den), fr (p ^ m.den)]) := by
  have hd := hm.d
  obtain ⟨o4, lp⟩ := floors_loop hp hm m.den (by omega) m.den 0 none (by omega)
  have e1 : fsum p m 0 0 = 0 := rfl
  have e2 : p ^ 0 = 1 := Rat.pow_zero p
  rw [e1, e2] at lp
  have g1 : rngOk 1 = true := by decide
  have g2 : rngOk ((m.den : Int) + 1) = true := rngOk_le (by omega) (by omega)
  simp at lp
  simp [f_floors_of, b_floors_of, run, g1, g2, C.rng1]
  rw [lp]
  simp
theorem FS_fb (hp : Cut p) (hm : Men m) : FB 180 (FS p m 0) := by
  have hd := hm.d
  have a := fsum_fb hp hm m.den (by omega)
  have b := pow_fb hp m.den
  have r := fb_one.sub b
  have e := fb_one.sub hp.fb
  have bn : FB 3 ((m.num : Int) : Rat) := fb_int hm.fb.a
  exact ((a.div' r).add (((bn.mul b).div' r).div' e)).mono (by omega)
theorem ev_floorsin (hp : Cut p) (hm : Men m) : f_floors_in.m [fr p, fr m] = ret (fr (FS p m 0)) := by
  have hd := hm.d
  have pk := hp.ok
  have a := ev_floorsof hp hm
  have q1 : QB 46 (fsum p m 0 m.den) := ⟨(fsum_fb hp hm m.den (by omega)).mono (by omega)⟩
  have q2 : QB 46 (p ^ m.den) := ⟨(pow_fb hp m.den).mono (by omega)⟩
  have q3 : QB 3 ((m.num : Int) : Rat) := ⟨fb_int hm.fb.a⟩
  have q4 : QB 1 p := ⟨hp.fb⟩
  have R0 : 1 - p ^ m.den ≠ 0 := ne_of_pos (by have := pow_den_lt pk.p0 pk.p1 m.den_pos; grind)
  have e0 : 1 - p ≠ 0 := ne_of_pos (by have := pk.p1; grind)
  simp [f_floors_in, b_floors_in, run, a, int_fr, R0, e0]
  rfl
theorem ev_floorsum (hp : Cut p) (hm : Men m) : f_floor_sum.m [fr p, fr m] = ret (fr (FS p m 0)) := by
  have := hp.ok; have := hm.ok
  simp [f_floor_sum, b_floor_sum, run, ev_floorsin hp hm]
/-! ### the law's own -/
@[simp] theorem fr_asg {q : Rat} {ts : Tgs} {env : Env} : asgT (.t ts) (fr q) env = asgTs ts [.int q.num, .int (q.den : Int)] env := by simp [fr]
theorem lfloors_loop (hp : Cut p) (hm : Men m) {a1 a7 a8 a9 : Option D} (n : Nat) (hn : n ≤ 40) : ∀ (k t : Nat) (o6 : Option D), t + k = n → ∃ o6', forL (fun x env => bnd (lft (asgT (.n 6) x env)) fun env' => evSs ⟨[F.f_u_law_minus, F.f_u_law_over, F.f_u_law_plus, F.f_u_law_times], c_u_law_floors⟩ 1000000 b_u_law_floors_1 env') ((List.range' t k).map fun t : Nat => PyData.int (1 + (t : Int))) [some (fr p), a1, some (.int m.num), some (.int (m.den : Int)), some (fr (fsum p m 0 t)), some (fr (p ^ t)), o6, a7, a8, a9] = ret (.nx [some (fr p), a1, some (.int m.num), some (.int (m.den : Int)), some (fr (fsum p m 0 n)), some (fr (p ^ n)), o6', a7, a8, a9])
  | 0, t, o6, e => by
    simp at e
    subst e
    exact ⟨_, rfl⟩
  | k + 1, t, o6, e => by
    rw [List.range'_succ, List.map_cons]
    unfold forL
    have q1 : QB 46 (fsum p m 0 t) := ⟨(fsum_fb hp hm t (by omega)).mono (by omega)⟩
    have q2 : QB 46 (p ^ t) := ⟨(pow_fb hp t).mono (by omega)⟩
    have q3 : QB 3 ((flo m t : Int) : Rat) := ⟨fb_int (flo_bd hm t (by omega))⟩
    have q4 : QB 1 p := ⟨hp.fb⟩
    have m1 : mulOk (1 + (t : Int)) m.num = true := mulOk_l (by omega)
    have d1 : divOk ((1 + (t : Int)) * m.num) (m.den : Int) = true := divOk_bd hm.fb.b
    have d0 : m.den ≠ 0 := m.den_nz
    have fl := fdiv_flo hm t
    have body : (bnd (lft (asgT (.n 6) (.int (1 + (t : Int))) [some (fr p), a1, some (.int m.num), some (.int (m.den : Int)), some (fr (fsum p m 0 t)), some (fr (p ^ t)), o6, a7, a8, a9])) fun env' => evSs ⟨[F.f_u_law_minus, F.f_u_law_over, F.f_u_law_plus, F.f_u_law_times], c_u_law_floors⟩ 1000000 b_u_law_floors_1 env') = ret (.nx [some (fr p), a1, some (.int m.num), some (.int (m.den : Int)), some (fr (fsum p m 0 (t + 1))), some (fr (p ^ (t + 1))), some (.int (1 + (t : Int))), a7, a8, a9]) := by
      rw [Rat.pow_succ]
      show _ = ret (Fl.nx [some (fr p), a1, some (.int m.num), some (.int (m.den : Int)), some (fr (fsum p m 0 t + p ^ t * (flo m (t + 0) : Rat))), some (fr (p ^ t * p)), some (.int (1 + (t : Int))), a7, a8, a9])
      rw [Nat.add_zero]
      simp [b_u_law_floors_1, m1, d1, d0, fl, int_fr]
    rw [body, bnd_ret]
    exact lfloors_loop hp hm n hn k (t + 1) _ (by omega)
theorem ev_lfloors (hp : Cut p) (hm : Men m) : f_u_law_floors.m [fr p, fr m] = ret (fr (FS p m 0)) := by
  have hd := hm.d
  have pk := hp.ok
  obtain ⟨o6, lp⟩ := lfloors_loop hp hm (a1 := some (fr m)) (a7 := none) (a8 := none) (a9 := none) m.den (by omega) m.den 0 none (by omega)
  have e1 : fsum p m 0 0 = 0 := rfl
  have e2 : p ^ 0 = 1 := Rat.pow_zero p
  rw [e1, e2] at lp
  have g1 : rngOk 1 = true := by decide
  have g2 : rngOk ((m.den : Int) + 1) = true := rngOk_le (by omega) (by omega)
  have q1 : QB 46 (fsum p m 0 m.den) := ⟨(fsum_fb hp hm m.den (by omega)).mono (by omega)⟩
  have q2 : QB 46 (p ^ m.den) := ⟨(pow_fb hp m.den).mono (by omega)⟩
  have q3 : QB 3 ((m.num : Int) : Rat) := ⟨fb_int hm.fb.a⟩
  have q4 : QB 1 p := ⟨hp.fb⟩
  have R1 : 0 < 1 - p ^ m.den := by have := pow_den_lt pk.p0 pk.p1 m.den_pos; grind
  have R0 : 1 - p ^ m.den ≠ 0 := ne_of_pos R1
  have RR0 : (1 - p ^ m.den) * (1 - p ^ m.den) ≠ 0 := ne_of_pos (Rat.mul_pos R1 R1)
  have e1' : 0 < 1 - p := by have := pk.p1; grind
  have e0 : 1 - p ≠ 0 := ne_of_pos e1'
  have eq : fsum p m 0 m.den / (1 - p ^ m.den) + (m.num : Rat) * ((1 - p ^ m.den) / (1 - p)) * (p ^ m.den / ((1 - p ^ m.den) * (1 - p ^ m.den))) = FS p m 0 := by
    unfold FS
    have hR := mul_inv' R1
    have he := mul_inv' e1'
    have hrr : ((1 - p ^ m.den) * (1 - p ^ m.den))⁻¹ = (1 - p ^ m.den)⁻¹ * (1 - p ^ m.den)⁻¹ := Rat.inv_mul_rev _ _
    simp only [Rat.div_def, hrr]
    generalize (1 - p ^ m.den)⁻¹ = u at *
    generalize (1 - p)⁻¹ = v at *
    generalize p ^ m.den = q at *
    grind
  simp at lp
  simp [f_u_law_floors, b_u_law_floors, run, g1, g2, C.rng1]
  rw [lp]
  simp [R0, RR0, e0, int_fr, eq]
end
end Ev.C

end
section
set_option maxHeartbeats 4000000
/-! # EvP14: ends of stretches -/
namespace Ev.C
open PySem
section
variable {p m : Rat}
theorem pow_add' (p : Rat) (a : Nat) : ∀ b, p ^ (a + b) = p ^ a * p ^ b
  | 0 => by rw [Nat.add_zero, Rat.pow_zero, Rat.mul_one]
  | b + 1 => by rw [← Nat.add_assoc, Rat.pow_succ, pow_add' p a b, Rat.pow_succ, Rat.mul_assoc]
theorem powfr (p : Rat) (a b : Nat) : (.tuple [.int ((p ^ a).num * (p ^ b).num), .int (((p ^ a).den : Int) * ((p ^ b).den : Int))] : D) = fr (p ^ (a + b)) := by
  refine lit_fr ?_ ?_
  · rw [Rat.num_pow, Rat.num_pow, Rat.num_pow, Int.pow_add]
  · rw [Rat.den_pow, Rat.den_pow, Rat.den_pow, Nat.pow_add, Int.natCast_mul]
theorem power_body (hp : Cut p) {a0 a1 : Option D} {a b c : Nat} (ha : a ≤ 200) (hb : b ≤ 200) : evSs ⟨[], c_power_in⟩ 1000000 b_power_in_1 [a0, a1, some (fr (p ^ a)), some (fr (p ^ b)), some (.int (c : Int))] = ret (.nx [a0, a1, some (fr (p ^ (a + b * (c % 2)))), some (fr (p ^ (b + b))), some (.int ((c / 2 : Nat) : Int))]) := by
  have fa := (pow_fb hp a).mono (show a + 1 ≤ 201 by omega)
  have fb := (pow_fb hp b).mono (show b + 1 ≤ 201 by omega)
  have m1 := mulOk_bd fa.a fb.a
  have m2 := mulOk_bd fa.b fb.b
  have m3 := mulOk_bd fb.a fb.a
  have m4 := mulOk_bd fb.b fb.b
  have d2 : divOk (c : Int) 2 = true := divOk_bd (n := 1) (by unfold Bd; decide)
  have md : (c : Int).fmod 2 = ((c % 2 : Nat) : Int) := by rw [Int.fmod_eq_emod_of_nonneg _ (by decide)]; omega
  have dv : (c : Int).fdiv 2 = ((c / 2 : Nat) : Int) := by rw [Int.fdiv_eq_ediv_of_nonneg _ (by decide)]; omega
  have e2 := powfr p a b
  have e3 := powfr p b b
  by_cases od : c % 2 = 1
  · have od' : ((c % 2 : Nat) : Int) = 1 := by omega
    rw [od, Nat.mul_one]
    rw [od'] at md
    generalize ((c / 2 : Nat) : Int) = h at *
    simp [b_power_in_1, m1, m2, m3, m4, d2, md, dv, e2, e3, -Rat.num_pow, -Rat.den_pow]
  · have od0 : c % 2 = 0 := by omega
    have od' : ((c % 2 : Nat) : Int) = 0 := by omega
    rw [od0, Nat.mul_zero, Nat.add_zero]
    rw [od'] at md
    generalize ((c / 2 : Nat) : Int) = h at *
    simp [b_power_in_1, m3, m4, d2, md, dv, e3, -Rat.num_pow, -Rat.den_pow]
theorem power_loop (hp : Cut p) {a0 a1 : Option D} : ∀ (F c a b : Nat), c < F → a + b * (2 * c) ≤ 200 → b ≤ 200 → ∃ o3 o4, whlL (evT ⟨[], c_power_in⟩ (.cmp .gt (.v 4) (.k (.int 0)))) (fun env => evSs ⟨[], c_power_in⟩ 1000000 b_power_in_1 env) F [a0, a1, some (fr (p ^ a)), some (fr (p ^ b)), some (.int (c : Int))] = ret (.nx [a0, a1, some (fr (p ^ (a + b * c))), o3, o4])
  | 0, c, a, b, hF, hc, hb => by omega
  | F + 1, c, a, b, hF, hc, hb => by
    unfold whlL
    by_cases c0 : c = 0
    · subst c0
      refine ⟨some (fr (p ^ b)), some (.int ((0 : Nat) : Int)), ?_⟩
      have t : evT ⟨[], c_power_in⟩ (.cmp .gt (.v 4) (.k (.int 0))) [a0, a1, some (fr (p ^ a)), some (fr (p ^ b)), some (.int ((0 : Nat) : Int))] = ret false := by simp
      rw [t, bnd_ret, Nat.mul_zero, Nat.add_zero]
      rfl
    · have cp : (0 : Int) < (c : Int) := by omega
      have t : evT ⟨[], c_power_in⟩ (.cmp .gt (.v 4) (.k (.int 0))) [a0, a1, some (fr (p ^ a)), some (fr (p ^ b)), some (.int (c : Int))] = ret true := by
        generalize (c : Int) = i at *
        simp [cp]
      have bd := power_body hp (a0 := a0) (a1 := a1) (a := a) (b := b) (c := c) (by omega) hb
      rw [t, bnd_ret, if_pos rfl, bd, bnd_ret]
      have bnd2 : b * (c % 2) + (b + b) * (2 * (c / 2)) ≤ b * (2 * c) := by
        have : b * (c % 2) + (b + b) * (2 * (c / 2)) = b * (c % 2 + 2 * (2 * (c / 2))) := by grind
        rw [this]
        exact Nat.mul_le_mul_left b (by omega)
      have b2 : b * 2 ≤ b * (2 * c) := Nat.mul_le_mul_left b (by omega)
      have z := power_loop hp (a0 := a0) (a1 := a1) F (c / 2) (a + b * (c % 2)) (b + b) (by omega) (by omega) (by omega)
      have ee : a + b * (c % 2) + (b + b) * (c / 2) = a + b * c := by
        have : b * c = b * (c % 2) + (b + b) * (c / 2) := by
          have e : c = c % 2 + 2 * (c / 2) := by omega
          calc b * c = b * (c % 2 + 2 * (c / 2)) := by rw [← e]
            _ = _ := by grind
        omega
      rw [ee] at z
      exact z
theorem ev_powerin (hp : Cut p) {n : Nat} (hn : n ≤ 90) : f_power_in.m [fr p, .int n] = ret (fr (p ^ n)) := by
  obtain ⟨o3, o4, lp⟩ := power_loop hp (a0 := some (fr p)) (a1 := some (.int n)) 1000000 n 0 1 (by omega) (by omega) (by omega)
  rw [Rat.pow_zero, Rat.pow_one, Nat.one_mul, Nat.zero_add] at lp
  simp [f_power_in, b_power_in, run]
  try simp at lp
  rw [lp]
  simp
/-! ### ends -/
def LEN (p : Rat) (n : Nat) : Rat := (1 - p) * (1 - p) * p ^ n / (1 - p ^ n * p)
def HI (p m : Rat) : Rat := (1 - p) * (1 - p) * FS p m 0
def LO (p m : Rat) : Rat := HI p m - LEN p (m.den - 1)
theorem lden (hp : Cut p) (n : Nat) : 0 < 1 - p ^ n * p := by
  have := pow_lt_one hp.ok.p0 hp.ok.p1 n
  rw [Rat.pow_succ] at this
  grind
theorem LEN_pos (hp : Cut p) (n : Nat) : 0 < LEN p n := by
  have e1 : 0 < 1 - p := by have := hp.ok.p1; grind
  unfold LEN
  rw [Rat.div_def]
  exact Rat.mul_pos (Rat.mul_pos (Rat.mul_pos e1 e1) (Rat.pow_pos hp.ok.p0)) (Rat.inv_pos.mpr (lden hp n))
theorem LEN_fb (hp : Cut p) (n : Nat) (hn : n ≤ 40) : FB 100 (LEN p n) := by
  have a := pow_fb hp n
  have e := fb_one.sub hp.fb
  unfold LEN
  exact (((e.mul e).mul a).div' (fb_one.sub (a.mul hp.fb))).mono (by omega)
theorem HI_fb (hp : Cut p) (hm : Men m) : FB 186 (HI p m) := by
  have e := fb_one.sub hp.fb
  unfold HI
  exact ((e.mul e).mul (FS_fb hp hm)).mono (by decide)
theorem LO_fb (hp : Cut p) (hm : Men m) : FB 290 (LO p m) := by
  unfold LO
  exact ((HI_fb hp hm).sub (LEN_fb hp _ (by have := hm.d; omega))).mono (by decide)
theorem ev_lengthin (hp : Cut p) {n : Nat} (h1 : 1 ≤ n) (hn : n ≤ 40) : f_length_in.m [fr p, .int n] = ret (fr (LEN p (n - 1))) := by
  have e : (n : Int) - 1 = ((n - 1 : Nat) : Int) := by omega
  have pw := ev_powerin hp (n := n - 1) (by omega)
  rw [← e] at pw
  have q1 : QB 1 p := ⟨hp.fb⟩
  have q2 : QB 50 (p ^ (n - 1)) := ⟨(pow_fb hp _).mono (by omega)⟩
  have n0 := ne_of_pos (lden hp (n - 1))
  unfold LEN
  generalize p ^ (n - 1) = q at *
  simp [f_length_in, b_length_in, run, pw, n0]
theorem ev_highin (hp : Cut p) (hm : Men m) : f_high_in.m [fr p, fr m] = ret (fr (HI p m)) := by
  have q1 : QB 1 p := ⟨hp.fb⟩
  have q2 : QB 180 (FS p m 0) := ⟨FS_fb hp hm⟩
  have fs := ev_floorsin hp hm
  simp [f_high_in, b_high_in, run, fs, HI]
theorem ev_endsin (hp : Cut p) (hm : Men m) : f_ends_in.m [fr p, fr m] = ret (.tuple [fr (LO p m), fr (HI p m)]) := by
  have q1 : QB 186 (HI p m) := ⟨HI_fb hp hm⟩
  have q2 : QB 100 (LEN p (m.den - 1)) := ⟨LEN_fb hp _ (by have := hm.d; omega)⟩
  have hi := ev_highin hp hm
  have le := ev_lengthin hp (n := m.den) m.den_pos (by have := hm.d; omega)
  simp [f_ends_in, b_ends_in, run, hi, le, LO]
theorem ev_stretchof (hp : Cut p) (hm : Men m) : f_stretch_of.m [fr p, fr m] = ret (.tuple [fr (LO p m), fr (HI p m)]) := by
  have := hp.ok; have := hm.ok
  simp [f_stretch_of, b_stretch_of, run, ev_endsin hp hm]
theorem ev_stretchlen (hp : Cut p) (hm : Men m) : f_stretch_length.m [fr p, fr m] = ret (fr (LEN p (m.den - 1))) := by
  have := hp.ok; have := hm.ok
  have le := ev_lengthin hp (n := m.den) m.den_pos (by have := hm.d; omega)
  simp [f_stretch_length, b_stretch_length, run, le]
/-! ### the law's own -/
theorem lpower_loop (hp : Cut p) {a1 : Option D} (n : Nat) (hn : n ≤ 90) : ∀ (k t : Nat) (o3 : Option D), t + k = n → ∃ o3', forL (fun x env => bnd (lft (asgT (.n 3) x env)) fun env' => evSs ⟨[F.f_u_law_times], c_u_law_power⟩ 1000000 b_u_law_power_1 env') ((List.range' t k).map fun t : Nat => PyData.int (0 + (t : Int))) [some (fr p), a1, some (fr (p ^ t)), o3] = ret (.nx [some (fr p), a1, some (fr (p ^ n)), o3'])
  | 0, t, o3, e => by
    simp at e
    subst e
    exact ⟨_, rfl⟩
  | k + 1, t, o3, e => by
    rw [List.range'_succ, List.map_cons]
    unfold forL
    have q2 : QB 100 (p ^ t) := ⟨(pow_fb hp t).mono (by omega)⟩
    have q4 : QB 1 p := ⟨hp.fb⟩
    have body : (bnd (lft (asgT (.n 3) (.int (0 + (t : Int))) [some (fr p), a1, some (fr (p ^ t)), o3])) fun env' => evSs ⟨[F.f_u_law_times], c_u_law_power⟩ 1000000 b_u_law_power_1 env') = ret (.nx [some (fr p), a1, some (fr (p ^ (t + 1))), some (.int (0 + (t : Int)))]) := by
      rw [Rat.pow_succ]
      simp [b_u_law_power_1]
    rw [body, bnd_ret]
    exact lpower_loop hp n hn k (t + 1) _ (by omega)
theorem ev_lpower (hp : Cut p) {n : Nat} (hn : n ≤ 90) : f_u_law_power.m [fr p, .int n] = ret (fr (p ^ n)) := by
  obtain ⟨o3, lp⟩ := lpower_loop hp (a1 := some (.int n)) n hn n 0 none (by omega)
  rw [Rat.pow_zero] at lp
  have g2 : rngOk (n : Int) = true := rngOk_le (by omega) (by omega)
  simp at lp
  simp [f_u_law_power, b_u_law_power, run, g2, C.rng0']
  rw [lp]
  simp
theorem ev_lends (hp : Cut p) (hm : Men m) : f_u_law_ends.m [fr p, fr m] = ret (.tuple [fr (LO p m), fr (HI p m)]) := by
  have hd := hm.d
  have dp := m.den_pos
  have e : (m.den : Int) - 1 = ((m.den - 1 : Nat) : Int) := by omega
  have pw := ev_lpower hp (n := m.den - 1) (by omega)
  rw [← e] at pw
  have lf := ev_lfloors hp hm
  have q1 : QB 1 p := ⟨hp.fb⟩
  have q2 : QB 50 (p ^ (m.den - 1)) := ⟨(pow_fb hp _).mono (by omega)⟩
  have q3 : QB 180 (FS p m 0) := ⟨FS_fb hp hm⟩
  have n0 := ne_of_pos (lden hp (m.den - 1))
  unfold LO HI LEN
  generalize p ^ (m.den - 1) = q at *
  simp [f_u_law_ends, b_u_law_ends, run, pw, lf, n0]
/-! ### what they are -/
theorem HI_up (hp : Cut p) : HI p (m + 1) = HI p m + 1 := by
  have e1 : 0 < 1 - p := by have := hp.ok.p1; grind
  have he := mul_inv' (Rat.mul_pos e1 e1)
  unfold HI
  rw [FS_up hp.ok.p0 hp.ok.p1, Rat.div_def]
  grind
theorem LO_up (hp : Cut p) : LO p (m + 1) = LO p m + 1 := by
  obtain ⟨h1, h2⟩ := mean_up m
  unfold LO
  rw [HI_up hp, h2]
  grind
theorem lsum_split (c d c' d' : Rat) : ∀ n, lsum p (c + c') (d + d') n = lsum p c d n + lsum p c' d' n
  | 0 => by show (0 : Rat) = 0 + 0; grind
  | n + 1 => by
    have ih := lsum_split c d c' d' n
    show lsum p (c + c') (d + d') n + p ^ n * ((c + c') + (n : Rat) * (d + d')) = lsum p c d n + p ^ n * (c + (n : Rat) * d) + (lsum p c' d' n + p ^ n * (c' + (n : Rat) * d'))
    rw [ih]
    grind
theorem gsum_nonneg (p0 : 0 < p) : ∀ n, 0 ≤ lsum p 1 0 n
  | 0 => Rat.le_refl
  | n + 1 => by
    have ih := gsum_nonneg p0 n
    have := Rat.pow_pos (n := n) p0
    show 0 ≤ lsum p 1 0 n + p ^ n * (1 + (n : Rat) * 0)
    grind
theorem fsum_ge (p0 : 0 < p) (hm : Men m) : ∀ n, lsum p 1 1 n ≤ fsum p m 0 n
  | 0 => Rat.le_refl
  | n + 1 => by
    have ih := fsum_ge p0 hm n
    have g : ((n : Int) + 1) ≤ flo m n := by
      unfold flo
      rw [Int.le_ediv_iff_mul_le (den_pos' m)]
      exact Int.mul_le_mul_of_nonneg_left hm.ok.ge (by omega)
    have g2 : (((n : Int) + 1 : Int) : Rat) ≤ (flo m n : Rat) := Rat.intCast_le_intCast.mpr g
    rw [Rat.intCast_add, Rat.intCast_one, Rat.intCast_natCast] at g2
    have := Rat.mul_le_mul_of_nonneg_left g2 (Rat.le_of_lt (Rat.pow_pos (n := n) p0))
    show lsum p 1 1 n + p ^ n * (1 + (n : Rat) * 1) ≤ fsum p m 0 n + p ^ n * (flo m (n + 0) : Rat)
    rw [Nat.add_zero]
    grind
/-- the low end is at least the part -/
theorem LO_ge (hp : Cut p) (hm : Men m) : p ≤ LO p m := by
  have p0 := hp.ok.p0
  have p1 := hp.ok.p1
  have e1 : 0 < 1 - p := by grind
  have dp := m.den_pos
  have R1 : 0 < 1 - p ^ m.den := by have := pow_den_lt p0 p1 m.den_pos; grind
  have he := mul_inv' e1
  have hR := mul_inv' R1
  have la := lsum_all p0 p1 0 1 m.den_pos
  have ge := fsum_ge p0 hm m.den
  have sp := lsum_split (p := p) 0 1 1 0 m.den
  rw [show (0 : Rat) + 1 = 1 by grind, show (1 : Rat) + 0 = 1 by grind] at sp
  have gn := gsum_nonneg p0 (m.den - 1)
  have gl : lsum p 1 0 m.den = lsum p 1 0 (m.den - 1) + p ^ (m.den - 1) * (1 + ((m.den - 1 : Nat) : Rat) * 0) := by
    have : m.den = m.den - 1 + 1 := by omega
    rw [this]
    rfl
  have pd : p ^ (m.den - 1) * p = p ^ m.den := by rw [← Rat.pow_succ, show m.den - 1 + 1 = m.den by omega]
  have hPQ : ((m.den : Nat) : Rat) ≤ (m.num : Rat) := by
    have := Rat.intCast_le_intCast.mpr hm.ok.ge
    rwa [Rat.intCast_natCast] at this
  have hee : ((1 - p) * (1 - p))⁻¹ = (1 - p)⁻¹ * (1 - p)⁻¹ := Rat.inv_mul_rev _ _
  have q0 := Rat.pow_pos (n := m.den) p0
  have u0 := Rat.inv_pos.mpr R1
  have v0 := Rat.inv_pos.mpr e1
  have main : p * ((1 - p)⁻¹ * (1 - p)⁻¹) ≤ FS p m 0 - p ^ (m.den - 1) * (1 - p ^ m.den)⁻¹ := by
    unfold FS
    simp only [Rat.div_def, hee] at la ⊢
    have k1 : (lsum p 0 1 m.den) * (1 - p ^ m.den)⁻¹ ≤ (fsum p m 0 m.den - p ^ (m.den - 1)) * (1 - p ^ m.den)⁻¹ := Rat.mul_le_mul_of_nonneg_right (by grind) (Rat.le_of_lt u0)
    have k2 : ((m.den : Nat) : Rat) * (p ^ m.den * (1 - p ^ m.den)⁻¹ * (1 - p)⁻¹) ≤ (m.num : Rat) * (p ^ m.den * (1 - p ^ m.den)⁻¹ * (1 - p)⁻¹) := Rat.mul_le_mul_of_nonneg_right hPQ (Rat.le_of_lt (Rat.mul_pos (Rat.mul_pos q0 u0) v0))
    grind
  have k3 := Rat.mul_le_mul_of_nonneg_left main (Rat.le_of_lt (Rat.mul_pos e1 e1))
  unfold LO HI LEN
  rw [pd, Rat.div_def]
  have k4 : (1 - p) * (1 - p) * (p * ((1 - p)⁻¹ * (1 - p)⁻¹)) = p := by grind
  rw [k4] at k3
  grind
end
end Ev.C

end
section
set_option maxHeartbeats 4000000
/-! # EvP15: sums of things that go on by periods; rounds at a height of a stretch -/
namespace Ev.C
open PySem
section
variable {p : Rat}
/-- so many first things -/
def gs (p : Rat) (f : Nat → Int) : Nat → Rat
  | 0 => 0
  | n + 1 => gs p f n + p ^ n * (f n : Rat)
/-- all things, if Q on they are D more -/
def GS (p : Rat) (f : Nat → Int) (Q : Nat) (D : Int) : Rat := gs p f Q / (1 - p ^ Q) + (D : Rat) * p ^ Q / (1 - p ^ Q) / (1 - p)
/-- things that go on by periods -/
def Per (f : Nat → Int) (Q : Nat) (D : Int) : Prop := ∀ k, f (k + Q) = f k + D
theorem gs_congr {f g : Nat → Int} : ∀ n, (∀ k, k < n → f k = g k) → gs p f n = gs p g n
  | 0, _ => rfl
  | n + 1, h => by
    show gs p f n + p ^ n * (f n : Rat) = gs p g n + p ^ n * (g n : Rat)
    rw [gs_congr n fun k hk => h k (by omega), h n (by omega)]
theorem gs_first (f : Nat → Int) : ∀ n, gs p f (n + 1) = (f 0 : Rat) + p * gs p (fun k => f (k + 1)) n
  | 0 => by
    show (0 : Rat) + p ^ 0 * (f 0 : Rat) = _ + p * 0
    rw [Rat.pow_zero]
    grind
  | n + 1 => by
    show gs p f (n + 1) + p ^ (n + 1) * (f (n + 1) : Rat) = _ + p * (gs p (fun k => f (k + 1)) n + p ^ n * (f (n + 1) : Rat))
    rw [gs_first f n, Rat.pow_succ]
    grind
theorem gs_mono (p0 : 0 < p) {f g : Nat → Int} : ∀ n, (∀ k, k < n → f k ≤ g k) → gs p f n ≤ gs p g n
  | 0, _ => Rat.le_refl
  | n + 1, h => by
    have ih := gs_mono p0 n fun k hk => h k (by omega)
    have a : (f n : Rat) ≤ (g n : Rat) := Rat.intCast_le_intCast.mpr (h n (by omega))
    have := Rat.mul_le_mul_of_nonneg_left a (Rat.le_of_lt (Rat.pow_pos (n := n) p0))
    show gs p f n + p ^ n * (f n : Rat) ≤ gs p g n + p ^ n * (g n : Rat)
    grind
theorem gs_neg (f : Nat → Int) : ∀ n, gs p (fun k => -f k) n = -gs p f n
  | 0 => by show (0 : Rat) = -0; grind
  | n + 1 => by
    show gs p (fun k => -f k) n + p ^ n * ((-f n : Int) : Rat) = -(gs p f n + p ^ n * (f n : Rat))
    rw [gs_neg f n, Rat.intCast_neg]
    grind
theorem gs_add (f : Nat → Int) (c : Int) : ∀ n, (1 - p) * gs p (fun k => f k + c) n = (1 - p) * gs p f n + (c : Rat) * (1 - p ^ n)
  | 0 => by show (1 - p) * 0 = (1 - p) * 0 + (c : Rat) * (1 - p ^ 0); rw [Rat.pow_zero]; grind
  | n + 1 => by
    have ih := gs_add f c n
    show (1 - p) * (gs p (fun k => f k + c) n + p ^ n * ((f n + c : Int) : Rat)) = (1 - p) * (gs p f n + p ^ n * (f n : Rat)) + (c : Rat) * (1 - p ^ (n + 1))
    rw [Rat.intCast_add, Rat.pow_succ]
    grind
section
variable {f g : Nat → Int} {Q : Nat} {D E : Int}
theorem R_pos (p0 : 0 < p) (p1 : p < 1) (hQ : 0 < Q) : 0 < 1 - p ^ Q := by have := pow_den_lt p0 p1 hQ; grind
theorem GS_rec (p0 : 0 < p) (p1 : p < 1) (hQ : 0 < Q) (h : Per f Q D) : GS p f Q D = (f 0 : Rat) + p * GS p (fun k => f (k + 1)) Q D := by
  have hR := mul_inv' (R_pos p0 p1 hQ)
  have he := mul_inv' (show 0 < 1 - p by grind)
  have h1 := gs_first (p := p) f Q
  have h2 : gs p f (Q + 1) = gs p f Q + p ^ Q * (f Q : Rat) := rfl
  have h3 : f Q = f 0 + D := by have := h 0; rwa [Nat.zero_add] at this
  rw [h3, Rat.intCast_add] at h2
  unfold GS
  simp only [Rat.div_def]
  generalize (1 - p ^ Q)⁻¹ = u at *
  generalize (1 - p)⁻¹ = v at *
  generalize p ^ Q = q at *
  generalize gs p f (Q + 1) = X at *
  grind
theorem Per.shift (h : Per f Q D) (j : Nat) : Per (fun k => f (k + j)) Q D := fun k => by
  have := h (k + j)
  show f (k + Q + j) = f (k + j) + D
  rw [← this]
  congr 1
  omega
theorem GS_from (p0 : 0 < p) (p1 : p < 1) (hQ : 0 < Q) (h : Per f Q D) : ∀ N, GS p f Q D = gs p f N + p ^ N * GS p (fun k => f (k + N)) Q D
  | 0 => by
    show _ = (0 : Rat) + p ^ 0 * GS p (fun k => f (k + 0)) Q D
    rw [Rat.pow_zero]
    show GS p f Q D = 0 + 1 * GS p f Q D
    grind
  | N + 1 => by
    rw [GS_from p0 p1 hQ h N, GS_rec p0 p1 hQ (h.shift N), Rat.pow_succ]
    have e : (fun k => f (k + 1 + N)) = fun k => f (k + (N + 1)) := by funext k; congr 1; omega
    show gs p f N + p ^ N * ((f (0 + N) : Rat) + p * GS p (fun k => f (k + 1 + N)) Q D) = gs p f N + p ^ N * (f N : Rat) + _
    rw [e, Nat.zero_add]
    grind
theorem GS_add (p0 : 0 < p) (p1 : p < 1) (hQ : 0 < Q) (c : Int) : GS p (fun k => f k + c) Q D = GS p f Q D + (c : Rat) / (1 - p) := by
  have hR := mul_inv' (R_pos p0 p1 hQ)
  have he := mul_inv' (show 0 < 1 - p by grind)
  have a := gs_add (p := p) f c Q
  have b : gs p (fun k => f k + c) Q = gs p f Q + (c : Rat) * (1 - p ^ Q) * (1 - p)⁻¹ := by
    have : (1 - p)⁻¹ * ((1 - p) * gs p (fun k => f k + c) Q) = (1 - p)⁻¹ * ((1 - p) * gs p f Q + (c : Rat) * (1 - p ^ Q)) := by rw [a]
    grind
  unfold GS
  simp only [Rat.div_def]
  rw [b]
  generalize (1 - p ^ Q)⁻¹ = u at *
  generalize (1 - p)⁻¹ = v at *
  generalize p ^ Q = q at *
  grind
theorem GS_neg : GS p (fun k => -f k) Q (-D) = -GS p f Q D := by
  unfold GS
  rw [gs_neg, Rat.intCast_neg]
  simp only [Rat.div_def]
  grind
theorem GS_le (p0 : 0 < p) (p1 : p < 1) (hQ : 0 < Q) (h : ∀ k, k < Q → f k ≤ g k) (d : D ≤ E) : GS p f Q D ≤ GS p g Q E := by
  have a := gs_mono p0 Q h
  have u0 := Rat.le_of_lt (Rat.inv_pos.mpr (R_pos p0 p1 hQ))
  have v0 := Rat.le_of_lt (Rat.inv_pos.mpr (show 0 < 1 - p by grind))
  have q0 := Rat.le_of_lt (Rat.pow_pos (n := Q) p0)
  have b := Rat.mul_le_mul_of_nonneg_right a u0
  have c := Rat.mul_le_mul_of_nonneg_right (Rat.mul_le_mul_of_nonneg_right (Rat.mul_le_mul_of_nonneg_right (Rat.intCast_le_intCast.mpr d) q0) u0) v0
  unfold GS
  simp only [Rat.div_def]
  grind
theorem GS_lt (p0 : 0 < p) (p1 : p < 1) (hQ : 0 < Q) (h : ∀ k, k < Q → f k ≤ g k) (d : D < E) : GS p f Q D < GS p g Q E := by
  have a := gs_mono p0 Q h
  have u1 := Rat.inv_pos.mpr (R_pos p0 p1 hQ)
  have v1 := Rat.inv_pos.mpr (show 0 < 1 - p by grind)
  have q1 := Rat.pow_pos (n := Q) p0
  have b := Rat.mul_le_mul_of_nonneg_right a (Rat.le_of_lt u1)
  have c := Rat.mul_lt_mul_of_pos_right (Rat.mul_lt_mul_of_pos_right (Rat.mul_lt_mul_of_pos_right (Rat.intCast_lt_intCast.mpr d) q1) u1) v1
  unfold GS
  simp only [Rat.div_def]
  grind
theorem Per.many (h : Per f Q D) : ∀ t : Nat, Per f (t * Q) ((t : Int) * D)
  | 0 => fun k => by simp
  | t + 1 => fun k => by
    have a := Per.many h t k
    have b := h (k + t * Q)
    rw [show k + (t + 1) * Q = k + t * Q + Q by rw [Nat.add_mul]; omega, b, a]
    push_cast
    grind
/-- the same by longer periods -/
theorem GS_many (p0 : 0 < p) (p1 : p < 1) (hQ : 0 < Q) (h : Per f Q D) {t : Nat} (ht : 0 < t) : GS p f Q D = GS p f (t * Q) ((t : Int) * D) := by
  have hN : 0 < t * Q := Nat.mul_pos ht hQ
  have a := GS_from p0 p1 hQ h (t * Q)
  have e : (fun k => f (k + t * Q)) = fun k => f k + (t : Int) * D := by funext k; exact h.many t k
  rw [e, GS_add p0 p1 hQ] at a
  have hR := mul_inv' (R_pos p0 p1 hN)
  have he := mul_inv' (show 0 < 1 - p by grind)
  rw [show GS p f (t * Q) ((t : Int) * D) = gs p f (t * Q) / (1 - p ^ (t * Q)) + (((t : Int) * D : Int) : Rat) * p ^ (t * Q) / (1 - p ^ (t * Q)) / (1 - p) from rfl]
  simp only [Rat.div_def] at a ⊢
  generalize (1 - p ^ (t * Q))⁻¹ = u at *
  generalize (1 - p)⁻¹ = v at *
  generalize p ^ (t * Q) = q at *
  generalize GS p f Q D = X at *
  generalize gs p f (t * Q) = Y at *
  generalize (((t : Int) * D : Int) : Rat) = Z at *
  have k : X * (1 - q) = Y + q * (Z * v) := by grind
  have : X = X * (1 - q) * u := by grind
  rw [this, k]
  grind
end
end
/-! ### ends of a stretch as sums -/
section
variable {p m : Rat}
/-- the least integer from so many means on, less one -/
def clo (m : Rat) (i : Nat) : Int := -((-(((i : Int) + 1) * m.num)) / (m.den : Int)) - 1
theorem per_flo (m : Rat) : Per (flo m) m.den m.num := fun k => flo_period k
theorem per_clo (m : Rat) : Per (clo m) m.den m.num := fun k => by
  unfold clo
  have e : -((((k + m.den : Nat) : Int) + 1) * m.num) = -(((k : Int) + 1) * m.num) + (-m.num) * (m.den : Int) := by push_cast; grind
  rw [e, Int.add_mul_ediv_right _ _ (by have := den_pos' m; omega)]
  omega
theorem fsum_gs (p m : Rat) : ∀ n, fsum p m 0 n = gs p (flo m) n
  | 0 => rfl
  | n + 1 => by
    show fsum p m 0 n + p ^ n * (flo m (n + 0) : Rat) = _
    rw [fsum_gs p m n, Nat.add_zero]
    rfl
theorem FS_GS (p m : Rat) : FS p m 0 = GS p (flo m) m.den m.num := by
  unfold FS GS
  rw [fsum_gs]
theorem clo_flo (m : Rat) (i : Nat) : clo m i = if ((m.den : Int) ∣ ((i : Int) + 1) * m.num) then flo m i - 1 else flo m i := by
  have d := den_pos' m
  unfold clo flo
  generalize ((i : Int) + 1) * m.num = x
  split
  · rename_i h
    obtain ⟨c, rfl⟩ := h
    rw [show -((m.den : Int) * c) = (m.den : Int) * (-c) by grind, Int.mul_ediv_cancel_left _ (by omega), Int.mul_ediv_cancel_left _ (by omega)]
    omega
  · rename_i h
    have h1 := Int.emod_add_mul_ediv x (m.den : Int)
    have h2 := Int.emod_nonneg x (show (m.den : Int) ≠ 0 by omega)
    have h3 := Int.emod_lt_of_pos x d
    have h4 : x % (m.den : Int) ≠ 0 := fun z => h (Int.dvd_of_emod_eq_zero z)
    have : (-x) / (m.den : Int) = -(x / (m.den : Int)) - 1 := by
      have e : -x = ((m.den : Int) - x % (m.den : Int)) + (-(x / (m.den : Int)) - 1) * (m.den : Int) := by grind
      rw [e, Int.add_mul_ediv_right _ _ (by omega), Int.ediv_eq_zero_of_lt (by omega) (by omega)]
      omega
    rw [this]
    omega
theorem dvd_den (m : Rat) (i : Nat) (hi : i < m.den) : ((m.den : Int) ∣ ((i : Int) + 1) * m.num) ↔ i + 1 = m.den := by
  have co : Nat.gcd m.num.natAbs m.den = 1 := m.reduced
  constructor
  · intro h
    have h1 : m.den ∣ (i + 1) * m.num.natAbs := by
      have := Int.natAbs_dvd_natAbs.mpr h
      rw [Int.natAbs_natCast, Int.natAbs_mul] at this
      rwa [show ((i : Int) + 1).natAbs = i + 1 by omega] at this
    have h2 : m.den ∣ i + 1 := Nat.Coprime.dvd_of_dvd_mul_right (by rw [Nat.Coprime, Nat.gcd_comm]; exact co) h1
    have := Nat.le_of_dvd (by omega) h2
    omega
  · intro h
    exact ⟨m.num, by rw [← h]; push_cast; grind⟩
theorem gs_clo (p m : Rat) : ∀ n, n < m.den → gs p (clo m) n = gs p (flo m) n := fun n hn => gs_congr n fun k hk => by
  rw [clo_flo, if_neg]
  rw [dvd_den m k (by omega)]
  omega
theorem LO_GS (p0 : 0 < p) (p1 : p < 1) (m : Rat) : LO p m = (1 - p) * (1 - p) * GS p (clo m) m.den m.num := by
  have hd := m.den_pos
  have e : m.den = m.den - 1 + 1 := by omega
  have hR := mul_inv' (R_pos p0 p1 hd)
  have pd : p ^ (m.den - 1) * p = p ^ m.den := by rw [← Rat.pow_succ, ← e]
  have a : gs p (clo m) m.den = gs p (flo m) m.den - p ^ (m.den - 1) := by
    have c : clo m (m.den - 1) = flo m (m.den - 1) - 1 := by
      rw [clo_flo, if_pos]
      rw [dvd_den m _ (by omega)]
      omega
    have h1 : gs p (clo m) (m.den - 1 + 1) = gs p (clo m) (m.den - 1) + p ^ (m.den - 1) * (clo m (m.den - 1) : Rat) := rfl
    have h2 : gs p (flo m) (m.den - 1 + 1) = gs p (flo m) (m.den - 1) + p ^ (m.den - 1) * (flo m (m.den - 1) : Rat) := rfl
    rw [← e] at h1 h2
    rw [h1, h2, gs_clo p m _ (by omega), c, Rat.intCast_sub, Rat.intCast_one]
    grind
  unfold LO HI LEN
  rw [pd, FS_GS]
  unfold GS
  rw [a]
  simp only [Rat.div_def]
  generalize (1 - p ^ m.den)⁻¹ = u at *
  generalize (1 - p)⁻¹ = v at *
  generalize p ^ m.den = q at *
  grind
theorem HI_GS (p m : Rat) : HI p m = (1 - p) * (1 - p) * GS p (flo m) m.den m.num := by
  unfold HI
  rw [FS_GS]
/-- stretches stand in the order of their means -/
theorem order (p0 : 0 < p) (p1 : p < 1) {m n : Rat} (h : m < n) : HI p m < LO p n := by
  have e1 : 0 < 1 - p := by grind
  have dm := m.den_pos
  have dn := n.den_pos
  have lt := (Rat.lt_iff m n).mp h
  rw [HI_GS, LO_GS p0 p1, GS_many p0 p1 dm (per_flo m) dn, GS_many p0 p1 dn (per_clo n) dm, Nat.mul_comm m.den n.den]
  refine Rat.mul_lt_mul_of_pos_left (GS_lt p0 p1 (Nat.mul_pos dn dm) (fun k _ => ?_) ?_) (Rat.mul_pos e1 e1)
  · have a := flo_le (m := m) k
    have k0 : (0 : Rat) < (((k : Int) + 1 : Int) : Rat) := Rat.intCast_pos.mpr (by omega)
    have b := Rat.mul_lt_mul_of_pos_left h k0
    -- flo m k < (k + 1) n ≤ ceiling
    have d := den_pos' n
    have c : (((k : Int) + 1 : Int) : Rat) * n ≤ ((clo n k + 1 : Int) : Rat) := by
      have h1 : ((k : Int) + 1) * n.num ≤ (clo n k + 1) * (n.den : Int) := by
        unfold clo
        have := Int.ediv_mul_le (-(((k : Int) + 1) * n.num)) (show (n.den : Int) ≠ 0 by omega)
        grind
      have h2 : ((((k : Int) + 1) * n.num : Int) : Rat) ≤ (((clo n k + 1) * (n.den : Int) : Int) : Rat) := Rat.intCast_le_intCast.mpr h1
      rw [Rat.intCast_mul, Rat.intCast_mul, ← rat_den n, Rat.intCast_natCast] at h2
      have dp : (0 : Rat) < (n.den : Rat) := Rat.natCast_pos.mpr n.den_pos
      exact Rat.le_of_mul_le_mul_right (show (((k : Int) + 1 : Int) : Rat) * n * (n.den : Rat) ≤ ((clo n k + 1 : Int) : Rat) * (n.den : Rat) by grind) dp
    have : (flo m k : Rat) < ((clo n k + 1 : Int) : Rat) := by grind
    have := Rat.intCast_lt_intCast.mp this
    omega
  · rw [Int.mul_comm (n.den : Int), Int.mul_comm (m.den : Int)]
    exact lt
end
end Ev.C

end
section
set_option maxHeartbeats 4000000
/-! # EvP16: rounds at a height of a mean's stretch -/
namespace Ev.C
open PySem
section
variable {p m h : Rat}
/-- the floors behind place i -/
def fi (m : Rat) (i : Int) (k : Nat) : Int := (i - ((k : Int) + 1) * m.num) / (m.den : Int)
theorem per_fi (m : Rat) (i : Int) : Per (fi m i) m.den (-m.num) := fun k => by
  unfold fi
  have e : i - (((k + m.den : Nat) : Int) + 1) * m.num = i - ((k : Int) + 1) * m.num + (-m.num) * (m.den : Int) := by push_cast; grind
  rw [e, Int.add_mul_ediv_right _ _ (by have := den_pos' m; omega)]
def AA (p m : Rat) (i : Int) : Rat := GS p (fi m i) m.den (-m.num)
theorem AA_rec (p0 : 0 < p) (p1 : p < 1) (i : Int) : AA p m (i + m.num) = ((i / (m.den : Int) : Int) : Rat) + p * AA p m i := by
  unfold AA
  rw [GS_rec p0 p1 m.den_pos (per_fi m (i + m.num))]
  have e1 : fi m (i + m.num) 0 = i / (m.den : Int) := by
    unfold fi
    congr 1
    push_cast
    grind
  have e2 : (fun k => fi m (i + m.num) (k + 1)) = fi m i := by
    funext k
    unfold fi
    congr 1
    push_cast
    grind
  rw [e1, e2]
theorem AA_mono (p0 : 0 < p) (p1 : p < 1) {i j : Int} (le : i ≤ j) : AA p m i ≤ AA p m j := by
  unfold AA
  refine GS_le p0 p1 m.den_pos (fun k _ => ?_) (Int.le_refl _)
  unfold fi
  exact Int.ediv_le_ediv (den_pos' m) (by omega)
theorem AA_add (p0 : 0 < p) (p1 : p < 1) (i c : Int) : AA p m (i + c * (m.den : Int)) = AA p m i + (c : Rat) / (1 - p) := by
  unfold AA
  rw [← GS_add p0 p1 m.den_pos c]
  congr 1
  funext k
  unfold fi
  have e : i + c * (m.den : Int) - ((k : Int) + 1) * m.num = i - ((k : Int) + 1) * m.num + c * (m.den : Int) := by grind
  rw [e, Int.add_mul_ediv_right _ _ (by have := den_pos' m; omega)]
/-- the places of the orbit that comes back -/
def fy (p m h : Rat) (i : Int) : Rat := h / (1 - p) + 1 + (1 - p) * AA p m i
theorem fy_rec (p0 : 0 < p) (p1 : p < 1) (i : Int) : fy p m h (i + m.num) = (1 - p) * (((i / (m.den : Int) : Int) : Rat) + 1) + p * fy p m h i + h := by
  have he := mul_inv' (show 0 < 1 - p by grind)
  unfold fy
  rw [AA_rec p0 p1]
  simp only [Rat.div_def]
  grind
theorem fy_mono (p0 : 0 < p) (p1 : p < 1) {i j : Int} (le : i ≤ j) : fy p m h i ≤ fy p m h j := by
  have := Rat.mul_le_mul_of_nonneg_left (AA_mono (m := m) p0 p1 le) (show 0 ≤ 1 - p by grind)
  unfold fy
  grind
theorem fy_add (p0 : 0 < p) (p1 : p < 1) (i c : Int) : fy p m h (i + c * (m.den : Int)) = fy p m h i + (c : Rat) := by
  have he := mul_inv' (show 0 < 1 - p by grind)
  unfold fy
  rw [AA_add p0 p1]
  simp only [Rat.div_def]
  grind
theorem fy_zero (p0 : 0 < p) (p1 : p < 1) (lo : LO p m ≤ h) : 0 ≤ fy p m h 0 := by
  have e1 : 0 < 1 - p := by grind
  have he := mul_inv' e1
  have f0 : fi m 0 = fun k => -(clo m k + 1) := by
    funext k
    unfold fi clo
    rw [show (0 : Int) - ((k : Int) + 1) * m.num = -(((k : Int) + 1) * m.num) by omega]
    omega
  have a : AA p m 0 = -(GS p (clo m) m.den m.num + ((1 : Int) : Rat) / (1 - p)) := by
    unfold AA
    rw [f0, GS_neg, GS_add p0 p1 m.den_pos]
  rw [LO_GS p0 p1, Rat.intCast_one] at *
  unfold fy
  rw [a]
  have k := Rat.mul_le_mul_of_nonneg_right lo (Rat.le_of_lt (Rat.inv_pos.mpr e1))
  generalize GS p (clo m) m.den m.num = X at *
  have k2 : (1 - p) * (1 - p) * X * (1 - p)⁻¹ = (1 - p) * X := by grind
  have k3 : (1 - p) * -(X + 1 / (1 - p)) = -((1 - p) * X) - 1 := by rw [Rat.div_def]; grind
  rw [k3, Rat.div_def]
  rw [k2] at k
  grind
theorem fy_last (p0 : 0 < p) (p1 : p < 1) (hi : h ≤ HI p m) : fy p m h ((m.den : Int) - 1) ≤ 1 := by
  have e1 : 0 < 1 - p := by grind
  have he := mul_inv' e1
  have d := den_pos' m
  have f0 : fi m ((m.den : Int) - 1) = fun k => -flo m k := by
    funext k
    unfold fi flo
    generalize ((k : Int) + 1) * m.num = x
    have h1 := Int.emod_add_mul_ediv x (m.den : Int)
    have h2 := Int.emod_nonneg x (show (m.den : Int) ≠ 0 by omega)
    have h3 := Int.emod_lt_of_pos x d
    have e : (m.den : Int) - 1 - x = ((m.den : Int) - 1 - x % (m.den : Int)) + (-(x / (m.den : Int))) * (m.den : Int) := by grind
    rw [e, Int.add_mul_ediv_right _ _ (by omega), Int.ediv_eq_zero_of_lt (by omega) (by omega)]
    omega
  have a : AA p m ((m.den : Int) - 1) = -GS p (flo m) m.den m.num := by
    unfold AA
    rw [f0, GS_neg]
  rw [HI_GS] at hi
  unfold fy
  rw [a]
  have k := Rat.mul_le_mul_of_nonneg_right hi (Rat.le_of_lt (Rat.inv_pos.mpr e1))
  generalize GS p (flo m) m.den m.num = X at *
  have k2 : (1 - p) * (1 - p) * X * (1 - p)⁻¹ = (1 - p) * X := by grind
  rw [Rat.div_def]
  rw [k2] at k
  grind
theorem fy_low (p0 : 0 < p) (p1 : p < 1) (lo : LO p m ≤ h) (j : Int) : ((j / (m.den : Int) : Int) : Rat) ≤ fy p m h j := by
  have d := den_pos' m
  have h1 := Int.emod_add_mul_ediv j (m.den : Int)
  have h2 := Int.emod_nonneg j (show (m.den : Int) ≠ 0 by omega)
  have a := fy_add (m := m) (h := h) p0 p1 0 (j / (m.den : Int))
  have b := fy_mono (m := m) (h := h) p0 p1 (show 0 + j / (m.den : Int) * (m.den : Int) ≤ j by rw [Int.mul_comm]; omega)
  have c := fy_zero p0 p1 lo
  grind
theorem fy_high (p0 : 0 < p) (p1 : p < 1) (hi : h ≤ HI p m) (j : Int) : fy p m h j ≤ ((j / (m.den : Int) : Int) : Rat) + 1 := by
  have d := den_pos' m
  have h1 := Int.emod_add_mul_ediv j (m.den : Int)
  have h3 := Int.emod_lt_of_pos j d
  have a := fy_add (m := m) (h := h) p0 p1 ((m.den : Int) - 1) (j / (m.den : Int))
  have b := fy_mono (m := m) (h := h) p0 p1 (show j ≤ (m.den : Int) - 1 + j / (m.den : Int) * (m.den : Int) by rw [Int.mul_comm (j / (m.den : Int))]; omega)
  have c := fy_last p0 p1 hi
  grind
theorem fy_find (p0 : 0 < p) (p1 : p < 1) (t : Rat) : ∀ (n : Nat) (a : Int), fy p m h a ≤ t → t < fy p m h (a + n) → ∃ i, fy p m h i ≤ t ∧ t < fy p m h (i + 1)
  | 0, a, h1, h2 => by
    rw [show a + ((0 : Nat) : Int) = a by omega] at h2
    exact absurd h1 (Rat.not_le.mpr h2)
  | n + 1, a, h1, h2 => by
    by_cases c : fy p m h (a + 1) ≤ t
    · exact fy_find p0 p1 t n (a + 1) c (by rw [show a + 1 + (n : Int) = a + ((n + 1 : Nat) : Int) by push_cast; omega]; exact h2)
    · exact ⟨a, h1, Rat.not_le.mp c⟩
theorem th_next (p h f : Rat) (n : Nat) : th p h f (n + 1) = (1 - p) * (sms p h f n : Rat) + p * th p h f n + h := by
  rw [th_succ]
  unfold th
  grind
theorem sms_floor {f : Rat} (f0 : 0 < f) (f1 : f ≤ 1) {n : Nat} {c : Int} (h1 : (c : Rat) ≤ th p h f n) (h2 : th p h f n < (c : Rat) + 1) : sms p h f n = c + 1 := by
  obtain ⟨a0, a1⟩ := sp_in (p := p) (h := h) f0 f1 n
  unfold th at h1 h2
  have k1 : (c : Rat) < (sms p h f n : Rat) := by grind
  have k2 : (sms p h f n : Rat) < ((c + 2 : Int) : Rat) := by rw [Rat.intCast_add, show ((2 : Int) : Rat) = 2 from rfl]; grind
  have := Rat.intCast_lt_intCast.mp k1
  have := Rat.intCast_lt_intCast.mp k2
  omega
section
variable {f : Rat} {i : Int}
theorem left (p0 : 0 < p) (p1 : p < 1) (lo : LO p m ≤ h) (f0 : 0 < f) (f1 : f ≤ 1) {d : Rat} (d0 : 0 ≤ d) (st : th p h f 0 = fy p m h i + d)
    (up : ∀ n : Nat, fy p m h (i + (n : Int) * m.num) + p ^ n * d < (((i + (n : Int) * m.num) / (m.den : Int) : Int) : Rat) + 1) :
    ∀ n : Nat, th p h f n = fy p m h (i + (n : Int) * m.num) + p ^ n * d ∧ sms p h f n = (i + (n : Int) * m.num) / (m.den : Int) + 1 := by
  have key : ∀ n : Nat, th p h f n = fy p m h (i + (n : Int) * m.num) + p ^ n * d → sms p h f n = (i + (n : Int) * m.num) / (m.den : Int) + 1 := fun n e => by
    refine sms_floor f0 f1 ?_ ?_
    · rw [e]
      have a := fy_low p0 p1 lo (i + (n : Int) * m.num)
      have b := Rat.mul_nonneg (Rat.le_of_lt (Rat.pow_pos (n := n) p0)) d0
      grind
    · rw [e]; exact up n
  intro n
  induction n with
  | zero =>
    have e : th p h f 0 = fy p m h (i + ((0 : Nat) : Int) * m.num) + p ^ 0 * d := by
      rw [Rat.pow_zero, st]
      simp
    exact ⟨e, key 0 e⟩
  | succ n ih =>
    obtain ⟨e, s⟩ := ih
    have e' : th p h f (n + 1) = fy p m h (i + ((n + 1 : Nat) : Int) * m.num) + p ^ (n + 1) * d := by
      rw [th_next, s, e, show i + ((n + 1 : Nat) : Int) * m.num = i + (n : Int) * m.num + m.num by push_cast; grind, fy_rec p0 p1, Rat.pow_succ, Rat.intCast_add, Rat.intCast_one]
      grind
    exact ⟨e', key _ e'⟩
theorem right (p0 : 0 < p) (p1 : p < 1) (hi : h ≤ HI p m) (f0 : 0 < f) (f1 : f ≤ 1) {d : Rat} (d0 : 0 < d) (st : th p h f 0 = fy p m h i - d)
    (dn : ∀ n : Nat, (((i + (n : Int) * m.num) / (m.den : Int) : Int) : Rat) ≤ fy p m h (i + (n : Int) * m.num) - p ^ n * d) :
    ∀ n : Nat, th p h f n = fy p m h (i + (n : Int) * m.num) - p ^ n * d ∧ sms p h f n = (i + (n : Int) * m.num) / (m.den : Int) + 1 := by
  have key : ∀ n : Nat, th p h f n = fy p m h (i + (n : Int) * m.num) - p ^ n * d → sms p h f n = (i + (n : Int) * m.num) / (m.den : Int) + 1 := fun n e => by
    refine sms_floor f0 f1 ?_ ?_
    · rw [e]; exact dn n
    · rw [e]
      have a := fy_high p0 p1 hi (i + (n : Int) * m.num)
      have b := Rat.mul_pos (Rat.pow_pos (n := n) p0) d0
      grind
  intro n
  induction n with
  | zero =>
    have e : th p h f 0 = fy p m h (i + ((0 : Nat) : Int) * m.num) - p ^ 0 * d := by
      rw [Rat.pow_zero, st]
      simp
    exact ⟨e, key 0 e⟩
  | succ n ih =>
    obtain ⟨e, s⟩ := ih
    have e' : th p h f (n + 1) = fy p m h (i + ((n + 1 : Nat) : Int) * m.num) - p ^ (n + 1) * d := by
      rw [th_next, s, e, show i + ((n + 1 : Nat) : Int) * m.num = i + (n : Int) * m.num + m.num by push_cast; grind, fy_rec p0 p1, Rat.pow_succ, Rat.intCast_add, Rat.intCast_one]
      grind
    exact ⟨e', key _ e'⟩
/-- the gap behind place j -/
theorem gap_rec (p0 : 0 < p) (p1 : p < 1) (j : Int) : fy p m h (j + 1 + m.num) - fy p m h (j + m.num) = (1 - p) * ((((j + 1) / (m.den : Int) : Int) : Rat) - ((j / (m.den : Int) : Int) : Rat)) + p * (fy p m h (j + 1) - fy p m h j) := by
  rw [fy_rec p0 p1, fy_rec p0 p1]
  grind
theorem gap_le (p0 : 0 < p) (p1 : p < 1) (i : Int) : ∀ n : Nat, p ^ n * (fy p m h (i + 1) - fy p m h i) ≤ fy p m h (i + (n : Int) * m.num + 1) - fy p m h (i + (n : Int) * m.num)
  | 0 => by
    rw [Rat.pow_zero]
    simp
  | n + 1 => by
    have ih := gap_le p0 p1 i n
    have g := gap_rec (m := m) (h := h) p0 p1 (i + (n : Int) * m.num)
    have mono : (i + (n : Int) * m.num) / (m.den : Int) ≤ (i + (n : Int) * m.num + 1) / (m.den : Int) := Int.ediv_le_ediv (den_pos' m) (by omega)
    have mr : (((i + (n : Int) * m.num) / (m.den : Int) : Int) : Rat) ≤ (((i + (n : Int) * m.num + 1) / (m.den : Int) : Int) : Rat) := Rat.intCast_le_intCast.mpr mono
    have j0 : 0 ≤ (1 - p) * ((((i + (n : Int) * m.num + 1) / (m.den : Int) : Int) : Rat) - (((i + (n : Int) * m.num) / (m.den : Int) : Int) : Rat)) := Rat.mul_nonneg (by grind) (by grind)
    have k := Rat.mul_le_mul_of_nonneg_left ih (Rat.le_of_lt p0)
    rw [show i + ((n + 1 : Nat) : Int) * m.num + 1 = i + (n : Int) * m.num + 1 + m.num by push_cast; grind, show i + ((n + 1 : Nat) : Int) * m.num = i + (n : Int) * m.num + m.num by push_cast; grind, Rat.pow_succ]
    grind
theorem gap_eq (p0 : 0 < p) (p1 : p < 1) (i : Int) : ∀ n : Nat, (∀ k : Nat, k < n → (i + (k : Int) * m.num + 1) / (m.den : Int) = (i + (k : Int) * m.num) / (m.den : Int)) → p ^ n * (fy p m h (i + 1) - fy p m h i) = fy p m h (i + (n : Int) * m.num + 1) - fy p m h (i + (n : Int) * m.num)
  | 0, _ => by
    rw [Rat.pow_zero]
    simp
  | n + 1, hk => by
    have ih := gap_eq p0 p1 i n fun k hkk => hk k (by omega)
    have g := gap_rec (m := m) (h := h) p0 p1 (i + (n : Int) * m.num)
    have e := hk n (by omega)
    rw [e] at g
    rw [show i + ((n + 1 : Nat) : Int) * m.num + 1 = i + (n : Int) * m.num + 1 + m.num by push_cast; grind, show i + ((n + 1 : Nat) : Int) * m.num = i + (n : Int) * m.num + m.num by push_cast; grind, Rat.pow_succ]
    grind
end
theorem pow_anti (p0 : 0 < p) (p1 : p < 1) {a b : Nat} (le : a ≤ b) : p ^ b ≤ p ^ a := by
  have e : b = a + (b - a) := by omega
  rw [e, pow_add']
  have := Rat.mul_le_mul_of_nonneg_left (pow_le_one' p0 p1 (b - a)) (Rat.le_of_lt (Rat.pow_pos (n := a) p0))
  grind
/-- the rounds from any spot on at a height of a mean's stretch -/
theorem rounds_at (p0 : 0 < p) (p1 : p < 1) (lo : LO p m ≤ h) (hi : h ≤ HI p m) {f : Rat} (f0 : 0 < f) (f1 : f ≤ 1) : ∃ i : Int, ∀ n : Nat, sms p h f n = (i + (n : Int) * m.num) / (m.den : Int) + 1 := by
  have d := den_pos' m
  have z0 := fy_zero p0 p1 lo
  have zl := fy_last p0 p1 hi
  have t0 : th p h f 0 = -f := by
    unfold th sms cns sp
    simp
    grind
  -- the place of the start
  obtain ⟨i, i1, i2⟩ : ∃ i, fy p m h i ≤ -f ∧ -f < fy p m h (i + 1) := by
    refine fy_find p0 p1 (-f) (m.den + 1) (-((m.den : Int) + 1)) ?_ ?_
    · have a := fy_add (m := m) (h := h) p0 p1 ((m.den : Int) - 1) (-2)
      rw [show (m.den : Int) - 1 + -2 * (m.den : Int) = -((m.den : Int) + 1) by omega, show ((-2 : Int) : Rat) = -2 from rfl] at a
      grind
    · rw [show -((m.den : Int) + 1) + ((m.den + 1 : Nat) : Int) = 0 by push_cast; omega]
      grind
  generalize hd : -f - fy p m h i = dl
  generalize he : fy p m h (i + 1) - -f = ep
  have d0 : 0 ≤ dl := by grind
  have e0 : 0 < ep := by grind
  have gsum : fy p m h (i + 1) - fy p m h i = dl + ep := by grind
  -- at places where no border is passed
  have plainL : ∀ n : Nat, (i + (n : Int) * m.num + 1) / (m.den : Int) = (i + (n : Int) * m.num) / (m.den : Int) → fy p m h (i + (n : Int) * m.num) + p ^ n * dl < (((i + (n : Int) * m.num) / (m.den : Int) : Int) : Rat) + 1 := fun n hn => by
    have a := gap_le (m := m) (h := h) p0 p1 i n
    have b := fy_high p0 p1 hi (i + (n : Int) * m.num + 1)
    have c := Rat.mul_pos (Rat.pow_pos (n := n) p0) e0
    rw [hn] at b
    rw [gsum] at a
    grind
  have plainR : ∀ n : Nat, (i + (n : Int) * m.num + 1) / (m.den : Int) = (i + (n : Int) * m.num) / (m.den : Int) → (((i + (n : Int) * m.num + 1) / (m.den : Int) : Int) : Rat) ≤ fy p m h (i + (n : Int) * m.num + 1) - p ^ n * ep := fun n hn => by
    have a := gap_le (m := m) (h := h) p0 p1 i n
    have b := fy_low p0 p1 lo (i + (n : Int) * m.num)
    have c := Rat.mul_nonneg (Rat.le_of_lt (Rat.pow_pos (n := n) p0)) d0
    rw [hn]
    rw [gsum] at a
    grind
  -- where a border is passed
  have spec : ∀ n : Nat, (i + (n : Int) * m.num + 1) / (m.den : Int) ≠ (i + (n : Int) * m.num) / (m.den : Int) → fy p m h (i + (n : Int) * m.num) = fy p m h ((m.den : Int) - 1) + (((i + (n : Int) * m.num) / (m.den : Int) : Int) : Rat) ∧ fy p m h (i + (n : Int) * m.num + 1) = fy p m h 0 + (((i + (n : Int) * m.num) / (m.den : Int) : Int) : Rat) + 1 ∧ (i + (n : Int) * m.num + 1) / (m.den : Int) = (i + (n : Int) * m.num) / (m.den : Int) + 1 := fun n hn => by
    generalize i + (n : Int) * m.num = j at *
    have h1 := Int.emod_add_mul_ediv j (m.den : Int)
    have h2 := Int.emod_nonneg j (show (m.den : Int) ≠ 0 by omega)
    have h3 := Int.emod_lt_of_pos j d
    have hm : j % (m.den : Int) = (m.den : Int) - 1 := by
      apply Classical.byContradiction
      intro c
      apply hn
      have e : j + 1 = (j % (m.den : Int) + 1) + j / (m.den : Int) * (m.den : Int) := by rw [Int.mul_comm]; omega
      rw [e, Int.add_mul_ediv_right _ _ (by omega), Int.ediv_eq_zero_of_lt (by omega) (by omega)]
      omega
    have ej : j = (m.den : Int) - 1 + j / (m.den : Int) * (m.den : Int) := by rw [Int.mul_comm]; omega
    have ej1 : j + 1 = 0 + (j / (m.den : Int) + 1) * (m.den : Int) := by rw [Int.add_mul, Int.mul_comm]; omega
    have a := fy_add (m := m) (h := h) p0 p1 ((m.den : Int) - 1) (j / (m.den : Int))
    have b := fy_add (m := m) (h := h) p0 p1 0 (j / (m.den : Int) + 1)
    rw [← ej] at a
    rw [← ej1, Rat.intCast_add, Rat.intCast_one] at b
    refine ⟨a, by grind, ?_⟩
    rw [ej1, Int.zero_add, Int.mul_ediv_cancel _ (by omega)]
  by_cases ex : ∃ n : Nat, (i + (n : Int) * m.num + 1) / (m.den : Int) ≠ (i + (n : Int) * m.num) / (m.den : Int)
  · -- the first such place
    obtain ⟨n0, s0, before⟩ : ∃ n0 : Nat, (i + (n0 : Int) * m.num + 1) / (m.den : Int) ≠ (i + (n0 : Int) * m.num) / (m.den : Int) ∧ ∀ k : Nat, k < n0 → (i + (k : Int) * m.num + 1) / (m.den : Int) = (i + (k : Int) * m.num) / (m.den : Int) := by
      obtain ⟨n, hn⟩ := ex
      induction n using Nat.strongRecOn with
      | _ n ih =>
        by_cases q : ∃ k : Nat, k < n ∧ (i + (k : Int) * m.num + 1) / (m.den : Int) ≠ (i + (k : Int) * m.num) / (m.den : Int)
        · obtain ⟨k, hk, hkn⟩ := q
          exact ih k hk hkn
        · exact ⟨n, hn, fun k hk => Classical.byContradiction fun c => q ⟨k, hk, c⟩⟩
    obtain ⟨a1, a2, a3⟩ := spec n0 s0
    have ge := gap_eq (m := m) (h := h) p0 p1 i n0 before
    rw [gsum, a1, a2] at ge
    by_cases side : fy p m h ((m.den : Int) - 1) + p ^ n0 * dl < 1
    · refine ⟨i, fun n => (left p0 p1 lo f0 f1 d0 (by rw [t0]; grind) ?_ n).2⟩
      intro n
      by_cases c : (i + (n : Int) * m.num + 1) / (m.den : Int) = (i + (n : Int) * m.num) / (m.den : Int)
      · exact plainL n c
      · have le : n0 ≤ n := by
          apply Classical.byContradiction
          intro q
          exact c (before n (by omega))
        obtain ⟨b1, b2, b3⟩ := spec n c
        have := Rat.mul_le_mul_of_nonneg_right (pow_anti p0 p1 le) d0
        rw [b1]
        grind
    · refine ⟨i + 1, fun n => ?_⟩
      have r := (right (i := i + 1) p0 p1 hi f0 f1 e0 (by rw [t0]; grind) ?_ n).2
      · exact r
      · intro n
        rw [show i + 1 + (n : Int) * m.num = i + (n : Int) * m.num + 1 by omega]
        by_cases c : (i + (n : Int) * m.num + 1) / (m.den : Int) = (i + (n : Int) * m.num) / (m.den : Int)
        · exact plainR n c
        · have le : n0 ≤ n := by
            apply Classical.byContradiction
            intro q
            exact c (before n (by omega))
          obtain ⟨b1, b2, b3⟩ := spec n c
          have := Rat.mul_le_mul_of_nonneg_right (pow_anti p0 p1 le) (Rat.le_of_lt e0)
          rw [b3, b2, Rat.intCast_add, Rat.intCast_one]
          grind
  · refine ⟨i, fun n => (left p0 p1 lo f0 f1 d0 (by rw [t0]; grind) ?_ n).2⟩
    intro n
    exact plainL n (Classical.byContradiction fun c => ex ⟨n, c⟩)
end
end Ev.C

end
section
set_option maxHeartbeats 4000000
/-! # EvP17: ends of stretches as heights -/
namespace Ev.C
open PySem
section
variable {p m : Rat}
theorem pow_mul_den (p : Rat) : ∀ n : Nat, p ^ n * (p.den : Rat) ^ n = (p.num : Rat) ^ n
  | 0 => by rw [Rat.pow_zero, Rat.pow_zero, Rat.pow_zero, Rat.mul_one]
  | n + 1 => by
    have ih := pow_mul_den p n
    have d := rat_den p
    rw [Rat.pow_succ, Rat.pow_succ, Rat.pow_succ]
    grind
/-- what both ends have below, at most -/
def EW (p : Rat) (Q : Nat) : Nat := p.den * p.den * (p.den ^ Q - p.num.natAbs ^ Q)
theorem num_lt (hp : Cut p) : 0 < p.num ∧ p.num < (p.den : Int) := by
  have pk := hp.ok
  exact ⟨(num_pos p).mpr pk.p0, by have := (lt_int p 1).mp (by rw [Rat.intCast_one]; exact pk.p1); omega⟩
theorem EW_pos (hp : Cut p) {Q : Nat} (hQ : 0 < Q) : 0 < EW p Q := by
  obtain ⟨a, b⟩ := num_lt hp
  have : p.num.natAbs ^ Q < p.den ^ Q := Nat.pow_lt_pow_left (by omega) (by omega)
  exact Nat.mul_pos (Nat.mul_pos p.den_pos p.den_pos) (by omega)
theorem EW_cast (hp : Cut p) (Q : Nat) : ((EW p Q : Nat) : Rat) = (p.den : Rat) * (p.den : Rat) * ((p.den : Rat) ^ Q * (1 - p ^ Q)) := by
  obtain ⟨a, b⟩ := num_lt hp
  have le : p.num.natAbs ^ Q ≤ p.den ^ Q := Nat.pow_le_pow_left (by omega) _
  have e := pow_mul_den p Q
  have nz : ((p.num.natAbs : Nat) : Rat) = (p.num : Rat) := by rw [← Rat.intCast_natCast, show ((p.num.natAbs : Nat) : Int) = p.num by omega]
  have s : ((p.den ^ Q - p.num.natAbs ^ Q : Nat) : Rat) = (p.den : Rat) ^ Q - (p.num : Rat) ^ Q := by
    have : ((p.den ^ Q : Nat) : Rat) = ((p.den ^ Q - p.num.natAbs ^ Q : Nat) : Rat) + ((p.num.natAbs ^ Q : Nat) : Rat) := by
      rw [← Rat.natCast_add]
      congr 1
      omega
    rw [Rat.natCast_pow, Rat.natCast_pow, nz] at this
    grind
  unfold EW
  rw [Rat.natCast_mul, Rat.natCast_mul, s, ← e]
  grind
theorem one_sub_mul (p : Rat) : (1 - p) * (p.den : Rat) = (((p.den : Int) - p.num : Int) : Rat) := by
  have d := rat_den p
  rw [Rat.intCast_sub, Rat.intCast_natCast]
  grind
theorem intpow (a : Int) (n : Nat) : ∃ c : Int, ((a : Int) : Rat) ^ n = (c : Rat) := ⟨a ^ n, (Rat.intCast_pow a n).symm⟩
theorem HI_dn (hp : Cut p) (m : Rat) : Dn (EW p m.den) (HI p m) := by
  have p0 := hp.ok.p0
  have p1 := hp.ok.p1
  have e1 : 0 < 1 - p := by grind
  have hR := mul_inv' (R_pos p0 p1 m.den_pos)
  have he := mul_inv' e1
  obtain ⟨z, hz⟩ := fsum_dn (p := p) (m := m) m.den
  obtain ⟨a, ha⟩ := intpow p.num m.den
  have o := one_sub_mul p
  have e := pow_mul_den p m.den
  rw [Rat.natCast_pow] at hz
  refine ⟨((p.den : Int) - p.num) * ((p.den : Int) - p.num) * z + m.num * ((p.den : Int) - p.num) * (p.den : Int) * a, ?_⟩
  rw [EW_cast hp, Rat.intCast_add, Rat.intCast_mul, Rat.intCast_mul, Rat.intCast_mul, Rat.intCast_mul, Rat.intCast_mul, Rat.intCast_natCast, ← o, ← ha, ← e, ← hz]
  unfold HI FS
  simp only [Rat.div_def]
  generalize (1 - p ^ m.den)⁻¹ = u at *
  generalize (1 - p)⁻¹ = v at *
  generalize p ^ m.den = q at *
  generalize fsum p m 0 m.den = X at *
  generalize (p.den : Rat) ^ m.den = Y at *
  have k : (1 - p) * (1 - p) * (X * u + (m.num : Rat) * q * u * v) * ((p.den : Rat) * (p.den : Rat) * (Y * (1 - q))) = (1 - p) * (1 - p) * (p.den : Rat) * (p.den : Rat) * Y * (X * ((1 - q) * u) + (m.num : Rat) * q * v * ((1 - q) * u)) := by grind
  rw [k, hR]
  have k2 : (1 - p) * (1 - p) * (p.den : Rat) * (p.den : Rat) * Y * (X * 1 + (m.num : Rat) * q * v * 1) = (1 - p) * (1 - p) * (p.den : Rat) * (p.den : Rat) * Y * X + (m.num : Rat) * (1 - p) * (p.den : Rat) * (p.den : Rat) * Y * q * ((1 - p) * v) := by grind
  rw [k2, he]
  grind
theorem LEN_dn (hp : Cut p) {Q : Nat} (hQ : 0 < Q) : Dn (EW p Q) (LEN p (Q - 1)) := by
  have p0 := hp.ok.p0
  have p1 := hp.ok.p1
  have hR := mul_inv' (R_pos p0 p1 hQ)
  have o := one_sub_mul p
  have e := pow_mul_den p (Q - 1)
  have pd : p ^ (Q - 1) * p = p ^ Q := by rw [← Rat.pow_succ, show Q - 1 + 1 = Q by omega]
  have bd : (p.den : Rat) ^ (Q - 1) * (p.den : Rat) = (p.den : Rat) ^ Q := by rw [← Rat.pow_succ, show Q - 1 + 1 = Q by omega]
  obtain ⟨a, ha⟩ := intpow p.num (Q - 1)
  refine ⟨((p.den : Int) - p.num) * ((p.den : Int) - p.num) * a * (p.den : Int), ?_⟩
  rw [EW_cast hp, Rat.intCast_mul, Rat.intCast_mul, Rat.intCast_mul, Rat.intCast_natCast, ← o, ← ha, ← e, ← bd]
  unfold LEN
  rw [pd, Rat.div_def]
  generalize (1 - p ^ Q)⁻¹ = u at *
  generalize p ^ Q = q at *
  generalize p ^ (Q - 1) = q1 at *
  generalize (p.den : Rat) ^ (Q - 1) = Y at *
  have k : (1 - p) * (1 - p) * q1 * u * ((p.den : Rat) * (p.den : Rat) * (Y * (p.den : Rat) * (1 - q))) = (1 - p) * (1 - p) * q1 * (p.den : Rat) * (p.den : Rat) * Y * (p.den : Rat) * ((1 - q) * u) := by grind
  rw [k, hR]
  grind
theorem LO_dn (hp : Cut p) (m : Rat) : Dn (EW p m.den) (LO p m) := (HI_dn hp m).sub (LEN_dn hp m.den_pos)
theorem EW_le (hp : Cut p) {Q : Nat} (hQ : Q ≤ 12) : EW p Q ≤ 64 * 8 ^ 12 := by
  have a : p.den * p.den ≤ 8 * 8 := Nat.mul_le_mul hp.d hp.d
  have b : p.den ^ Q ≤ 8 ^ 12 := Nat.le_trans (Nat.pow_le_pow_left hp.d Q) (Nat.pow_le_pow_right (by decide) hQ)
  exact Nat.mul_le_mul a (Nat.le_trans (Nat.sub_le _ _) b)
theorem HI_le (hp : Cut p) (m : Rat) : HI p m ≤ m := by
  have p0 := hp.ok.p0
  have p1 := hp.ok.p1
  have e1 : 0 < 1 - p := by grind
  have he := mul_inv' e1
  have hee : ((1 - p) * (1 - p))⁻¹ = (1 - p)⁻¹ * (1 - p)⁻¹ := Rat.inv_mul_rev _ _
  have a := FS_le (m := m) p0 p1 0
  rw [show ((((0 : Nat) : Int) + 1 : Int) : Rat) = 1 from rfl] at a
  have b := Rat.mul_le_mul_of_nonneg_left a (Rat.le_of_lt (Rat.mul_pos e1 e1))
  unfold HI
  simp only [Rat.div_def, hee] at b
  generalize FS p m 0 = X at *
  have k : (1 - p) * (1 - p) * (1 * m * (1 - p)⁻¹ + m * p * ((1 - p)⁻¹ * (1 - p)⁻¹)) = m := by
    have : (1 - p) * (1 - p) * (1 * m * (1 - p)⁻¹ + m * p * ((1 - p)⁻¹ * (1 - p)⁻¹)) = (1 - p) * m * ((1 - p) * (1 - p)⁻¹) + m * p * ((1 - p) * (1 - p)⁻¹) * ((1 - p) * (1 - p)⁻¹) := by grind
    rw [this, he]
    grind
  rwa [k] at b
theorem LO_lt (hp : Cut p) (m : Rat) : LO p m < HI p m := by
  have := LEN_pos hp (m.den - 1)
  unfold LO
  grind
/-- a number of the stretch, by its denominator -/
theorem end_fb {x : Rat} {d e : Nat} (hd : Dn d x) (h0 : 0 < d) (hd2 : 12 * d < 10 ^ e) (lo : -12 ≤ x) (hi : x ≤ 12) : FB e x := by
  have dl := hd.le h0
  have a := (le_int x 12).mp hi
  have b := (int_le x (-12)).mp lo
  exact ⟨by unfold Bd; omega, by unfold Bd; omega⟩
theorem HI_fb2 (hp : Cut p) (hm : Men m) (h12 : m.den ≤ 12) : FB 14 (HI p m) := by
  have a := EW_le hp h12
  have b := HI_le hp m
  have c := LO_lt hp m
  have d := LO_ge hp hm
  have p0 := hp.ok.p0
  have := hm.hi
  exact end_fb (e := 14) (HI_dn hp m) (EW_pos hp m.den_pos) (by omega) (by grind) (by grind)
theorem LO_fb2 (hp : Cut p) (hm : Men m) (h12 : m.den ≤ 12) : FB 14 (LO p m) := by
  have a := EW_le hp h12
  have b := HI_le hp m
  have c := LO_lt hp m
  have d := LO_ge hp hm
  have p0 := hp.ok.p0
  have := hm.hi
  exact end_fb (e := 14) (LO_dn hp m) (EW_pos hp m.den_pos) (by omega) (by grind) (by grind)
/-- where a height is beside a stretch -/
def side (p m h : Rat) : Int := if h < LO p m then -1 else if HI p m < h then 1 else 0
theorem ev_orderat {n : Nat} {h : Rat} (hp : Cut p) (hm : Men m) [q : QB n h] (hn : n ≤ 500) : f_order_at.m [fr p, fr m, fr h] = ret (.int (side p m h)) := by
  have q1 : QB 186 (HI p m) := ⟨HI_fb hp hm⟩
  have q2 : QB 290 (LO p m) := ⟨LO_fb hp hm⟩
  have en := ev_endsin hp hm
  have a1 : n + 290 ≤ 800 := by omega
  have a2 : 186 + n ≤ 800 := by omega
  unfold side
  by_cases c1 : h < LO p m
  · simp [f_order_at, b_order_at, run, en, a1, c1]
  · by_cases c2 : HI p m < h
    · simp [f_order_at, b_order_at, run, en, a1, a2, c1, c2]
    · simp [f_order_at, b_order_at, run, en, a1, a2, c1, c2]
theorem ev_isin {h : Rat} (hp : Cut p) (hm : Men m) [ho : HeightOk p h] : f_is_in.m [fr p, fr m, fr h] = ret (.bool (decide (LO p m ≤ h) && decide (h ≤ HI p m))) := by
  have := hp.ok; have := hm.ok; have := ho.fm
  have o := ev_orderat (h := h) (n := 31) hp hm (by decide)
  unfold side at o
  by_cases c1 : h < LO p m
  · have n1 : ¬ (LO p m ≤ h) := Rat.not_le.mpr c1
    rw [if_pos c1] at o
    simp [f_is_in, b_is_in, run, o, n1]
  · have g1 : LO p m ≤ h := Rat.not_lt.mp c1
    rw [if_neg c1] at o
    by_cases c2 : HI p m < h
    · have n2 : ¬ (h ≤ HI p m) := Rat.not_le.mpr c2
      rw [if_pos c2] at o
      simp [f_is_in, b_is_in, run, o, g1, n2]
    · have g2 : h ≤ HI p m := Rat.not_lt.mp c2
      rw [if_neg c2] at o
      simp [f_is_in, b_is_in, run, o, g1, g2]
/-- the numbers of rounds, by their places -/
theorem sms_in {h f : Rat} {i : Int} (d : ∀ n : Nat, sms p h f n = (i + (n : Int) * m.num) / (m.den : Int) + 1) : i / (m.den : Int) = -1 := by
  have := d 0
  unfold sms cns at this
  simp at this
  omega
end
end Ev.C

end
section
set_option maxHeartbeats 4000000
/-! # EvP18: rhythms -/
namespace Ev.C
open PySem
section
variable {p m h f : Rat}
/-- the rhythm of a mean, at any place -/
def bt (m : Rat) (i : Int) : Int := -((-(i + 1) * m.num) / (m.den : Int)) + (-i * m.num) / (m.den : Int)
theorem bt_add (m : Rat) (i c : Int) : bt m (i + c * (m.den : Int)) = bt m i := by
  have d := den_pos' m
  unfold bt
  have e1 : -(i + c * (m.den : Int) + 1) * m.num = -(i + 1) * m.num + (-(c * m.num)) * (m.den : Int) := by grind
  have e2 : -(i + c * (m.den : Int)) * m.num = -i * m.num + (-(c * m.num)) * (m.den : Int) := by grind
  rw [e1, e2, Int.add_mul_ediv_right _ _ (by omega), Int.add_mul_ediv_right _ _ (by omega)]
  omega
theorem bt_mod (m : Rat) (k : Nat) : bt m ((k % m.den : Nat) : Int) = bt m (k : Int) := by
  have a := bt_add m ((k % m.den : Nat) : Int) ((k / m.den : Nat) : Int)
  have e : ((k % m.den : Nat) : Int) + ((k / m.den : Nat) : Int) * (m.den : Int) = (k : Int) := by
    have := Nat.mod_add_div k m.den
    have e2 : ((k % m.den + m.den * (k / m.den) : Nat) : Int) = (k : Int) := by rw [this]
    push_cast at e2 ⊢
    rw [Int.mul_comm ((k : Int) / (m.den : Int))]
    exact e2
  rw [e] at a
  exact a.symm
theorem up_div (x : Int) {Q : Int} (hQ : 0 < Q) : -((-x) / Q) = (x + Q - 1) / Q := by
  have h1 := Int.emod_add_mul_ediv (x + Q - 1) Q
  have h2 := Int.emod_nonneg (x + Q - 1) (show Q ≠ 0 by omega)
  have h3 := Int.emod_lt_of_pos (x + Q - 1) hQ
  have e : -x = (Q - 1 - (x + Q - 1) % Q) + (-((x + Q - 1) / Q)) * Q := by grind
  rw [e, Int.add_mul_ediv_right _ _ (by omega), Int.ediv_eq_zero_of_lt (by omega) (by omega)]
  omega
theorem bt_up (m : Rat) (i : Int) : bt m i = ((i + 1) * m.num + (m.den : Int) - 1) / (m.den : Int) - (i * m.num + (m.den : Int) - 1) / (m.den : Int) := by
  have d := den_pos' m
  unfold bt
  rw [Int.neg_mul, Int.neg_mul, up_div _ d]
  have := up_div (i * m.num) d
  omega
theorem inv_all : ((List.range 37).all fun Q => (List.range 37).all fun a => (!(decide (1 ≤ Q) && decide (Nat.gcd a Q = 1))) || (List.range 37).any fun x => decide (a * x % Q = 1 % Q)) = true := by decide +kernel
theorem inv_ex (hm : Men m) : ∃ x : Nat, ∃ c : Int, m.num * (x : Int) = 1 + c * (m.den : Int) := by
  have dp := m.den_pos
  have hd := hm.d
  have n0 := num_nonneg' hm
  have co : Nat.gcd (m.num.toNat % m.den) m.den = 1 := by
    have r : Nat.gcd m.num.natAbs m.den = 1 := m.reduced
    rw [show m.num.natAbs = m.num.toNat by omega, Nat.gcd_comm, Nat.gcd_rec] at r
    exact r
  have lt := Nat.mod_lt m.num.toNat dp
  have a := List.all_eq_true.mp inv_all m.den (List.mem_range.mpr (by omega))
  have b := List.all_eq_true.mp a (m.num.toNat % m.den) (List.mem_range.mpr (by omega))
  rw [decide_eq_true (show 1 ≤ m.den from dp), decide_eq_true co] at b
  simp only [Bool.and_true, Bool.not_true, Bool.false_or] at b
  obtain ⟨x, _, hx⟩ := List.any_eq_true.mp b
  have hx' : m.num.toNat % m.den * x % m.den = 1 % m.den := by simpa using hx
  have hx2 : m.num.toNat * x % m.den = 1 % m.den := by rw [← hx', Nat.mod_mul_mod]
  refine ⟨x, ((m.num.toNat * x / m.den : Nat) : Int) - ((1 / m.den : Nat) : Int), ?_⟩
  have e1 := Nat.mod_add_div (m.num.toNat * x) m.den
  have e2 := Nat.mod_add_div 1 m.den
  have e3 : ((m.num.toNat * x : Nat) : Int) = m.num * (x : Int) := by
    rw [Int.natCast_mul, show ((m.num.toNat : Nat) : Int) = m.num by omega]
  have f1 : ((m.num.toNat * x % m.den + m.den * (m.num.toNat * x / m.den) : Nat) : Int) = ((m.num.toNat * x : Nat) : Int) := by rw [e1]
  have f2 : ((1 % m.den + m.den * (1 / m.den) : Nat) : Int) = 1 := by rw [e2]; rfl
  rw [hx2] at f1
  rw [Int.natCast_add, Int.natCast_mul] at f1 f2
  rw [e3] at f1
  generalize ((m.num.toNat * x / m.den : Nat) : Int) = A at *
  generalize ((1 / m.den : Nat) : Int) = Bq at *
  generalize ((1 % m.den : Nat) : Int) = R at *
  grind
/-- the place of the rhythm from which the rounds go on -/
theorem phase (hm : Men m) {i : Int} (d : ∀ n : Nat, sms p h f n = (i + (n : Int) * m.num) / (m.den : Int) + 1) : ∃ r : Nat, r < m.den ∧ ∀ j : Nat, cnt p h (sp p h f j) = bt m ((r + j : Nat) : Int) := by
  have dp := den_pos' m
  obtain ⟨x, c, hx⟩ := inv_ex hm
  have r0 := Int.emod_nonneg ((i + 1) * (x : Int)) (show (m.den : Int) ≠ 0 by omega)
  have r1 := Int.emod_lt_of_pos ((i + 1) * (x : Int)) dp
  refine ⟨(((i + 1) * (x : Int)) % (m.den : Int)).toNat, by omega, fun j => ?_⟩
  have e1 := d j
  have e2 := d (j + 1)
  rw [sms_succ] at e2
  have ec : cnt p h (sp p h f j) = (i + ((j + 1 : Nat) : Int) * m.num) / (m.den : Int) - (i + (j : Int) * m.num) / (m.den : Int) := by omega
  rw [ec, bt_up]
  have er : (((((i + 1) * (x : Int)) % (m.den : Int)).toNat + j : Nat) : Int) = (i + 1) * (x : Int) - ((i + 1) * (x : Int)) / (m.den : Int) * (m.den : Int) + (j : Int) := by
    have := Int.emod_add_mul_ediv ((i + 1) * (x : Int)) (m.den : Int)
    push_cast
    rw [Int.toNat_of_nonneg r0, Int.mul_comm (((i + 1) * (x : Int)) / (m.den : Int))]
    omega
  rw [er]
  generalize ((i + 1) * (x : Int)) / (m.den : Int) = y
  have k1 : ((i + 1) * (x : Int) - y * (m.den : Int) + (j : Int) + 1) * m.num + (m.den : Int) - 1 = i + ((j + 1 : Nat) : Int) * m.num + ((i + 1) * c - y * m.num + 1) * (m.den : Int) := by
    have : (i + 1) * (x : Int) * m.num = (i + 1) * (1 + c * (m.den : Int)) := by rw [← hx]; grind
    push_cast
    grind
  have k2 : ((i + 1) * (x : Int) - y * (m.den : Int) + (j : Int)) * m.num + (m.den : Int) - 1 = i + (j : Int) * m.num + ((i + 1) * c - y * m.num + 1) * (m.den : Int) := by
    have : (i + 1) * (x : Int) * m.num = (i + 1) * (1 + c * (m.den : Int)) := by rw [← hx]; grind
    grind
  rw [k1, k2, Int.add_mul_ediv_right _ _ (by omega), Int.add_mul_ediv_right _ _ (by omega)]
  omega
/-! ### the walk -/
def btl (m : Rat) (n : Nat) : List Int := (List.range n).map fun i : Nat => bt m (i : Int)
theorem btl_succ (n : Nat) : btl m (n + 1) = btl m n ++ [bt m (n : Int)] := by
  unfold btl
  rw [List.range_succ, List.map_append]
  rfl
@[simp] theorem btl_len (n : Nat) : (btl m n).length = n := by simp [btl]
theorem beat_loop (hm : Men m) {a0 : Option D} (n : Nat) (hn : n ≤ 40) : ∀ (k t : Nat) (o4 : Option D), t + k = n → ∃ o4', forL (fun x env => bnd (lft (asgT (.n 4) x env)) fun env' => evSs ⟨[], c_u_law_beat⟩ 1000000 b_u_law_beat_1 env') ((List.range' t k).map fun t : Nat => PyData.int (0 + (t : Int))) [a0, some (.int m.num), some (.int (m.den : Int)), some (.list ((btl m t).map .int)), o4] = ret (.nx [a0, some (.int m.num), some (.int (m.den : Int)), some (.list ((btl m n).map .int)), o4'])
  | 0, t, o4, e => by
    simp at e
    subst e
    exact ⟨_, rfl⟩
  | k + 1, t, o4, e => by
    rw [List.range'_succ, List.map_cons]
    unfold forL
    have m1 : mulOk (-((t : Int) + 1)) m.num = true := mulOk_l (by omega)
    have m2 : mulOk (-(t : Int)) m.num = true := mulOk_l (by omega)
    have dv : ∀ a, divOk a (m.den : Int) = true := fun a => divOk_bd hm.fb.b
    have d0 : m.den ≠ 0 := m.den_nz
    have f1 : (-((t : Int) + 1) * m.num).fdiv (m.den : Int) = (-((t : Int) + 1) * m.num) / (m.den : Int) := Int.fdiv_eq_ediv_of_nonneg _ (by omega)
    have f2 : (-(t : Int) * m.num).fdiv (m.den : Int) = (-(t : Int) * m.num) / (m.den : Int) := Int.fdiv_eq_ediv_of_nonneg _ (by omega)
    have l1 : lenOk (t + 1) = true := lenOk_le (by omega)
    have body : (bnd (lft (asgT (.n 4) (.int (0 + (t : Int))) [a0, some (.int m.num), some (.int (m.den : Int)), some (.list ((btl m t).map .int)), o4])) fun env' => evSs ⟨[], c_u_law_beat⟩ 1000000 b_u_law_beat_1 env') = ret (.nx [a0, some (.int m.num), some (.int (m.den : Int)), some (.list ((btl m (t + 1)).map .int)), some (.int (0 + (t : Int)))]) := by
      rw [btl_succ, Int.zero_add]
      unfold bt
      generalize (t : Int) = z at *
      simp only [b_u_law_beat_1, ev_sc, ev_app, getv_s, getv_0, Option.bind_some, asL_l, lft_some, bnd_ret, ev_bin, ev_neg, ev_v, ev_k, bin_add, neg_i, bin_mul, m1, m2, if_true, bin_fdiv, asgT_n, List.set_cons_succ, List.set_cons_zero]
      have nz : (((m.den : Nat) : Int) != 0) = true := by simp [d0]
      simp only [nz, dv, Bool.and_true, if_true, lft_some, bnd_ret, neg_i, bin_add, f1, f2, List.length_map, btl_len, l1]
      simp
    rw [body, bnd_ret]
    exact beat_loop hm n hn k (t + 1) _ (by omega)
theorem ev_lbeat (hm : Men m) : f_u_law_beat.m [fr m] = ret (.list ((btl m m.den).map .int)) := by
  have hd := hm.d
  obtain ⟨o4, lp⟩ := beat_loop hm (a0 := some (fr m)) m.den (by omega) m.den 0 none (by omega)
  have e1 : btl m 0 = [] := rfl
  rw [e1] at lp
  have g2 : rngOk (m.den : Int) = true := rngOk_le (by omega) (by omega)
  simp at lp
  simp [f_u_law_beat, b_u_law_beat, run, g2, C.rng0']
  rw [lp]
  simp
abbrev ibT : Tb := ⟨[], c_u_law_is_beat⟩
/-- what does not fit at a place -/
def mis (m : Rat) (xs : List Int) (r : Nat) : List (Int × Nat) := xs.zipIdx.filter fun q => decide (q.1 ≠ bt m (((r + q.2) % m.den : Nat) : Int))
theorem mis_lc (hm : Men m) {xs : List Int} (hx : xs.length ≤ 1000) {r : Nat} {a4 a5 : Option D} : evE ibT (.lc (.t (.cons (.n 4) (.cons (.n 5) .nil))) (.enum (.v 0)) e_u_law_is_beat_1 e_u_law_is_beat_2) [some (.list (xs.map .int)), some (.list ((btl m m.den).map .int)), some (.int (m.den : Int)), some (.int (r : Int)), a4, a5] = ret (.list ((mis m xs r).map fun _ => .int 1)) := by
  have dp := m.den_pos
  rw [ev_lc, ev_enum]
  simp [enumD_map]
  rw [lcL_filter (c := fun q : Int × Nat => decide (q.1 ≠ bt m (((r + q.2) % m.den : Nat) : Int))) (v := fun _ => PyData.int 1) (fun q hq => by
    have fm : ((r : Int) + (q.2 : Int)).fmod (m.den : Int) = (((r + q.2) % m.den : Nat) : Int) := by
      rw [Int.fmod_eq_emod_of_nonneg _ (by omega)]
      push_cast
      rfl
    have lt := Nat.mod_lt (r + q.2) dp
    have g : (btl m m.den)[(r + q.2) % m.den]? = some (bt m (((r + q.2) % m.den : Nat) : Int)) := by
      unfold btl
      rw [List.getElem?_map, List.getElem?_range lt]
      rfl
    have ai : L2.atI ((btl m m.den).map PyData.int) (((r + q.2) % m.den : Nat) : Int) = some (.int (bt m (((r + q.2) % m.den : Nat) : Int))) := at_mapf g
    have d0 : m.den ≠ 0 := m.den_nz
    generalize (((r + q.2) % m.den : Nat) : Int) = j at *
    by_cases z : q.1 = bt m j
    · simp [isNo, e_u_law_is_beat_1, e_u_law_is_beat_2, d0, fm, ai, z]
    · simp [isNo, e_u_law_is_beat_1, e_u_law_is_beat_2, d0, fm, ai, z])]
  have len : lenOk xs.length = true := lenOk_le (by omega)
  unfold mis
  simp [len]
theorem isbeat_loop (hm : Men m) {xs : List Int} (hx : xs.length ≤ 1000) {r : Nat} (fit : mis m xs r = []) : ∀ (k t : Nat) (o3 o4 o5 : Option D), t + k = m.den → t ≤ r → r < m.den → forL (fun x env => bnd (lft (asgT (.n 3) x env)) fun env' => evSs ibT 1000000 b_u_law_is_beat_3 env') ((List.range' t k).map fun t : Nat => PyData.int (0 + (t : Int))) [some (.list (xs.map .int)), some (.list ((btl m m.den).map .int)), some (.int (m.den : Int)), o3, o4, o5] = ret (.rt (.bool true))
  | 0, t, o3, o4, o5, e, h1, h2 => by omega
  | k + 1, t, o3, o4, o5, e, h1, h2 => by
    rw [List.range'_succ, List.map_cons]
    unfold forL
    have lc := mis_lc hm hx (r := t) (a4 := o4) (a5 := o5)
    have sh : ShL 0 ((mis m xs t).map fun _ => (.int 1 : D)) := sh_map _ fun _ => inferInstance
    have ce : cmpD .eq (.list ((mis m xs t).map fun _ => .int 1)) (.list []) = some ((mis m xs t).map fun _ => (.int 1 : D)).isEmpty := cmp_eqnil
    by_cases c : mis m xs t = []
    · have body : (bnd (lft (asgT (.n 3) (.int (0 + (t : Int))) [some (.list (xs.map .int)), some (.list ((btl m m.den).map .int)), some (.int (m.den : Int)), o3, o4, o5])) fun env' => evSs ibT 1000000 b_u_law_is_beat_3 env') = ret (.rt (.bool true)) := by
        rw [Int.zero_add]
        rw [c] at lc
        simp at lc
        simp [b_u_law_is_beat_3, lc]
      rw [body, bnd_ret]
    · have ne : ((mis m xs t).map fun _ => (.int 1 : D)).isEmpty = false := by
        cases hq : mis m xs t with
        | nil => exact absurd hq c
        | cons a b => rfl
      rw [ne] at ce
      have body : (bnd (lft (asgT (.n 3) (.int (0 + (t : Int))) [some (.list (xs.map .int)), some (.list ((btl m m.den).map .int)), some (.int (m.den : Int)), o3, o4, o5])) fun env' => evSs ibT 1000000 b_u_law_is_beat_3 env') = ret (.nx [some (.list (xs.map .int)), some (.list ((btl m m.den).map .int)), some (.int (m.den : Int)), some (.int (t : Int)), o4, o5]) := by
        rw [Int.zero_add]
        generalize ((mis m xs t).map fun _ => (.int 1 : D)) = ys at *
        simp [b_u_law_is_beat_3, lc, ce]
      rw [body, bnd_ret]
      have tr : t ≠ r := fun z => c (by rw [z]; exact fit)
      exact isbeat_loop hm hx fit k (t + 1) _ _ _ (by omega) (by omega) h2
theorem ev_lisbeat (hm : Men m) {xs : List Int} (hx : xs.length ≤ 1000) {r : Nat} (hr : r < m.den) (fit : mis m xs r = []) : f_u_law_is_beat.m [.list (xs.map .int), .list ((btl m m.den).map .int)] = ret (.bool true) := by
  have hd := hm.d
  have lp := isbeat_loop hm hx fit m.den 0 none none none (by omega) (by omega) hr
  have g2 : rngOk (m.den : Int) = true := rngOk_le (by omega) (by omega)
  simp at lp
  simp [f_u_law_is_beat, b_u_law_is_beat, run, g2, C.rng0']
  rw [lp]
  simp
/-- the rounds at a height of a mean's stretch are its rhythm -/
theorem rounds_beat (hp : Cut p) (hm : Men m) (lo : LO p m ≤ h) (hi : h ≤ HI p m) (f0 : 0 < f) (f1 : f ≤ 1) (n : Nat) (hn : n ≤ 1000) : f_u_law_is_beat.m [.list ((cns p h f n).map .int), .list ((btl m m.den).map .int)] = ret (.bool true) := by
  obtain ⟨i, di⟩ := rounds_at hp.ok.p0 hp.ok.p1 lo hi f0 f1
  obtain ⟨r, hr, hj⟩ := phase hm di
  refine ev_lisbeat hm (by simp; exact hn) hr ?_
  unfold mis
  rw [List.filter_eq_nil_iff]
  intro q hq
  obtain ⟨a, j⟩ := q
  have gi := List.mem_zipIdx_iff_getElem?.mp hq
  simp only at gi
  have jn : j < n := by
    have := (List.getElem?_eq_some_iff.mp gi).1
    simpa using this
  unfold cns at gi
  rw [List.getElem?_map, List.getElem?_range jn] at gi
  have ea : a = cnt p h (sp p h f j) := by simpa using gi.symm
  rw [bt_mod, ea, hj j]
  simp
end
end Ev.C

end
section
set_option maxHeartbeats 4000000
/-! # EvP19: on which side of a mean's stretch a height is, by integers -/
namespace Ev
open PySem
section
variable {T : Tb} {env : Env}
@[simp] theorem ev_r3 {a b c : E} : evIt T (.r3 a b c) env = bnd (evE T a env) fun x => bnd (evE T b env) fun y => bnd (evE T c env) fun z => bnd (lft (asI x)) fun i => bnd (lft (asI y)) fun j => bnd (lft (asI z)) fun k => lft (if rngOk i && rngOk j && decide (k = -1) then some (rngDn i j) else none) := by simp only [evIt]
end
namespace C
section
variable {p m h : Rat}
/-- W i: the sum of the last i floors, by integers -/
def WS (p m : Rat) : Nat → Int
  | 0 => 0
  | i + 1 => flo m (m.den - i - 1) * (p.den : Int) ^ i + p.num * WS p m i
theorem WS_fsum (p m : Rat) : ∀ i, i ≤ m.den → (p.den : Rat) * (WS p m i : Rat) = (p.den : Rat) ^ i * fsum p m (m.den - i) i
  | 0, _ => by simp [WS, fsum]
  | i + 1, h => by
    have ih := WS_fsum p m i (by omega)
    have fr := fsum_first (p := p) (m := m) (m.den - (i + 1)) i
    have e : m.den - (i + 1) + 1 = m.den - i := by omega
    have e2 : m.den - i - 1 = m.den - (i + 1) := by omega
    have d := rat_den p
    rw [e] at fr
    rw [fr]
    unfold WS
    rw [e2, Rat.intCast_add, Rat.intCast_mul, Rat.intCast_mul, Rat.intCast_pow, Rat.intCast_natCast, Rat.pow_succ]
    generalize (flo m (m.den - (i + 1)) : Rat) = x at *
    generalize (p.den : Rat) ^ i = y at *
    generalize fsum p m (m.den - i) i = z at *
    generalize (WS p m i : Rat) = w at *
    grind
theorem fdiv_flo2 (m : Rat) {i : Nat} (h : i < m.den) : (((m.den : Int) + (i : Int) * -1) * m.num).fdiv (m.den : Int) = flo m (m.den - i - 1) := by
  unfold flo
  rw [Int.fdiv_eq_ediv_of_nonneg _ (by omega)]
  congr 2
  omega
theorem flo_small (hd : m.den ≤ 90) (hn : m.num.natAbs < 2 ^ 50) {i : Nat} (hi : i < 90) : (flo m i).natAbs < 2 ^ 64 := by
  unfold flo
  have a := Int.natAbs_ediv_le_natAbs (((i : Int) + 1) * m.num) (m.den : Int)
  rw [Int.natAbs_mul] at a
  have b : ((i : Int) + 1).natAbs ≤ 90 := by omega
  have c : ((i : Int) + 1).natAbs * m.num.natAbs ≤ 90 * m.num.natAbs := Nat.mul_le_mul_right _ b
  omega
theorem weighed_loop (hp : Cut p) (hd : m.den ≤ 90) (hn : m.num.natAbs < 2 ^ 50) : ∀ (k t : Nat) (o6 : Option D), t + k = m.den → ∃ o6', forL (fun x env => bnd (lft (asgT (.n 6) x env)) fun env' => evSs ⟨[], c_weighed_in⟩ 1000000 b_weighed_in_1 env') ((List.range' t k).map fun t : Nat => PyData.int ((m.den : Int) + (t : Int) * -1)) [some (fr p), some (fr m), some (.int p.num), some (.int (p.den : Int)), some (.int (WS p m t)), some (.int ((p.den : Int) ^ t)), o6] = ret (.nx [some (fr p), some (fr m), some (.int p.num), some (.int (p.den : Int)), some (.int (WS p m m.den)), some (.int ((p.den : Int) ^ m.den)), o6'])
  | 0, t, o6, e => by
    simp at e
    subst e
    exact ⟨_, rfl⟩
  | k + 1, t, o6, e => by
    rw [List.range'_succ, List.map_cons]
    unfold forL
    obtain ⟨a, b⟩ := num_lt hp
    have d8 := hp.d
    have m1 : mulOk ((m.den : Int) + (t : Int) * -1) m.num = true := mulOk_l (by omega)
    have d1 : divOk (((m.den : Int) + (t : Int) * -1) * m.num) (m.den : Int) = true := divOk_bd (n := 3) (by unfold Bd; omega)
    have d0 : m.den ≠ 0 := m.den_nz
    have fl := fdiv_flo2 m (i := t) (by omega)
    have m2 : mulOk (flo m (m.den - t - 1)) ((p.den : Int) ^ t) = true := mulOk_l (flo_small hd hn (by omega))
    have m3 : mulOk p.num (WS p m t) = true := mulOk_l (by omega)
    have m4 : mulOk ((p.den : Int) ^ t) (p.den : Int) = true := mulOk_r (by omega)
    have body : (bnd (lft (asgT (.n 6) (.int ((m.den : Int) + (t : Int) * -1)) [some (fr p), some (fr m), some (.int p.num), some (.int (p.den : Int)), some (.int (WS p m t)), some (.int ((p.den : Int) ^ t)), o6])) fun env' => evSs ⟨[], c_weighed_in⟩ 1000000 b_weighed_in_1 env') = ret (.nx [some (fr p), some (fr m), some (.int p.num), some (.int (p.den : Int)), some (.int (WS p m (t + 1))), some (.int ((p.den : Int) ^ (t + 1))), some (.int ((m.den : Int) + (t : Int) * -1))]) := by
      rw [Int.pow_succ]
      show _ = ret (Fl.nx [some (fr p), some (fr m), some (.int p.num), some (.int (p.den : Int)), some (.int (flo m (m.den - t - 1) * (p.den : Int) ^ t + p.num * WS p m t)), some (.int ((p.den : Int) ^ t * (p.den : Int))), some (.int ((m.den : Int) + (t : Int) * -1))])
      generalize WS p m t = w at *
      generalize (p.den : Int) ^ t = y at *
      generalize (m.den : Int) + (t : Int) * -1 = z at *
      simp [b_weighed_in_1, m1, d1, d0, fl, m2, m3, m4]
    rw [body, bnd_ret]
    exact weighed_loop hp hd hn k (t + 1) _ (by omega)
theorem ev_weighed (hp : Cut p) (hd : m.den ≤ 90) (hn : m.num.natAbs < 2 ^ 50) : f_weighed_in.m [fr p, fr m] = ret (.int (WS p m m.den)) := by
  obtain ⟨o6, lp⟩ := weighed_loop hp hd hn m.den 0 none (by omega)
  rw [show WS p m 0 = 0 from rfl, Int.pow_zero] at lp
  have g1 : rngOk 0 = true := by decide
  have g2 : rngOk (m.den : Int) = true := rngOk_le (by omega) (by omega)
  have e : rngDn (m.den : Int) 0 = (List.range' 0 m.den).map fun t : Nat => PyData.int ((m.den : Int) + (t : Int) * -1) := by
    unfold rngDn
    rw [← List.range_eq_range', show ((m.den : Int) - 0).toNat = m.den by omega]
  rw [← e] at lp
  simp at lp
  simp [f_weighed_in, b_weighed_in, run, g1, g2]
  rw [lp]
  simp
/-- small enough for one step's products -/
structure Sm (q : Rat) : Prop where
  a : q.num.natAbs < 2 ^ 58
  b : q.den < 2 ^ 58
/-- the high end, by integers -/
def HN (p m : Rat) : Int := ((p.den : Int) - p.num) * WS p m m.den + m.num * (p.num ^ (m.den - 1) * p.num)
def BA (p : Rat) (Q : Nat) : Int := (p.den : Int) ^ (Q - 1) * (p.den : Int) - p.num ^ (Q - 1) * p.num
theorem BA_eq (p : Rat) {Q : Nat} (hQ : 0 < Q) : BA p Q = (p.den : Int) ^ Q - p.num ^ Q := by
  unfold BA
  rw [← Int.pow_succ, ← Int.pow_succ, show (Q - 1).succ = Q by omega]
theorem BA_cast (p : Rat) {Q : Nat} (hQ : 0 < Q) : (BA p Q : Rat) = (p.den : Rat) ^ Q * (1 - p ^ Q) := by
  rw [BA_eq p hQ, Rat.intCast_sub, Rat.intCast_pow, Rat.intCast_pow, Rat.intCast_natCast]
  have := pow_mul_den p Q
  grind
theorem BA_pos (hp : Cut p) {Q : Nat} (hQ : 0 < Q) : 0 < BA p Q := by
  have a := BA_cast p hQ
  have r := R_pos hp.ok.p0 hp.ok.p1 hQ
  have d : (0 : Rat) < (p.den : Rat) := Rat.natCast_pos.mpr p.den_pos
  have : (0 : Rat) < (BA p Q : Rat) := by rw [a]; exact Rat.mul_pos (Rat.pow_pos d) r
  exact Rat.intCast_pos.mp this
theorem HN_HI (hp : Cut p) (m : Rat) : HI p m * ((p.den : Rat) * (BA p m.den : Rat)) = ((((p.den : Int) - p.num) * HN p m : Int) : Rat) := by
  have p0 := hp.ok.p0
  have p1 := hp.ok.p1
  have e1 : 0 < 1 - p := by grind
  have hR := mul_inv' (R_pos p0 p1 m.den_pos)
  have he := mul_inv' e1
  have o := one_sub_mul p
  have e := pow_mul_den p m.den
  have w := WS_fsum p m m.den (Nat.le_refl _)
  rw [Nat.sub_self] at w
  rw [BA_cast p m.den_pos]
  unfold HN
  rw [← Int.pow_succ, show (m.den - 1).succ = m.den by have := m.den_pos; omega, Rat.intCast_mul, Rat.intCast_add, Rat.intCast_mul, Rat.intCast_mul, Rat.intCast_pow, ← o, ← e]
  unfold HI FS
  simp only [Rat.div_def]
  generalize (1 - p ^ m.den)⁻¹ = u at *
  generalize (1 - p)⁻¹ = v at *
  generalize p ^ m.den = q at *
  generalize fsum p m 0 m.den = X at *
  generalize (p.den : Rat) ^ m.den = Y at *
  generalize (WS p m m.den : Rat) = W at *
  have k : (1 - p) * (1 - p) * (X * u + (m.num : Rat) * q * u * v) * ((p.den : Rat) * (Y * (1 - q))) = (1 - p) * (1 - p) * (p.den : Rat) * ((Y * X) * ((1 - q) * u)) + (1 - p) * (p.den : Rat) * (m.num : Rat) * q * Y * ((1 - q) * u) * ((1 - p) * v) := by grind
  rw [k, hR, he, ← w]
  grind
theorem LN_LO (hp : Cut p) (m : Rat) : LO p m * ((p.den : Rat) * (BA p m.den : Rat)) = ((((p.den : Int) - p.num) * (HN p m - ((p.den : Int) - p.num) * p.num ^ (m.den - 1)) : Int) : Rat) := by
  have p0 := hp.ok.p0
  have p1 := hp.ok.p1
  have hR := mul_inv' (R_pos p0 p1 m.den_pos)
  have o := one_sub_mul p
  have e := pow_mul_den p (m.den - 1)
  have q1 : m.den - 1 + 1 = m.den := by have := m.den_pos; omega
  have pd : p ^ (m.den - 1) * p = p ^ m.den := by rw [← Rat.pow_succ, q1]
  have bd : (p.den : Rat) ^ (m.den - 1) * (p.den : Rat) = (p.den : Rat) ^ m.den := by rw [← Rat.pow_succ, q1]
  have hh := HN_HI hp m
  unfold LO
  have k : (HI p m - LEN p (m.den - 1)) * ((p.den : Rat) * (BA p m.den : Rat)) = HI p m * ((p.den : Rat) * (BA p m.den : Rat)) - LEN p (m.den - 1) * ((p.den : Rat) * (BA p m.den : Rat)) := by grind
  rw [k, hh, BA_cast p m.den_pos]
  rw [Rat.intCast_sub, Rat.intCast_natCast] at o
  simp only [Rat.intCast_mul, Rat.intCast_sub, Rat.intCast_pow, Rat.intCast_natCast]
  rw [← o, ← e, ← bd]
  unfold LEN
  rw [pd, Rat.div_def]
  generalize (1 - p ^ m.den)⁻¹ = u at *
  generalize p ^ m.den = q at *
  generalize p ^ (m.den - 1) = r at *
  generalize (p.den : Rat) ^ (m.den - 1) = Y at *
  generalize (HN p m : Rat) = W at *
  have k2 : (1 - p) * (1 - p) * r * u * ((p.den : Rat) * (Y * (p.den : Rat) * (1 - q))) = (1 - p) * (1 - p) * (p.den : Rat) * (p.den : Rat) * Y * r * ((1 - q) * u) := by grind
  rw [k2, hR]
  grind
theorem cmp_scale {x h : Rat} {d N : Int} (hd : 0 < d) (e : x * (d : Rat) = (N : Rat)) : (x < h ↔ (h.den : Int) * N < h.num * d) ∧ (h < x ↔ h.num * d < (h.den : Int) * N) := by
  have hn := rat_den h
  have d0 : (0 : Rat) < (d : Rat) := Rat.intCast_pos.mpr hd
  have hd0 : (0 : Rat) < (h.den : Rat) := Rat.natCast_pos.mpr h.den_pos
  have c1 : (((h.den : Int) * N : Int) : Rat) = x * ((d : Rat) * (h.den : Rat)) := by
    rw [Rat.intCast_mul, ← e, Rat.intCast_natCast]; grind
  have c2 : ((h.num * d : Int) : Rat) = h * ((d : Rat) * (h.den : Rat)) := by
    rw [Rat.intCast_mul, ← hn]; grind
  have dd := Rat.mul_pos d0 hd0
  constructor
  · rw [← Rat.intCast_lt_intCast, c1, c2]
    exact ⟨fun z => Rat.mul_lt_mul_of_pos_right z dd, fun z => Rat.lt_of_mul_lt_mul_right z (Rat.le_of_lt dd)⟩
  · rw [← Rat.intCast_lt_intCast, c1, c2]
    exact ⟨fun z => Rat.mul_lt_mul_of_pos_right z dd, fun z => Rat.lt_of_mul_lt_mul_right z (Rat.le_of_lt dd)⟩
theorem fr_pow (p : Rat) (n : Nat) : fr (p ^ n) = .tuple [.int (p.num ^ n), .int ((p.den : Int) ^ n)] := by
  unfold fr
  rw [Rat.num_pow, Rat.den_pow, Int.natCast_pow]
theorem ev_sidein (hp : Cut p) (hd : m.den ≤ 90) (hn : m.num.natAbs < 2 ^ 50) (hh : Sm h) : f_side_in.m [fr p, fr m, fr h] = ret (.int (side p m h)) := by
  obtain ⟨a, b⟩ := num_lt hp
  have d8 := hp.d
  have dp := m.den_pos
  have ha := hh.a
  have hb := hh.b
  have ew := ev_weighed hp hd hn
  have pw := ev_powerin hp (n := m.den - 1) (by omega)
  rw [show ((m.den - 1 : Nat) : Int) = (m.den : Int) - 1 by omega, fr_pow] at pw
  have m1 : mulOk (p.num ^ (m.den - 1)) p.num = true := mulOk_r (by omega)
  have m2 : mulOk ((p.den : Int) ^ (m.den - 1)) (p.den : Int) = true := mulOk_r (by omega)
  have m3 : ∀ x, mulOk ((p.den : Int) - p.num) x = true := fun x => mulOk_l (by omega)
  have m4 : ∀ x, mulOk m.num x = true := fun x => mulOk_l (by omega)
  have m5 : mulOk h.num (p.den : Int) = true := mulOk_r (by omega)
  have lx : (h.num * (p.den : Int)).natAbs < 2 ^ 64 := by
    rw [Int.natAbs_mul]
    have : h.num.natAbs * (p.den : Int).natAbs ≤ h.num.natAbs * 8 := Nat.mul_le_mul_left _ (by omega)
    omega
  have m6 : ∀ x, mulOk (h.num * (p.den : Int)) x = true := fun x => mulOk_l lx
  have m7 : ∀ x, mulOk (h.den : Int) x = true := fun x => mulOk_l (by omega)
  have ly : ((h.den : Int) * ((p.den : Int) - p.num)).natAbs < 2 ^ 64 := by
    rw [Int.natAbs_mul]
    have : (h.den : Int).natAbs * ((p.den : Int) - p.num).natAbs ≤ (h.den : Int).natAbs * 8 := Nat.mul_le_mul_left _ (by omega)
    omega
  have m8 : ∀ x, mulOk ((h.den : Int) * ((p.den : Int) - p.num)) x = true := fun x => mulOk_l ly
  have bp := BA_pos hp dp
  have dd : 0 < (p.den : Int) * BA p m.den := Int.mul_pos (by omega) bp
  have cH := cmp_scale (x := HI p m) (N := ((p.den : Int) - p.num) * HN p m) (h := h) dd (by rw [Rat.intCast_mul, Rat.intCast_natCast]; exact HN_HI hp m)
  have cL := cmp_scale (x := LO p m) (N := ((p.den : Int) - p.num) * (HN p m - ((p.den : Int) - p.num) * p.num ^ (m.den - 1))) (h := h) dd (by rw [Rat.intCast_mul, Rat.intCast_natCast]; exact LN_LO hp m)
  have e1 : h.num * ((p.den : Int) * BA p m.den) = h.num * (p.den : Int) * ((p.den : Int) ^ (m.den - 1) * (p.den : Int) - p.num ^ (m.den - 1) * p.num) := by unfold BA; grind
  have e2 : (h.den : Int) * (((p.den : Int) - p.num) * HN p m) = (h.den : Int) * ((p.den : Int) - p.num) * (((p.den : Int) - p.num) * WS p m m.den + m.num * (p.num ^ (m.den - 1) * p.num)) := by unfold HN; grind
  have e3 : (h.den : Int) * (((p.den : Int) - p.num) * (HN p m - ((p.den : Int) - p.num) * p.num ^ (m.den - 1))) = (h.den : Int) * ((p.den : Int) - p.num) * (((p.den : Int) - p.num) * WS p m m.den + m.num * (p.num ^ (m.den - 1) * p.num) - ((p.den : Int) - p.num) * p.num ^ (m.den - 1)) := by unfold HN; grind
  rw [e1, e2] at cH
  rw [e1, e3] at cL
  have lt := LO_lt hp m
  unfold side
  generalize WS p m m.den = W at *
  generalize p.num ^ (m.den - 1) = X at *
  generalize (p.den : Int) ^ (m.den - 1) = Y at *
  by_cases c1 : HI p m < h
  · have c2 : ¬ (h < LO p m) := by grind
    rw [if_neg c2, if_pos c1]
    rw [cH.1] at c1
    simp [f_side_in, b_side_in, run, pw, ew, m1, m2, m3, m4, m5, m6, m7, m8, c1]
  · rw [if_neg c1]
    rw [cH.1] at c1
    by_cases c2 : h < LO p m
    · rw [if_pos c2]
      rw [cL.2] at c2
      simp [f_side_in, b_side_in, run, pw, ew, m1, m2, m3, m4, m5, m6, m7, m8, c1, c2]
    · rw [if_neg c2]
      rw [cL.2] at c2
      simp [f_side_in, b_side_in, run, pw, ew, m1, m2, m3, m4, m5, m6, m7, m8, c1, c2]
end
end C
end Ev

end
section
set_option maxHeartbeats 4000000
/-! # EvP20: the search for the mean of a height, by mediants -/
namespace Ev.C
open PySem
section
variable {p m h l r : Rat}
/-! ### mediants -/
def med (l r : Rat) : Rat := Rat.divInt (l.num + r.num) ((l.den + r.den : Nat) : Int)
/-- neighbours: the cross difference is 1 -/
def CD (l r : Rat) : Prop := r.num * (l.den : Int) - l.num * (r.den : Int) = 1
theorem med_eq (c : CD l r) : (med l r).num = l.num + r.num ∧ (med l r).den = l.den + r.den := by
  unfold CD at c
  have cp : (l.num + r.num).natAbs.Coprime (l.den + r.den) := by
    have hg : Int.gcd (l.num + r.num) ((l.den + r.den : Nat) : Int) = 1 := by
      have d1 := Int.gcd_dvd_left (a := l.num + r.num) (b := ((l.den + r.den : Nat) : Int))
      have d2 := Int.gcd_dvd_right (a := l.num + r.num) (b := ((l.den + r.den : Nat) : Int))
      generalize (Int.gcd (l.num + r.num) ((l.den + r.den : Nat) : Int)) = g at *
      obtain ⟨x, hx⟩ := d1
      obtain ⟨y, hy⟩ := d2
      have e : ((l.den + r.den : Nat) : Int) = (l.den : Int) + (r.den : Int) := by omega
      rw [e] at hy
      have : (g : Int) * (r.num * y - x * (r.den : Int)) = 1 := by grind
      have := Int.eq_one_of_dvd_one (by omega) ⟨_, this.symm⟩
      omega
    exact hg
  have z : med l r = ⟨l.num + r.num, l.den + r.den, by have := l.den_pos; omega, cp⟩ := by
    unfold med
    exact (Rat.mk_eq_divInt ..).symm
  rw [z]
  exact ⟨rfl, rfl⟩
theorem med_cd (c : CD l r) : CD l (med l r) ∧ CD (med l r) r := by
  obtain ⟨a, b⟩ := med_eq c
  unfold CD at *
  rw [a, b, Int.natCast_add]
  constructor <;> grind
theorem CD.lt (c : CD l r) : l < r := by
  rw [Rat.lt_iff]
  unfold CD at c
  omega
theorem CD.den (c : CD l r) (a : l < m) (b : m < r) : l.den + r.den ≤ m.den := by
  rw [Rat.lt_iff] at a b
  unfold CD at c
  have la : 1 ≤ m.num * (l.den : Int) - l.num * (m.den : Int) := by omega
  have lb : 1 ≤ r.num * (m.den : Int) - m.num * (r.den : Int) := by omega
  have e : (m.den : Int) = (l.den : Int) * (r.num * (m.den : Int) - m.num * (r.den : Int)) + (r.den : Int) * (m.num * (l.den : Int) - l.num * (m.den : Int)) := by
    have : (m.den : Int) = (m.den : Int) * (r.num * (l.den : Int) - l.num * (r.den : Int)) := by rw [c, Int.mul_one]
    grind
  have h1 : (l.den : Int) * 1 ≤ (l.den : Int) * (r.num * (m.den : Int) - m.num * (r.den : Int)) := Int.mul_le_mul_of_nonneg_left lb (by omega)
  have h2 : (r.den : Int) * 1 ≤ (r.den : Int) * (m.num * (l.den : Int) - l.num * (m.den : Int)) := Int.mul_le_mul_of_nonneg_left la (by omega)
  omega
/-! ### states -/
structure SS where
  l : Rat
  r : Rat
  f : Bool
def SS.d (m : Rat) (s : SS) : D := .tuple [fr s.l, fr s.r, if s.f then fr m else .none]
def stp (m : Rat) (s : SS) : SS := if s.f then s else if med s.l s.r = m then ⟨s.l, s.r, true⟩ else if med s.l s.r < m then ⟨med s.l s.r, s.r, false⟩ else ⟨s.l, med s.l s.r, false⟩
structure SI (m : Rat) (U : Int) (s : SS) : Prop where
  cd : CD s.l s.r
  f0 : s.f = false → s.l < m ∧ m < s.r
  lo : ((U - 1 : Int) : Rat) ≤ s.l
  hi : s.r ≤ (U : Rat)
theorem SI.step {U : Int} {s : SS} (i : SI m U s) : SI m U (stp m s) := by
  obtain ⟨l, r, f⟩ := s
  obtain ⟨cd, f0, lo, hi⟩ := i
  have mc := med_cd cd
  have l1 := mc.1.lt
  have l2 := mc.2.lt
  unfold stp
  cases f with
  | true => exact ⟨cd, f0, lo, hi⟩
  | false =>
    have f0 : l < m ∧ m < r := f0 rfl
    dsimp only at cd lo hi ⊢
    by_cases c1 : med l r = m
    · simp only [if_neg Bool.false_ne_true, if_pos c1]
      exact { cd := cd, f0 := fun z => Bool.noConfusion z, lo := lo, hi := hi }
    · by_cases c2 : med l r < m
      · simp only [if_neg Bool.false_ne_true, if_neg c1, if_pos c2]
        exact ⟨mc.2, fun _ => ⟨c2, f0.2⟩, by simp only; grind, hi⟩
      · simp only [if_neg Bool.false_ne_true, if_neg c1, if_neg c2]
        exact ⟨mc.1, fun _ => ⟨f0.1, by grind⟩, lo, by simp only; grind⟩
/-! ### a height in a mean's stretch -/
structure InS (p m h : Rat) : Prop where
  lo : LO p m ≤ h
  hi : h ≤ HI p m
  d : m.den ≤ 90
  sm : Sm h
  b : h ≤ ((2 ^ 40 : Int) : Rat)
  z : 0 ≤ h
theorem side_eq (hp : Cut p) (i : InS p m h) {q : Rat} : side p q h = if q = m then 0 else if q < m then 1 else -1 := by
  have p0 := hp.ok.p0
  have p1 := hp.ok.p1
  have lo := i.lo
  have hi := i.hi
  unfold side
  by_cases c1 : q = m
  · subst c1
    rw [if_pos rfl, if_neg (Rat.not_lt.mpr lo), if_neg (Rat.not_lt.mpr hi)]
  · rw [if_neg c1]
    have lq := LO_lt hp q
    by_cases c2 : q < m
    · have o := order p0 p1 c2
      rw [if_pos c2, if_neg (by grind), if_pos (by grind)]
    · have o := order p0 p1 (show m < q by grind)
      rw [if_neg c2, if_pos (by grind)]
theorem num_small {q : Rat} {U : Int} (a : -(2 ^ 41 : Int) ≤ U) (b : U ≤ 2 ^ 41) (lo : ((U - 1 : Int) : Rat) ≤ q) (hi : q ≤ (U : Rat)) (d : q.den ≤ 90) : q.num.natAbs < 2 ^ 50 := by
  rw [int_le] at lo
  rw [le_int] at hi
  have h1 : U * (q.den : Int) ≤ 2 ^ 41 * (q.den : Int) := Int.mul_le_mul_of_nonneg_right b (by omega)
  have h2 : -(2 ^ 41 : Int) * (q.den : Int) ≤ U * (q.den : Int) := Int.mul_le_mul_of_nonneg_right a (by omega)
  rw [Int.sub_mul] at lo
  omega
theorem ev_step (hp : Cut p) (i : InS p m h) {U : Int} {s : SS} (a : -(2 ^ 41 : Int) ≤ U) (b : U ≤ 2 ^ 41) (k : SI m U s) : f_step_in.m [fr p, fr h, s.d m] = ret ((stp m s).d m) := by
  obtain ⟨l, r, f⟩ := s
  obtain ⟨cd, f0, lo, hi⟩ := k
  cases f with
  | true => simp [SS.d, stp, f_step_in, b_step_in, run, fr]
  | false =>
    have f0 : l < m ∧ m < r := f0 rfl
    dsimp only at cd lo hi ⊢
    obtain ⟨en, ed⟩ := med_eq cd
    have mc := med_cd cd
    have l1 := mc.1.lt
    have l2 := mc.2.lt
    have dn := cd.den f0.1 f0.2
    have i9 := i.d
    have ns : (med l r).num.natAbs < 2 ^ 50 := num_small a b (by grind) (by grind) (by omega)
    have es : f_side_in.m [fr p, fr (med l r), fr h] = ret (.int (side p (med l r) h)) := ev_sidein hp (by omega) ns i.sm
    have ef : (.tuple [.int (l.num + r.num), .int ((l.den : Int) + (r.den : Int))] : D) = fr (med l r) := lit_fr en (by omega)
    have g3 : ¬ ((300 : Int) < (l.den : Int) + (r.den : Int)) := by omega
    rw [side_eq hp i] at es
    unfold stp SS.d
    by_cases c1 : med l r = m
    · rw [if_pos c1, c1] at es
      simp [f_step_in, b_step_in, run, c1, ef, es, g3]
    · rw [if_neg c1] at es
      by_cases c2 : med l r < m
      · rw [if_pos c2] at es
        simp [f_step_in, b_step_in, run, c1, c2, ef, es, g3]
      · rw [if_neg c2] at es
        simp [f_step_in, b_step_in, run, c1, c2, ef, es, g3]
/-! ### where it begins -/
theorem HI_int (hp : Cut p) (U : Int) : HI p (U : Rat) = (U : Rat) := by
  have e1 : 0 < 1 - p := by have := hp.ok.p1; grind
  have he := mul_inv' e1
  have f0 : flo (U : Rat) 0 = U := by
    unfold flo
    rw [Rat.num_intCast, Rat.den_intCast]
    simp
  unfold HI FS
  rw [Rat.den_intCast, Rat.num_intCast]
  have fs : fsum p (U : Rat) 0 1 = (U : Rat) := by
    unfold fsum fsum
    rw [f0, Rat.pow_zero]
    grind
  rw [fs, Rat.pow_one]
  simp only [Rat.div_def]
  have k : (1 - p) * (1 - p) * ((U : Rat) * (1 - p)⁻¹ + (U : Rat) * p * (1 - p)⁻¹ * (1 - p)⁻¹) = (1 - p) * (U : Rat) * ((1 - p) * (1 - p)⁻¹) + (U : Rat) * p * ((1 - p) * (1 - p)⁻¹) * ((1 - p) * (1 - p)⁻¹) := by grind
  rw [k, he]
  grind
theorem InS.up (hp : Cut p) (i : InS p m h) : m ≤ (h.ceil : Rat) := by
  have lo := i.lo
  have c := Rat.le_ceil (x := h)
  refine Rat.not_lt.mp fun z => ?_
  have o := order hp.ok.p0 hp.ok.p1 z
  rw [HI_int hp] at o
  grind
theorem InS.low (hp : Cut p) (i : InS p m h) : ((h.ceil - 1 : Int) : Rat) < m := by
  have hi := i.hi
  have a := HI_le hp m
  have c := Rat.ceil_lt (x := h)
  rw [Rat.intCast_sub]
  grind
def sbeg (m h : Rat) : SS := ⟨((h.ceil - 1 : Int) : Rat), (h.ceil : Rat), decide (m = (h.ceil : Rat))⟩
theorem InS.ub (i : InS p m h) : h.ceil ≤ 2 ^ 41 ∧ -(2 ^ 41 : Int) ≤ h.ceil := by
  have b := i.b
  have z := i.z
  have c := Rat.ceil_lt (x := h)
  have c2 := Rat.le_ceil (x := h)
  have h1 : ((h.ceil : Int) : Rat) < ((2 ^ 40 + 1 : Int) : Rat) := by rw [Rat.intCast_add, Rat.intCast_one]; grind
  have h2 : ((0 : Int) : Rat) ≤ ((h.ceil : Int) : Rat) := by rw [Rat.intCast_zero]; grind
  rw [Rat.intCast_lt_intCast] at h1
  rw [Rat.intCast_le_intCast] at h2
  omega
theorem SI.beg (hp : Cut p) (i : InS p m h) : SI m h.ceil (sbeg m h) := by
  have u := i.up hp
  have l := i.low hp
  refine ⟨?_, ?_, Rat.le_refl, Rat.le_refl⟩
  · unfold CD sbeg
    dsimp only
    rw [Rat.num_intCast, Rat.num_intCast, Rat.den_intCast, Rat.den_intCast]
    omega
  · intro z
    have z : ¬ (m = (h.ceil : Rat)) := by
      unfold sbeg at z
      exact of_decide_eq_false z
    exact ⟨l, by unfold sbeg; dsimp only; grind⟩
theorem ev_begin {n : Nat} (hp : Cut p) (i : InS p m h) [q : QB n h] (hn : n ≤ 900) : f_begin_in.m [fr p, fr h] = ret ((sbeg m h).d m) := by
  obtain ⟨b1, b2⟩ := i.ub
  have es : f_side_in.m [fr p, fr (h.ceil : Rat), fr h] = ret (.int (side p (h.ceil : Rat) h)) := ev_sidein hp (by rw [Rat.den_intCast]; decide) (by rw [Rat.num_intCast]; omega) i.sm
  rw [side_eq hp i] at es
  have u := i.up hp
  unfold sbeg SS.d
  by_cases c : m = (h.ceil : Rat)
  · rw [if_pos c.symm] at es
    have c' : decide (m = (h.ceil : Rat)) = true := decide_eq_true c
    simp only [c']
    simp [f_begin_in, b_begin_in, run, int_fr, es, hn]
    rw [c]
  · have c1 : ¬ ((h.ceil : Rat) = m) := fun z => c z.symm
    have c2 : ¬ ((h.ceil : Rat) < m) := by grind
    have c' : decide (m = (h.ceil : Rat)) = false := decide_eq_false c
    rw [if_neg c1, if_neg c2] at es
    simp only [c']
    simp [f_begin_in, b_begin_in, run, int_fr, es, hn]
theorem mean_loop (hp : Cut p) (i : InS p m h) : ∀ (F : Nat) (s : SS), SI m h.ceil s → (s.f = false → m.den + 1 < s.l.den + s.r.den + F) → 0 < F → ∃ s' : SS, s'.f = true ∧ whlL (evT ⟨[f_begin_in, f_step_in], c_mean_in⟩ (.cmp .is (.ix (.v 2) (.k (.int 2))) (.k .none))) (fun env => evSs ⟨[f_begin_in, f_step_in], c_mean_in⟩ 1000000 b_mean_in_1 env) F [some (fr p), some (fr h), some (s.d m)] = ret (.nx [some (fr p), some (fr h), some (s'.d m)])
  | 0, s, k, le, hF => by omega
  | F + 1, s, k, le, hF => by
    obtain ⟨b1, b2⟩ := i.ub
    unfold whlL
    cases hf : s.f with
    | true =>
      have t : evT ⟨[f_begin_in, f_step_in], c_mean_in⟩ (.cmp .is (.ix (.v 2) (.k (.int 2))) (.k .none)) [some (fr p), some (fr h), some (s.d m)] = ret false := by
        unfold SS.d
        rw [hf]
        simp [fr]
      refine ⟨s, hf, ?_⟩
      rw [t, bnd_ret]
      rfl
    | false =>
      have t : evT ⟨[f_begin_in, f_step_in], c_mean_in⟩ (.cmp .is (.ix (.v 2) (.k (.int 2))) (.k .none)) [some (fr p), some (fr h), some (s.d m)] = ret true := by
        unfold SS.d
        rw [hf]
        simp
      have es := ev_step hp i b2 b1 k
      have bd : evSs ⟨[f_begin_in, f_step_in], c_mean_in⟩ 1000000 b_mean_in_1 [some (fr p), some (fr h), some (s.d m)] = ret (.nx [some (fr p), some (fr h), some ((stp m s).d m)]) := by
        simp [b_mean_in_1, es]
      rw [t, bnd_ret, if_pos rfl, bd, bnd_ret]
      have k' := k.step
      have le := le hf
      have kf := k.f0 hf
      have dn := k.cd.den kf.1 kf.2
      obtain ⟨en, ed⟩ := med_eq k.cd
      have lp := s.l.den_pos
      have rp := s.r.den_pos
      obtain ⟨s', f', w⟩ := mean_loop hp i F (stp m s) k' (by
        intro z
        unfold stp at z ⊢
        rw [hf, if_neg Bool.false_ne_true] at z ⊢
        by_cases c1 : med s.l s.r = m
        · rw [if_pos c1] at z
          exact Bool.noConfusion z
        · rw [if_neg c1]
          by_cases c2 : med s.l s.r < m
          · rw [if_pos c2]
            dsimp only
            omega
          · rw [if_neg c2]
            dsimp only
            omega) (by omega)
      exact ⟨s', f', w⟩
theorem ev_meanin {n : Nat} (hp : Cut p) (i : InS p m h) [q : QB n h] (hn : n ≤ 900) : f_mean_in.m [fr p, fr h] = ret (fr m) := by
  have hd := i.d
  obtain ⟨s', f', lp⟩ := mean_loop hp i 1000000 (sbeg m h) (SI.beg hp i) (fun _ => by omega) (by decide)
  have eb := ev_begin hp i (by omega : n ≤ 900)
  have e3 : s'.d m = .tuple [fr s'.l, fr s'.r, fr m] := by unfold SS.d; rw [f']; rfl
  rw [e3] at lp
  try simp at lp
  simp [f_mean_in, b_mean_in, run, eb]
  rw [lp]
  simp
theorem ev_meanof {n : Nat} (hp : Cut p) (i : InS p m h) [ho : HeightOk p h] : f_mean_of.m [fr p, fr h] = ret (fr m) := by
  have := hp.ok
  have := ho.fm
  have mi := ev_meanin hp i (n := 31) (by decide)
  simp [f_mean_of, b_mean_of, f_check_both, b_check_both, run, mi]
end
end Ev.C

end
section
set_option maxHeartbeats 4000000
/-! # EvP21: every drawn height has a mean of few parts: found by natural numbers -/
namespace Ev.C
open PySem
/-- sum of the last i floors, times powers -/
def wN (a b P Q : Nat) : Nat → Nat
  | 0 => 0
  | i + 1 => (Q - i) * P / Q * b ^ i + a * wN a b P Q i
def hiN (a b P Q : Nat) : Nat := (b - a) * ((b - a) * wN a b P Q Q + P * a ^ Q)
def lnN (a b Q : Nat) : Nat := (b - a) * (b - a) * a ^ (Q - 1)
def hrN (a b Q c : Nat) : Nat := c * (b * (b ^ Q - a ^ Q))
def goN (bd a b c d : Nat) : Nat → Nat → Nat → Nat → Nat → Bool
  | 0, _, _, _, _ => false
  | f + 1, lp, lq, rp, rq =>
    cond (Nat.ble (hrN a b (lq + rq) c) (d * hiN a b (lp + rp) (lq + rq)))
      (cond (Nat.ble (d * hiN a b (lp + rp) (lq + rq)) (hrN a b (lq + rq) c + d * lnN a b (lq + rq)))
        (Nat.beq (Nat.gcd (lp + rp) (lq + rq)) 1 && Nat.ble (lq + rq) bd && Nat.ble 1 (lq + rq))
        (goN bd a b c d f lp lq (lp + rp) (lq + rq)))
      (goN bd a b c d f (lp + rp) (lq + rq) rp rq)
/-- all drawn heights up to whole numbers -/
def all1 : Bool := (List.range 9).all fun b => (List.range b).all fun a => (Nat.beq a 0) || !(Nat.beq (Nat.gcd a b) 1) || (List.range 13).all fun d => (List.range d).all fun c =>
  cond (Nat.ble (a * d) (c * b)) (goN 36 a b c d 100 0 1 1 0) (goN 36 a b (c + d) d 100 0 1 1 0 && goN 36 a b (c * b + a * d) (d * b) 100 0 1 1 0)
theorem all1_true : all1 = true := by decide +kernel
section
variable {p m h : Rat}
theorem nc0 : ((0 : Nat) : Rat) = 0 := rfl
theorem nc1 : ((1 : Nat) : Rat) = 1 := rfl
theorem wN_cast {a b P Q : Nat} (ha : p.num = a) (hb : p.den = b) (hP : m.num = P) (hQ : m.den = Q) : ∀ i, i ≤ Q → ((wN a b P Q i : Nat) : Int) = WS p m i
  | 0, _ => rfl
  | i + 1, h => by
    have ih := wN_cast ha hb hP hQ i (by omega)
    unfold wN WS flo
    rw [Int.natCast_add, Int.natCast_mul, Int.natCast_mul, Int.natCast_ediv, Int.natCast_mul, Int.natCast_pow, ih, ha, hb, hP, hQ, show (((Q - i - 1 : Nat) : Int) + 1) = ((Q - i : Nat) : Int) by omega]
theorem hiN_cast {a b P Q : Nat} (hab : a < b) (ha : p.num = a) (hb : p.den = b) (hP : m.num = P) (hQ : m.den = Q) (q0 : 0 < Q) : ((hiN a b P Q : Nat) : Int) = ((p.den : Int) - p.num) * HN p m := by
  unfold hiN HN
  rw [Int.natCast_mul, Int.natCast_add, Int.natCast_mul, Int.natCast_mul, Int.natCast_pow, Int.natCast_sub (Nat.le_of_lt hab), wN_cast ha hb hP hQ Q (Nat.le_refl _), ← Int.pow_succ, ha, hb, hP, hQ, show (Q - 1).succ = Q by omega]
theorem lnN_cast {a b Q : Nat} (hab : a < b) (ha : p.num = a) (hb : p.den = b) : ((lnN a b Q : Nat) : Int) = ((p.den : Int) - p.num) * (((p.den : Int) - p.num) * p.num ^ (Q - 1)) := by
  unfold lnN
  rw [Int.natCast_mul, Int.natCast_mul, Int.natCast_pow, Int.natCast_sub (Nat.le_of_lt hab), ha, hb, Int.mul_assoc]
theorem hrN_cast {a b Q c : Nat} (hab : a < b) (ha : p.num = a) (hb : p.den = b) (q0 : 0 < Q) : ((hrN a b Q c : Nat) : Int) = (c : Int) * ((p.den : Int) * BA p Q) := by
  unfold hrN
  rw [BA_eq p q0, Int.natCast_mul, Int.natCast_mul, Int.natCast_sub (Nat.pow_le_pow_left (Nat.le_of_lt hab) _), Int.natCast_pow, Int.natCast_pow, ha, hb]
theorem cmp2 {x h : Rat} {D N d c : Int} (hD : 0 < D) (e : x * (D : Rat) = (N : Rat)) (hd : 0 < d) (e2 : h * (d : Rat) = (c : Rat)) : (h ≤ x ↔ c * D ≤ d * N) ∧ (x ≤ h ↔ d * N ≤ c * D) := by
  have d0 : (0 : Rat) < (D : Rat) := Rat.intCast_pos.mpr hD
  have hd0 : (0 : Rat) < (d : Rat) := Rat.intCast_pos.mpr hd
  have c1 : ((d * N : Int) : Rat) = x * ((D : Rat) * (d : Rat)) := by
    rw [Rat.intCast_mul, ← e]; grind
  have c2 : ((c * D : Int) : Rat) = h * ((D : Rat) * (d : Rat)) := by
    rw [Rat.intCast_mul, ← e2]; grind
  have dd := Rat.mul_pos d0 hd0
  constructor
  · rw [← Rat.intCast_le_intCast, c1, c2]
    exact ⟨fun z => Rat.mul_le_mul_of_nonneg_right z (Rat.le_of_lt dd), fun z => Rat.le_of_mul_le_mul_right z dd⟩
  · rw [← Rat.intCast_le_intCast, c1, c2]
    exact ⟨fun z => Rat.mul_le_mul_of_nonneg_right z (Rat.le_of_lt dd), fun z => Rat.le_of_mul_le_mul_right z dd⟩
theorem goN_ok (hp : Cut p) {bd a b c d : Nat} (hab : a < b) (ha : p.num = a) (hb : p.den = b) (hd : 0 < d) (e : h * (d : Rat) = (c : Rat)) : ∀ (f lp lq rp rq : Nat), goN bd a b c d f lp lq rp rq = true → ∃ m : Rat, m.den ≤ bd ∧ LO p m ≤ h ∧ h ≤ HI p m
  | 0, _, _, _, _, z => by cases z
  | f + 1, lp, lq, rp, rq, z => by
    unfold goN at z
    cases z1 : Nat.ble (hrN a b (lq + rq) c) (d * hiN a b (lp + rp) (lq + rq)) with
    | false =>
      rw [z1, cond_false] at z
      exact goN_ok hp hab ha hb hd e f _ _ _ _ z
    | true =>
      rw [z1, cond_true] at z
      cases z2 : Nat.ble (d * hiN a b (lp + rp) (lq + rq)) (hrN a b (lq + rq) c + d * lnN a b (lq + rq)) with
      | false =>
        rw [z2, cond_false] at z
        exact goN_ok hp hab ha hb hd e f _ _ _ _ z
      | true =>
        rw [z2, cond_true] at z
        simp only [Bool.and_eq_true, Nat.beq_eq, Nat.ble_eq] at z z1 z2
        obtain ⟨⟨g, q9⟩, q1⟩ := z
        generalize lp + rp = P at *
        generalize lq + rq = Q at *
        let m : Rat := ⟨(P : Int), Q, by omega, g⟩
        have hP : m.num = (P : Int) := rfl
        have hQ : m.den = Q := rfl
        have hi := HN_HI hp m
        have lo := LN_LO hp m
        have bp := BA_pos hp (Q := m.den) (by omega)
        have dd : 0 < (p.den : Int) * BA p m.den := Int.mul_pos (by have := p.den_pos; omega) bp
        have e' : h * (((d : Nat) : Int) : Rat) = (((c : Nat) : Int) : Rat) := by rw [Rat.intCast_natCast, Rat.intCast_natCast]; exact e
        rw [← Rat.intCast_natCast, ← Rat.intCast_mul] at hi lo
        have cH := cmp2 dd hi (by omega : (0 : Int) < (d : Int)) e'
        have cL := cmp2 dd lo (by omega : (0 : Int) < (d : Int)) e'
        have k1 : ((hrN a b Q c : Nat) : Int) ≤ ((d * hiN a b P Q : Nat) : Int) := Int.ofNat_le.mpr z1
        have k2 : ((d * hiN a b P Q : Nat) : Int) ≤ ((hrN a b Q c + d * lnN a b Q : Nat) : Int) := Int.ofNat_le.mpr z2
        rw [Int.natCast_add, Int.natCast_mul, Int.natCast_mul, hrN_cast hab ha hb q1, hiN_cast hab ha hb hP hQ q1, lnN_cast hab ha hb] at k2
        rw [Int.natCast_mul, hrN_cast hab ha hb q1, hiN_cast hab ha hb hP hQ q1] at k1
        refine ⟨m, by omega, cL.2.mpr ?_, cH.1.mpr ?_⟩
        · rw [Int.mul_sub, Int.mul_sub, hQ]
          omega
        · rw [hQ]
          exact k1
theorem all1_ok {a b c d : Nat} (hb : b ≤ 8) (hab : a < b) (a0 : 0 < a) (g : Nat.gcd a b = 1) (hd : d ≤ 12) (hc : c < d) : (a * d ≤ c * b → goN 36 a b c d 100 0 1 1 0 = true) ∧ (¬ a * d ≤ c * b → goN 36 a b (c + d) d 100 0 1 1 0 = true ∧ goN 36 a b (c * b + a * d) (d * b) 100 0 1 1 0 = true) := by
  have z := all1_true
  unfold all1 at z
  have z1 := List.all_eq_true.mp z b (List.mem_range.mpr (by omega))
  have z2 := List.all_eq_true.mp z1 a (List.mem_range.mpr hab)
  rw [show Nat.beq a 0 = false from Bool.eq_false_iff.mpr fun q => by have := Nat.eq_of_beq_eq_true q; omega, show Nat.beq (Nat.gcd a b) 1 = true from by rw [g]; rfl, Bool.not_true, Bool.or_false, Bool.false_or] at z2
  have z3 := List.all_eq_true.mp z2 d (List.mem_range.mpr (by omega))
  have z4 := List.all_eq_true.mp z3 c (List.mem_range.mpr hc)
  constructor
  · intro k
    rw [show Nat.ble (a * d) (c * b) = true from Nat.ble_eq.mpr k, cond_true] at z4
    exact z4
  · intro k
    rw [show Nat.ble (a * d) (c * b) = false from Bool.eq_false_iff.mpr fun q => k (Nat.ble_eq.mp q), cond_false, Bool.and_eq_true] at z4
    exact z4
/-- means with whole numbers more -/
theorem up_many (hp : Cut p) : ∀ k : Nat, HI p (m + (k : Rat)) = HI p m + (k : Rat) ∧ LO p (m + (k : Rat)) = LO p m + (k : Rat) ∧ (m + (k : Rat)).den = m.den
  | 0 => by
    have : m + ((0 : Nat) : Rat) = m := by rw [nc0]; grind
    rw [this, nc0]
    exact ⟨by grind, by grind, rfl⟩
  | k + 1 => by
    obtain ⟨a, b, c⟩ := up_many hp k
    have : m + ((k + 1 : Nat) : Rat) = m + (k : Rat) + 1 := by rw [Rat.natCast_add, nc1]; grind
    rw [this, HI_up hp, LO_up hp, a, b, (mean_up _).2, c, Rat.natCast_add, nc1]
    exact ⟨by grind, by grind, rfl⟩
/-- there is a mean -/
theorem mean_ex (hp : Cut p) {h : Rat} (hh : Lot p h) : ∃ m, m.den ≤ 36 ∧ InS p m h := by
  obtain ⟨x, xd, x0, sh⟩ := hh.sh
  have ok := hh.ok
  have hi := hh.hi
  have pk := hp.ok
  obtain ⟨n0, n1⟩ := num_lt hp
  have cp : Nat.gcd p.num.natAbs p.den = 1 := p.reduced
  have b8 := hp.d
  have ha : p.num = ((p.num.natAbs : Nat) : Int) := by omega
  have sm : Sm h := ⟨by have := hh.fb.a; unfold Bd at this; omega, by have := hh.d; omega⟩
  have hz : 0 ≤ h := by have := ok.le; have := pk.p0; grind
  have hb40 : h ≤ ((2 ^ 40 : Int) : Rat) := Rat.le_trans hi (by decide)
  have fin : (∃ m : Rat, m.den ≤ 36 ∧ LO p m ≤ h ∧ h ≤ HI p m) → ∃ m, m.den ≤ 36 ∧ InS p m h := fun ⟨m, d, lo, hi⟩ => ⟨m, d, lo, hi, by omega, sm, hb40, hz⟩
  have xn : 0 ≤ x.num := Rat.num_nonneg.mpr x0
  have xdp := x.den_pos
  have xr := rat_den x
  have pr := rat_den p
  let c0 := x.num.natAbs % x.den
  let k0 := x.num.natAbs / x.den
  have hc0 : c0 < x.den := Nat.mod_lt _ xdp
  have split : x.num.natAbs = x.den * k0 + c0 := (Nat.div_add_mod _ _).symm
  have xe : x * (x.den : Rat) = (x.den : Rat) * (k0 : Rat) + (c0 : Rat) := by
    rw [xr, ← Rat.natCast_mul, ← Rat.natCast_add, ← split, ← Rat.intCast_natCast, show ((x.num.natAbs : Nat) : Int) = x.num by omega]
  have dq : (0 : Rat) < (x.den : Rat) := Rat.natCast_pos.mpr xdp
  have bq : (0 : Rat) < (p.den : Rat) := Rat.natCast_pos.mpr p.den_pos
  have aq : ((p.num.natAbs : Nat) : Rat) = (p.num : Rat) := by rw [← Rat.intCast_natCast, ← ha]
  have A := all1_ok (a := p.num.natAbs) (b := p.den) (c := c0) (d := x.den) (by omega) (by omega) (by omega) cp xd hc0
  generalize hc : c0 = c at *
  generalize hk : k0 = k at *
  apply fin
  rcases sh with hx | ⟨xp, hx⟩
  · by_cases g : p.num.natAbs * x.den ≤ c * p.den
    · obtain ⟨m, md, lo, hi'⟩ := goN_ok (p := p) (h := x - (k : Rat)) hp (by omega) ha rfl xdp (by grind) 100 0 1 1 0 (A.1 g)
      obtain ⟨u1, u2, u3⟩ := up_many (m := m) hp k
      exact ⟨m + (k : Rat), by omega, by rw [u2]; grind, by rw [u1]; grind⟩
    · obtain ⟨A1, _⟩ := A.2 g
      have kp : 1 ≤ k := by
        rcases Nat.eq_zero_or_pos k with z | z
        · exfalso
          apply g
          rw [z, nc0] at xe
          have le := ok.le
          rw [hx] at le
          have : p * ((p.den : Rat) * (x.den : Rat)) ≤ x * ((p.den : Rat) * (x.den : Rat)) := Rat.mul_le_mul_of_nonneg_right le (Rat.le_of_lt (Rat.mul_pos bq dq))
          have e1 : p * ((p.den : Rat) * (x.den : Rat)) = ((p.num.natAbs * x.den : Nat) : Rat) := by rw [Rat.natCast_mul, aq, ← pr]; grind
          have e2 : x * ((p.den : Rat) * (x.den : Rat)) = ((c * p.den : Nat) : Rat) := by rw [Rat.natCast_mul]; grind
          rw [e1, e2] at this
          exact Rat.natCast_le_natCast.mp this
        · exact z
      obtain ⟨k', rfl⟩ : ∃ k', k = k' + 1 := ⟨k - 1, by omega⟩
      rw [Rat.natCast_add, nc1] at xe
      obtain ⟨m, md, lo, hi'⟩ := goN_ok (p := p) (h := x - (k' : Rat)) hp (by omega) ha rfl xdp (by grind) 100 0 1 1 0 A1
      obtain ⟨u1, u2, u3⟩ := up_many (m := m) hp k'
      exact ⟨m + (k' : Rat), by omega, by rw [u2]; grind, by rw [u1]; grind⟩
  · have x1 : x < 1 := by have := pk.p1; grind
    have kz : k = 0 := by
      rcases Nat.eq_zero_or_pos k with z | z
      · exact z
      · exfalso
        have : x * (x.den : Rat) < 1 * (x.den : Rat) := Rat.mul_lt_mul_of_pos_right x1 dq
        have k1 : ((1 : Nat) : Rat) ≤ (k : Rat) := Rat.natCast_le_natCast.mpr z
        rw [nc1] at k1
        have k2 : (x.den : Rat) * 1 ≤ (x.den : Rat) * (k : Rat) := Rat.mul_le_mul_of_nonneg_left k1 (Rat.le_of_lt dq)
        have c0 : (0 : Rat) ≤ (c : Rat) := Rat.natCast_nonneg
        grind
    subst kz
    rw [nc0] at xe
    have g : ¬ (p.num.natAbs * x.den ≤ c * p.den) := by
      intro g
      have g' : ((p.num.natAbs * x.den : Nat) : Rat) ≤ ((c * p.den : Nat) : Rat) := Rat.natCast_le_natCast.mpr g
      have : x * ((p.den : Rat) * (x.den : Rat)) < p * ((p.den : Rat) * (x.den : Rat)) := Rat.mul_lt_mul_of_pos_right xp (Rat.mul_pos bq dq)
      have e1 : p * ((p.den : Rat) * (x.den : Rat)) = ((p.num.natAbs * x.den : Nat) : Rat) := by rw [Rat.natCast_mul, aq, ← pr]; grind
      have e2 : x * ((p.den : Rat) * (x.den : Rat)) = ((c * p.den : Nat) : Rat) := by rw [Rat.natCast_mul]; grind
      rw [e1, e2] at this
      grind
    obtain ⟨_, A2⟩ := A.2 g
    exact goN_ok (p := p) hp (by omega) ha rfl (Nat.mul_pos xdp p.den_pos) (by rw [hx, Rat.natCast_mul, Rat.natCast_add, Rat.natCast_mul, Rat.natCast_mul, aq, ← pr]; grind) 100 0 1 1 0 A2
end
end Ev.C

end
section
set_option maxHeartbeats 4000000
/-! # EvP22: heights at, in and just beside a stretch -/
namespace Ev.C
open PySem
section
variable {p m h : Rat}
theorem LO_one (hp : Cut p) : LO p 1 = p := by
  have e1 : 0 < 1 - p := by have := hp.ok.p1; grind
  have he := mul_inv' e1
  have h1 := HI_int hp 1
  rw [Rat.intCast_one] at h1
  unfold LO
  rw [h1]
  unfold LEN
  rw [show (1 : Rat).den - 1 = 0 from rfl, Rat.pow_zero, Rat.div_def]
  have k : (1 - p) * (1 - p) * 1 * (1 - 1 * p)⁻¹ = (1 - p) * ((1 - p) * (1 - p)⁻¹) := by
    rw [Rat.one_mul]; grind
  rw [k, he]
  grind
theorem InS.uniq (hp : Cut p) {m' : Rat} (i : InS p m h) (j : InS p m' h) : m = m' := by
  have a := side_eq hp i (q := m')
  have b := side_eq hp j (q := m')
  rw [if_pos rfl] at b
  rw [b] at a
  by_cases c : m' = m
  · exact c.symm
  · rw [if_neg c] at a
    split at a <;> cases a
theorem InS.ge (hp : Cut p) (i : InS p m h) (ph : p ≤ h) : 1 ≤ m := by
  refine Rat.not_lt.mp fun z => ?_
  have o := order hp.ok.p0 hp.ok.p1 z
  rw [LO_one hp] at o
  have := i.hi
  grind
theorem men_mk (m1 : 1 ≤ m) (m12 : m ≤ 12) (d : m.den ≤ 36) : Men m := by
  have a := (int_le m 1).mp (by rw [Rat.intCast_one]; exact m1)
  have b := (le_int m 12).mp m12
  have fb : FB 3 m := ⟨by unfold Bd; omega, by unfold Bd; omega⟩
  exact ⟨⟨FM.of fb, by omega, by omega⟩, d, m12, fb⟩
theorem InS.le (hp : Cut p) (i : InS p m h) : m < h + 1 := by
  have a := i.up hp
  have c := Rat.ceil_lt (x := h)
  grind
theorem InS.men (hp : Cut p) (i : InS p m h) (ph : p ≤ h) (h11 : h ≤ 11) (d : m.den ≤ 36) : Men m := by
  have := i.le hp
  exact men_mk (i.ge hp ph) (by grind) d
/-- a height with a small denominator -/
theorem ht_mk (hp : Cut p) {d : Nat} (hd : Dn d h) (d0 : 0 < d) (d2 : 12 * d < 10 ^ 17) (ph : p ≤ h) (h12 : h ≤ 12) : FB 17 h ∧ HeightOk p h ∧ Sm h := by
  have p0 := hp.ok.p0
  have fb : FB 17 h := end_fb hd d0 d2 (by grind) h12
  have a := (le_int h 12).mp h12
  have hz : ((0 : Int) : Rat) ≤ h := by rw [Rat.intCast_zero]; grind
  have b := (int_le h 0).mp hz
  have dl := hd.le d0
  exact ⟨fb, ⟨FM.of fb, ph⟩, ⟨by omega, by omega⟩⟩
theorem ins_mk (hp : Cut p) (lo : LO p m ≤ h) (hi : h ≤ HI p m) (md : m.den ≤ 90) (ph : p ≤ h) (h12 : h ≤ 12) (sm : Sm h) : InS p m h :=
  ⟨lo, hi, md, sm, Rat.le_trans h12 (by decide), by have := hp.ok.p0; grind⟩
theorem up_num : ∀ k : Nat, (m + (k : Rat)).num = m.num + (k : Int) * (m.den : Int) ∧ (m + (k : Rat)).den = m.den
  | 0 => by
    have : m + ((0 : Nat) : Rat) = m := by rw [nc0]; grind
    rw [this]
    simp
  | k + 1 => by
    obtain ⟨a, b⟩ := up_num k
    have : m + ((k + 1 : Nat) : Rat) = m + (k : Rat) + 1 := by rw [Rat.natCast_add, nc1]; grind
    rw [this, (mean_up _).1, (mean_up _).2, a, b]
    refine ⟨?_, rfl⟩
    push_cast
    grind
/-- the mean less whole numbers: from 1 to 2 -/
theorem down_ex (m1 : 1 ≤ m) : ∃ (k r : Nat) (m0 : Rat), r < m.den ∧ m0.num = ((m.den + r : Nat) : Int) ∧ m0.den = m.den ∧ m = m0 + (k : Rat) ∧ Nat.gcd (m.den + r) m.den = 1 := by
  have a := (int_le m 1).mp (by rw [Rat.intCast_one]; exact m1)
  have dp := m.den_pos
  have g : Nat.gcd (m.den + m.num.natAbs % m.den) m.den = 1 := by
    rw [Nat.gcd_comm, Nat.add_comm, Nat.gcd_add_self_right]
    have := m.reduced
    unfold Nat.Coprime at this
    rw [Nat.gcd_comm, ← this, Nat.gcd_comm m.num.natAbs, Nat.gcd_rec m.den]
  have sp := Nat.div_add_mod m.num.natAbs m.den
  have q1 : 1 ≤ m.num.natAbs / m.den := (Nat.le_div_iff_mul_le dp).mpr (by omega)
  refine ⟨m.num.natAbs / m.den - 1, m.num.natAbs % m.den, ⟨((m.den + m.num.natAbs % m.den : Nat) : Int), m.den, m.den_nz, g⟩, Nat.mod_lt _ dp, rfl, rfl, ?_, g⟩
  obtain ⟨u1, u2⟩ := up_num (m := ⟨((m.den + m.num.natAbs % m.den : Nat) : Int), m.den, m.den_nz, g⟩) (m.num.natAbs / m.den - 1)
  refine Rat.ext ?_ u2.symm
  rw [u1]
  dsimp only
  generalize m.num.natAbs % m.den = r at *
  obtain ⟨q, hq⟩ : ∃ q, m.num.natAbs / m.den = q + 1 := ⟨m.num.natAbs / m.den - 1, by omega⟩
  rw [hq] at sp ⊢
  rw [Nat.add_sub_cancel, Int.natCast_add]
  rw [Nat.mul_add, Nat.mul_one] at sp
  have e : (q : Int) * (m.den : Int) = ((m.den * q : Nat) : Int) := by push_cast; exact Int.mul_comm _ _
  rw [e]
  omega
def dN (a b Q : Nat) : Nat := 1000 * (b * (b ^ Q - a ^ Q))
def all2 : Bool := (List.range 9).all fun b => (List.range b).all fun a => (Nat.beq a 0) || !(Nat.beq (Nat.gcd a b) 1) || (List.range 13).all fun Q => (List.range Q).all fun r => !(Nat.beq (Nat.gcd (Q + r) Q) 1) ||
  (goN 90 a b (1000 * hiN a b (Q + r) Q + lnN a b Q) (dN a b Q) 200 0 1 1 0 && (Nat.ble (1001 * lnN a b Q) (1000 * hiN a b (Q + r) Q) &&
    goN 90 a b (1000 * hiN a b (Q + r) Q - 1001 * lnN a b Q + cond (Nat.beq r 0) (dN a b Q) 0) (dN a b Q) 200 0 1 1 0))
theorem all2_true : all2 = true := by decide +kernel
theorem all2_ok {a b Q r : Nat} (hb : b ≤ 8) (hab : a < b) (a0 : 0 < a) (g : Nat.gcd a b = 1) (hQ : Q ≤ 12) (hr : r < Q) (g2 : Nat.gcd (Q + r) Q = 1) :
    goN 90 a b (1000 * hiN a b (Q + r) Q + lnN a b Q) (dN a b Q) 200 0 1 1 0 = true ∧ 1001 * lnN a b Q ≤ 1000 * hiN a b (Q + r) Q ∧ goN 90 a b (1000 * hiN a b (Q + r) Q - 1001 * lnN a b Q + cond (Nat.beq r 0) (dN a b Q) 0) (dN a b Q) 200 0 1 1 0 = true := by
  have z := all2_true
  unfold all2 at z
  have z1 := List.all_eq_true.mp z b (List.mem_range.mpr (by omega))
  have z2 := List.all_eq_true.mp z1 a (List.mem_range.mpr hab)
  rw [show Nat.beq a 0 = false from Bool.eq_false_iff.mpr fun q => by have := Nat.eq_of_beq_eq_true q; omega, show Nat.beq (Nat.gcd a b) 1 = true from by rw [g]; rfl, Bool.not_true, Bool.or_false, Bool.false_or] at z2
  have z3 := List.all_eq_true.mp z2 Q (List.mem_range.mpr (by omega))
  have z4 := List.all_eq_true.mp z3 r (List.mem_range.mpr hr)
  rw [show Nat.beq (Nat.gcd (Q + r) Q) 1 = true from by rw [g2]; rfl, Bool.not_true, Bool.false_or] at z4
  rw [Bool.and_eq_true, Bool.and_eq_true] at z4
  exact ⟨z4.1, Nat.ble_eq.mp z4.2.1, z4.2.2⟩
/-- a thousandth of the length above, below: there is a mean -/
theorem beside_ex (hp : Cut p) (m1 : 1 ≤ m) (d : m.den ≤ 12) : (∃ m' : Rat, m'.den ≤ 90 ∧ LO p m' ≤ HI p m + (HI p m - LO p m) * (1 / 1000) ∧ HI p m + (HI p m - LO p m) * (1 / 1000) ≤ HI p m') ∧
    (p ≤ LO p m - (HI p m - LO p m) * (1 / 1000) → ∃ m' : Rat, m'.den ≤ 90 ∧ LO p m' ≤ LO p m - (HI p m - LO p m) * (1 / 1000) ∧ LO p m - (HI p m - LO p m) * (1 / 1000) ≤ HI p m') := by
  obtain ⟨k, r, m0, hr, hP, hQ, rfl, g2⟩ := down_ex m1
  obtain ⟨u1, u2, u3⟩ := up_many (m := m0) hp k
  rw [u3] at hP hr g2 d
  rw [u1, u2]
  obtain ⟨n0, n1⟩ := num_lt hp
  have cp : Nat.gcd p.num.natAbs p.den = 1 := p.reduced
  have ha : p.num = ((p.num.natAbs : Nat) : Int) := by omega
  have hab : p.num.natAbs < p.den := by omega
  have A := all2_ok (a := p.num.natAbs) (b := p.den) (Q := m0.den) (r := r) hp.d hab (by omega) cp d hr g2
  have dp := m0.den_pos
  have bp := BA_pos hp dp
  have eh : HI p m0 * (((p.den : Int) * BA p m0.den : Int) : Rat) = ((hiN p.num.natAbs p.den (m0.den + r) m0.den : Nat) : Rat) := by
    rw [Rat.intCast_mul, Rat.intCast_natCast, HN_HI hp m0, ← Rat.intCast_natCast, hiN_cast hab ha rfl hP rfl dp]
  have el : (HI p m0 - LO p m0) * (((p.den : Int) * BA p m0.den : Int) : Rat) = ((lnN p.num.natAbs p.den m0.den : Nat) : Rat) := by
    have lo := LN_LO hp m0
    have hi := HN_HI hp m0
    rw [← Rat.intCast_natCast (lnN _ _ _), lnN_cast hab ha rfl]
    rw [Int.mul_sub, Rat.intCast_sub, ← hi] at lo
    rw [Rat.intCast_mul, Rat.intCast_natCast]
    grind
  have ed : ((dN p.num.natAbs p.den m0.den : Nat) : Rat) = 1000 * (((p.den : Int) * BA p m0.den : Int) : Rat) := by
    have : ((dN p.num.natAbs p.den m0.den : Nat) : Int) = 1000 * ((p.den : Int) * BA p m0.den) := by
      unfold dN
      rw [BA_eq p dp, Int.natCast_mul, Int.natCast_mul, Int.natCast_sub (Nat.pow_le_pow_left (Nat.le_of_lt hab) _), Int.natCast_pow, Int.natCast_pow, ← ha]
      rfl
    rw [← Rat.intCast_natCast, this, Rat.intCast_mul]
    rfl
  have dpos : 0 < dN p.num.natAbs p.den m0.den := by
    have : ((dN p.num.natAbs p.den m0.den : Nat) : Int) = 1000 * ((p.den : Int) * BA p m0.den) := by
      unfold dN
      rw [BA_eq p dp, Int.natCast_mul, Int.natCast_mul, Int.natCast_sub (Nat.pow_le_pow_left (Nat.le_of_lt hab) _), Int.natCast_pow, Int.natCast_pow, ← ha]
      rfl
    have z : 0 < (p.den : Int) * BA p m0.den := Int.mul_pos (by have := p.den_pos; omega) bp
    omega
  obtain ⟨A1, A2, A3⟩ := A
  have sb : ((1000 * hiN p.num.natAbs p.den (m0.den + r) m0.den - 1001 * lnN p.num.natAbs p.den m0.den : Nat) : Rat) = 1000 * ((hiN p.num.natAbs p.den (m0.den + r) m0.den : Nat) : Rat) - 1001 * ((lnN p.num.natAbs p.den m0.den : Nat) : Rat) := by
    have : ((1000 * hiN p.num.natAbs p.den (m0.den + r) m0.den : Nat) : Rat) = ((1000 * hiN p.num.natAbs p.den (m0.den + r) m0.den - 1001 * lnN p.num.natAbs p.den m0.den : Nat) : Rat) + ((1001 * lnN p.num.natAbs p.den m0.den : Nat) : Rat) := by
      rw [← Rat.natCast_add]
      congr 1
      omega
    rw [Rat.natCast_mul, Rat.natCast_mul 1001, Rat.natCast_ofNat, Rat.natCast_ofNat] at this
    grind
  generalize hiN p.num.natAbs p.den (m0.den + r) m0.den = hn at *
  generalize lnN p.num.natAbs p.den m0.den = ln at *
  generalize dN p.num.natAbs p.den m0.den = dn at *
  generalize (((p.den : Int) * BA p m0.den : Int) : Rat) = w at *
  constructor
  · obtain ⟨m', md, lo, hi⟩ := goN_ok (p := p) (h := HI p m0 + (HI p m0 - LO p m0) * (1 / 1000)) hp hab ha rfl dpos (by
      rw [Rat.natCast_add, Rat.natCast_mul, ← eh, ← el, ed, Rat.natCast_ofNat]
      grind) 200 0 1 1 0 A1
    obtain ⟨v1, v2, v3⟩ := up_many (m := m') hp k
    exact ⟨m' + (k : Rat), by omega, by rw [v2]; grind, by rw [v1]; grind⟩
  · intro ph
    by_cases r0 : r = 0
    · subst r0
      have m01 : m0 = 1 := by
        have d1 : m0.den = 1 := by rw [Nat.add_zero, Nat.gcd_self] at g2; exact g2
        refine Rat.ext ?_ d1
        rw [hP, d1]
        rfl
      have kp : 1 ≤ k := by
        rcases Nat.eq_zero_or_pos k with z | z
        · exfalso
          subst z
          rw [nc0, m01, LO_one hp] at ph
          have l := LO_lt hp 1
          rw [LO_one hp] at l
          grind
        · exact z
      obtain ⟨k', rfl⟩ : ∃ k', k = k' + 1 := ⟨k - 1, by omega⟩
      rw [show Nat.beq 0 0 = true from rfl, cond_true] at A3
      obtain ⟨m', md, lo, hi⟩ := goN_ok (p := p) (h := LO p m0 + 1 - (HI p m0 - LO p m0) * (1 / 1000)) hp hab ha rfl dpos (by
        rw [Rat.natCast_add, sb, ← eh, ← el, ed]
        grind) 200 0 1 1 0 A3
      obtain ⟨v1, v2, v3⟩ := up_many (m := m') hp k'
      exact ⟨m' + (k' : Rat), by omega, by rw [v2, Rat.natCast_add, nc1]; grind, by rw [v1, Rat.natCast_add, nc1]; grind⟩
    · rw [show Nat.beq r 0 = false from Bool.eq_false_iff.mpr fun q => r0 (Nat.eq_of_beq_eq_true q), cond_false, Nat.add_zero] at A3
      obtain ⟨m', md, lo, hi⟩ := goN_ok (p := p) (h := LO p m0 - (HI p m0 - LO p m0) * (1 / 1000)) hp hab ha rfl dpos (by
        rw [sb, ← eh, ← el, ed]
        grind) 200 0 1 1 0 A3
      obtain ⟨v1, v2, v3⟩ := up_many (m := m') hp k
      exact ⟨m' + (k : Rat), by omega, by rw [v2]; grind, by rw [v1]; grind⟩
end
end Ev.C

end
section
set_option maxHeartbeats 4000000
/-! # EvP23: heights at, in and just beside a stretch, as the laws use them -/
namespace Ev.C
open PySem
section
variable {p m h : Rat}
def OV (p m : Rat) : Rat := HI p m + (HI p m - LO p m) * (1 / 1000)
def UN (p m : Rat) : Rat := LO p m - (HI p m - LO p m) * (1 / 1000)
theorem EW_le' (hp : Cut p) {Q : Nat} (hQ : Q ≤ 12) : EW p Q < 5 * 10 ^ 12 := Nat.lt_of_le_of_lt (EW_le hp hQ) (by decide)
theorem th_dn : Dn 1000 (1 / 1000 : Rat) := ⟨1, by decide +kernel⟩
theorem OV_dn (hp : Cut p) (m : Rat) : Dn (EW p m.den * 1000) (OV p m) := ((HI_dn hp m).up 1000).add (((HI_dn hp m).sub (LO_dn hp m)).mul th_dn)
theorem UN_dn (hp : Cut p) (m : Rat) : Dn (EW p m.den * 1000) (UN p m) := ((LO_dn hp m).up 1000).sub (((HI_dn hp m).sub (LO_dn hp m)).mul th_dn)
/-- a place in the stretch, by a share -/
def BT (p m t : Rat) : Rat := LO p m + (HI p m - LO p m) * t
theorem BT_dn (hp : Cut p) (m t : Rat) : Dn (EW p m.den * t.den) (BT p m t) := ((LO_dn hp m).up t.den).add (((HI_dn hp m).sub (LO_dn hp m)).mul (Dn.den t))
theorem BT_in (hp : Cut p) (m : Rat) {t : Rat} (t0 : 0 ≤ t) (t1 : t ≤ 1) : LO p m ≤ BT p m t ∧ BT p m t ≤ HI p m := by
  have l := LO_lt hp m
  have w : 0 ≤ HI p m - LO p m := by grind
  have a := Rat.mul_le_mul_of_nonneg_left t1 w
  have b := Rat.mul_nonneg w t0
  unfold BT
  constructor <;> grind
/-- a place of a stretch: all that is wanted of it -/
structure Pl (p m h : Rat) : Prop where
  i : InS p m h
  ok : HeightOk p h
  fb : FB 17 h
  hi : h ≤ 12
theorem pl_mk (hp : Cut p) (hm : Men m) (m12 : m.den ≤ 12) {d : Nat} (hd : Dn (EW p m.den * d) h) (d0 : 0 < d) (d1 : d ≤ 800) (lo : LO p m ≤ h) (hi : h ≤ HI p m) : Pl p m h := by
  have a := LO_ge hp hm
  have b := HI_le hp m
  have c := hm.hi
  have e := EW_le' hp m12
  have le : EW p m.den * d ≤ EW p m.den * 800 := Nat.mul_le_mul_left _ d1
  obtain ⟨f1, f2, f3⟩ := ht_mk hp hd (Nat.mul_pos (EW_pos hp m.den_pos) d0) (by omega) (by grind) (by grind)
  exact ⟨ins_mk hp lo hi (by omega) (by grind) (by grind) f3, f2, f1, by grind⟩
theorem pl_lo (hp : Cut p) (hm : Men m) (m12 : m.den ≤ 12) : Pl p m (LO p m) := pl_mk (d := 1) hp hm m12 ((LO_dn hp m).up 1) (by decide) (by decide) Rat.le_refl (Rat.le_of_lt (LO_lt hp m))
theorem pl_hi (hp : Cut p) (hm : Men m) (m12 : m.den ≤ 12) : Pl p m (HI p m) := pl_mk (d := 1) hp hm m12 ((HI_dn hp m).up 1) (by decide) (by decide) (Rat.le_of_lt (LO_lt hp m)) Rat.le_refl
theorem pl_bt (hp : Cut p) (hm : Men m) (m12 : m.den ≤ 12) {t : Rat} (t0 : 0 ≤ t) (t1 : t ≤ 1) (td : t.den ≤ 800) : Pl p m (BT p m t) := pl_mk hp hm m12 (BT_dn hp m t) t.den_pos td (BT_in hp m t0 t1).1 (BT_in hp m t0 t1).2
theorem pl_lot (hp : Cut p) (hh : Lot p h) : ∃ m, m.den ≤ 36 ∧ Pl p m h := by
  obtain ⟨m, d, i⟩ := mean_ex hp hh
  exact ⟨m, d, i, hh.ok, hh.fb.mono (by decide), by have := hh.hi; grind⟩
theorem len_small (hp : Cut p) (hm : Men m) : HI p m - LO p m ≤ 12 := by
  have a := LO_ge hp hm
  have b := HI_le hp m
  have c := hm.hi
  have := hp.ok.p0
  grind
/-- a little above: another one's, greater -/
theorem pl_ov (hp : Cut p) (hm : Men m) (m11 : m ≤ 11) (m12 : m.den ≤ 12) : ∃ n, m < n ∧ Pl p n (OV p m) := by
  have a := LO_ge hp hm
  have b := HI_le hp m
  have l := LO_lt hp m
  have m1 : 1 ≤ m := by rw [← Rat.intCast_one, int_le]; have := hm.ok.ge; omega
  have s := len_small hp hm
  have e := EW_le' hp m12
  have ov : HI p m < OV p m ∧ OV p m ≤ 12 := by unfold OV; constructor <;> grind
  obtain ⟨n, nd, lo, hi⟩ := (beside_ex hp m1 m12).1
  obtain ⟨f1, f2, f3⟩ := ht_mk hp (OV_dn hp m) (Nat.mul_pos (EW_pos hp m.den_pos) (by decide)) (by omega) (by grind) ov.2
  have i : InS p n (OV p m) := ins_mk hp lo hi nd (by grind) ov.2 f3
  refine ⟨n, ?_, i, f2, f1, ov.2⟩
  refine Rat.not_le.mp fun z => ?_
  have hi' := i.hi
  by_cases c : n = m
  · subst c; grind
  · have o := order hp.ok.p0 hp.ok.p1 (show n < m by grind)
    grind
/-- a little below, if that is a height: another one's, less -/
theorem pl_un (hp : Cut p) (hm : Men m) (m12 : m.den ≤ 12) (ph : p ≤ UN p m) : ∃ n, n < m ∧ Pl p n (UN p m) := by
  have a := LO_ge hp hm
  have b := HI_le hp m
  have l := LO_lt hp m
  have m1 : 1 ≤ m := by rw [← Rat.intCast_one, int_le]; have := hm.ok.ge; omega
  have c := hm.hi
  have e := EW_le' hp m12
  have un : UN p m < LO p m ∧ UN p m ≤ 12 := by unfold UN; constructor <;> grind
  obtain ⟨n, nd, lo, hi⟩ := (beside_ex hp m1 m12).2 ph
  obtain ⟨f1, f2, f3⟩ := ht_mk hp (UN_dn hp m) (Nat.mul_pos (EW_pos hp m.den_pos) (by decide)) (by omega) ph un.2
  have i : InS p n (UN p m) := ins_mk hp lo hi nd ph un.2 f3
  refine ⟨n, ?_, i, f2, f1, un.2⟩
  refine Rat.not_le.mp fun z => ?_
  have lo' := i.lo
  by_cases c : n = m
  · subst c; grind
  · have o := order hp.ok.p0 hp.ok.p1 (show m < n by grind)
    grind
theorem Pl.mean (hp : Cut p) (q : Pl p m h) : f_mean_of.m [fr p, fr h] = ret (fr m) := by
  have := q.ok
  exact ev_meanof (n := 0) hp q.i
theorem Pl.men (hp : Cut p) (q : Pl p m h) (h11 : h ≤ 11) (d : m.den ≤ 36) : Men m := q.i.men hp q.ok.le h11 d
end
end Ev.C

end
section
set_option maxHeartbeats 4000000
/-! # EvP24: means of one height and of another, of one part and of another -/
namespace Ev.C
open PySem
section
variable {p m h : Rat}
theorem clo_ge (m : Rat) (i : Nat) : (((i : Int) + 1 : Int) : Rat) * m - 1 ≤ (clo m i : Rat) := by
  have dp := den_pos' m
  have hd : (0 : Rat) < (m.den : Rat) := Rat.natCast_pos.mpr m.den_pos
  have e := rat_den m
  have dm := Int.emod_add_mul_ediv (-(((i : Int) + 1) * m.num)) (m.den : Int)
  have d2 := Int.emod_nonneg (-(((i : Int) + 1) * m.num)) (show (m.den : Int) ≠ 0 by omega)
  have c : ((i : Int) + 1) * m.num ≤ (clo m i + 1) * (m.den : Int) := by
    unfold clo
    rw [show -((-(((i : Int) + 1) * m.num)) / (m.den : Int)) - 1 + 1 = -((-(((i : Int) + 1) * m.num)) / (m.den : Int)) by omega, Int.neg_mul, Int.mul_comm _ (m.den : Int)]
    omega
  have c' : ((((i : Int) + 1) * m.num : Int) : Rat) ≤ (((clo m i + 1) * (m.den : Int) : Int) : Rat) := Rat.intCast_le_intCast.mpr c
  rw [Rat.intCast_mul, Rat.intCast_mul, Rat.intCast_add (clo m i), Rat.intCast_one, Rat.intCast_natCast, ← e] at c'
  have : (((i : Int) + 1 : Int) : Rat) * m * (m.den : Rat) ≤ ((clo m i : Rat) + 1) * (m.den : Rat) := by grind
  have := Rat.le_of_mul_le_mul_right this hd
  grind
theorem gs_ge (p0 : 0 < p) : ∀ n, lsum p (m - 1) m n ≤ gs p (clo m) n
  | 0 => by unfold lsum gs; exact Rat.le_refl
  | n + 1 => by
    have ih := gs_ge p0 n
    have c := clo_ge m n
    have pw : 0 < p ^ n := Rat.pow_pos p0
    have e : (((n : Int) + 1 : Int) : Rat) = (n : Rat) + 1 := by rw [Rat.intCast_add, Rat.intCast_natCast]; rfl
    rw [e] at c
    have := Rat.mul_le_mul_of_nonneg_left c (Rat.le_of_lt pw)
    unfold lsum gs
    grind
theorem LO_ge' (hp : Cut p) (m : Rat) : m - 1 + p ≤ LO p m := by
  have p0 := hp.ok.p0
  have p1 := hp.ok.p1
  have e1 : 0 < 1 - p := by grind
  have he := mul_inv' e1
  have r := R_pos p0 p1 m.den_pos
  have la := lsum_all p0 p1 (m - 1) m m.den_pos
  have ge := gs_ge (m := m) p0 m.den
  have hee : ((1 - p) * (1 - p))⁻¹ = (1 - p)⁻¹ * (1 - p)⁻¹ := Rat.inv_mul_rev _ _
  rw [LO_GS p0 p1]
  have g : lsum p (m - 1) m m.den / (1 - p ^ m.den) + ((m.den : Rat) * m) * p ^ m.den / (1 - p ^ m.den) / (1 - p) ≤ GS p (clo m) m.den m.num := by
    unfold GS
    rw [nat_den]
    have := Rat.mul_le_mul_of_nonneg_right ge (Rat.le_of_lt (Rat.inv_pos.mpr r))
    simp only [Rat.div_def]
    grind
  rw [la] at g
  have b := Rat.mul_le_mul_of_nonneg_left g (Rat.le_of_lt (Rat.mul_pos e1 e1))
  simp only [Rat.div_def, hee] at b
  have k : (1 - p) * (1 - p) * ((m - 1) * (1 - p)⁻¹ + m * p * ((1 - p)⁻¹ * (1 - p)⁻¹)) = m - 1 + p := by
    have : (1 - p) * (1 - p) * ((m - 1) * (1 - p)⁻¹ + m * p * ((1 - p)⁻¹ * (1 - p)⁻¹)) = (1 - p) * (m - 1) * ((1 - p) * (1 - p)⁻¹) + m * p * ((1 - p) * (1 - p)⁻¹) * ((1 - p) * (1 - p)⁻¹) := by grind
    rw [this, he]
    grind
  rwa [k] at b
/-- a greater part, the same height -/
theorem sms_mean {f : Rat} (hp : Cut p) (lo : LO p m ≤ h) (hi : h ≤ HI p m) (f0 : 0 < f) (f1 : f ≤ 1) (n : Nat) : (sms p h f n : Rat) ≤ (n : Rat) * m + 1 ∧ (n : Rat) * m - 1 ≤ (sms p h f n : Rat) := by
  obtain ⟨i, d⟩ := rounds_at hp.ok.p0 hp.ok.p1 lo hi f0 f1
  have dp := den_pos' m
  have hd : (0 : Rat) < (m.den : Rat) := Rat.natCast_pos.mpr m.den_pos
  have e := rat_den m
  have i0 := sms_in d
  have a1 := Int.emod_add_mul_ediv i (m.den : Int)
  have a2 := Int.emod_nonneg i (show (m.den : Int) ≠ 0 by omega)
  have a3 := Int.emod_lt_of_pos i dp
  rw [i0] at a1
  have b1 := Int.emod_add_mul_ediv (i + (n : Int) * m.num) (m.den : Int)
  have b2 := Int.emod_nonneg (i + (n : Int) * m.num) (show (m.den : Int) ≠ 0 by omega)
  have b3 := Int.emod_lt_of_pos (i + (n : Int) * m.num) dp
  have c : sms p h f n * (m.den : Int) - (n : Int) * m.num ≤ (m.den : Int) ∧ -(m.den : Int) ≤ sms p h f n * (m.den : Int) - (n : Int) * m.num := by
    rw [d n, Int.add_mul, Int.one_mul, Int.mul_comm _ (m.den : Int)]
    constructor <;> omega
  obtain ⟨c1, c2⟩ := c
  have c1' : ((sms p h f n * (m.den : Int) - (n : Int) * m.num : Int) : Rat) ≤ ((m.den : Int) : Rat) := Rat.intCast_le_intCast.mpr c1
  have c2' : ((-(m.den : Int) : Int) : Rat) ≤ ((sms p h f n * (m.den : Int) - (n : Int) * m.num : Int) : Rat) := Rat.intCast_le_intCast.mpr c2
  rw [Rat.intCast_sub, Rat.intCast_mul, Rat.intCast_mul, Rat.intCast_natCast, Rat.intCast_natCast, ← e] at c1' c2'
  rw [Rat.intCast_neg, Rat.intCast_natCast] at c2'
  constructor
  · refine Rat.le_of_mul_le_mul_right (c := (m.den : Rat)) ?_ hd
    grind
  · refine Rat.le_of_mul_le_mul_right (c := (m.den : Rat)) ?_ hd
    grind
theorem mean_wider {w n : Rat} (hp : Cut p) (hw : Cut w) (pw : p < w) (i : InS p m h) (j : InS w n h) : n ≤ m := by
  refine Rat.not_lt.mp fun lt => ?_
  have dm : (0 : Rat) < (m.den : Rat) := Rat.natCast_pos.mpr m.den_pos
  have dn : (0 : Rat) < (n.den : Rat) := Rat.natCast_pos.mpr n.den_pos
  have em := rat_den m
  have en := rat_den n
  have li : m.num * (n.den : Int) + 1 ≤ n.num * (m.den : Int) := by
    rw [Rat.lt_iff] at lt
    omega
  have li' : ((m.num * (n.den : Int) + 1 : Int) : Rat) ≤ ((n.num * (m.den : Int) : Int) : Rat) := Rat.intCast_le_intCast.mpr li
  rw [Rat.intCast_add, Rat.intCast_mul, Rat.intCast_mul, Rat.intCast_one, Rat.intCast_natCast, Rat.intCast_natCast, ← em, ← en] at li'
  have a := (sms_mean (f := 1) hp i.lo i.hi (by decide) (by decide) (3 * (m.den * n.den))).1
  have b := (sms_mean (f := 1) hw j.lo j.hi (by decide) (by decide) (3 * (m.den * n.den))).2
  have c : (sms w h 1 (3 * (m.den * n.den)) : Rat) ≤ (sms p h 1 (3 * (m.den * n.den)) : Rat) := Rat.intCast_le_intCast.mpr (sms_le hw.ok.p0 hw.ok.p1 hp.ok.p0 (Rat.le_of_lt pw) Rat.le_refl (by decide) (by decide) _)
  have N : ((3 * (m.den * n.den) : Nat) : Rat) = 3 * ((m.den : Rat) * (n.den : Rat)) := by rw [Rat.natCast_mul, Rat.natCast_mul]; rfl
  rw [N] at a b
  grind
def all3 : Bool := (List.range 9).all fun b => (List.range b).all fun a => (Nat.beq a 0) || !(Nat.beq (Nat.gcd a b) 1) || (List.range 9).all fun b' => (List.range b').all fun a' => (Nat.beq a' 0) || !(Nat.beq (Nat.gcd a' b') 1) || !(Nat.blt (a * b') (a' * b)) || (List.range 13).all fun d => (List.range d).all fun c =>
  cond (Nat.blt (c * b) (a * d)) (cond (Nat.ble (a' * (d * b)) ((c * b + a * d) * b')) (goN 90 a' b' (c * b + a * d) (d * b) 100 0 1 1 0) true) true
theorem all3_true : all3 = true := by decide +kernel
theorem wide_ex {w : Rat} (hp : Cut p) (hw : Cut w) (pw : p < w) (hh : Lot p h) (wh : w ≤ h) : ∃ n, InS w n h := by
  obtain ⟨x, xd, x0, sh⟩ := hh.sh
  rcases sh with hx | ⟨xp, hx⟩
  · have l : Lot w h := ⟨⟨hh.ok.fm, wh⟩, hh.hi, hh.d, hh.fb, ⟨x, xd, x0, .inl hx⟩⟩
    obtain ⟨n, _, i⟩ := mean_ex hw l
    exact ⟨n, i⟩
  · have pk := hp.ok
    obtain ⟨n0, n1⟩ := num_lt hp
    obtain ⟨n0', n1'⟩ := num_lt hw
    have cp : Nat.gcd p.num.natAbs p.den = 1 := p.reduced
    have cw : Nat.gcd w.num.natAbs w.den = 1 := w.reduced
    have b8 := hp.d
    have b8' := hw.d
    have ha : p.num = ((p.num.natAbs : Nat) : Int) := by omega
    have ha' : w.num = ((w.num.natAbs : Nat) : Int) := by omega
    have xn : 0 ≤ x.num := Rat.num_nonneg.mpr x0
    have ex : x.num = ((x.num.natAbs : Nat) : Int) := by omega
    have xdp := x.den_pos
    have xr := rat_den x
    have pr := rat_den p
    have wr := rat_den w
    have dq : (0 : Rat) < (x.den : Rat) := Rat.natCast_pos.mpr xdp
    have bq : (0 : Rat) < (p.den : Rat) := Rat.natCast_pos.mpr p.den_pos
    have bw : (0 : Rat) < (w.den : Rat) := Rat.natCast_pos.mpr w.den_pos
    have aq : ((p.num.natAbs : Nat) : Rat) = (p.num : Rat) := by rw [← Rat.intCast_natCast, ← ha]
    have aw : ((w.num.natAbs : Nat) : Rat) = (w.num : Rat) := by rw [← Rat.intCast_natCast, ← ha']
    have ax : ((x.num.natAbs : Nat) : Rat) = (x.num : Rat) := by rw [← Rat.intCast_natCast, ← ex]
    have x1 : x < 1 := by have := pk.p1; grind
    have xlt : x.num.natAbs < x.den := by have := (lt_int x 1).mp (by rw [Rat.intCast_one]; exact x1); omega
    have k1 : p.num.natAbs * w.den < w.num.natAbs * p.den := by
      rw [Rat.lt_iff] at pw
      rw [ha, ha', ← Int.natCast_mul, ← Int.natCast_mul] at pw
      omega
    have k2 : x.num.natAbs * p.den < p.num.natAbs * x.den := by
      rw [Rat.lt_iff] at xp
      rw [ha, ex, ← Int.natCast_mul, ← Int.natCast_mul] at xp
      omega
    have k3 : w.num.natAbs * (x.den * p.den) ≤ (x.num.natAbs * p.den + p.num.natAbs * x.den) * w.den := by
      rw [hx] at wh
      have D := Rat.mul_pos (Rat.mul_pos dq bq) bw
      have : w * ((x.den : Rat) * (p.den : Rat) * (w.den : Rat)) ≤ (x + p) * ((x.den : Rat) * (p.den : Rat) * (w.den : Rat)) := Rat.mul_le_mul_of_nonneg_right wh (Rat.le_of_lt D)
      have e1 : w * ((x.den : Rat) * (p.den : Rat) * (w.den : Rat)) = ((w.num.natAbs * (x.den * p.den) : Nat) : Rat) := by rw [Rat.natCast_mul, Rat.natCast_mul, aw, ← wr]; grind
      have e2 : (x + p) * ((x.den : Rat) * (p.den : Rat) * (w.den : Rat)) = (((x.num.natAbs * p.den + p.num.natAbs * x.den) * w.den : Nat) : Rat) := by rw [Rat.natCast_mul, Rat.natCast_add, Rat.natCast_mul, Rat.natCast_mul, ax, aq, ← xr, ← pr]; grind
      rw [e1, e2] at this
      exact Rat.natCast_le_natCast.mp this
    have z := all3_true
    unfold all3 at z
    have z1 := List.all_eq_true.mp z p.den (List.mem_range.mpr (by omega))
    have z2 := List.all_eq_true.mp z1 p.num.natAbs (List.mem_range.mpr (by omega))
    rw [show Nat.beq p.num.natAbs 0 = false from Bool.eq_false_iff.mpr fun q => by have := Nat.eq_of_beq_eq_true q; omega, show Nat.beq (Nat.gcd p.num.natAbs p.den) 1 = true from by rw [cp]; rfl, Bool.not_true, Bool.or_false, Bool.false_or] at z2
    have z3 := List.all_eq_true.mp z2 w.den (List.mem_range.mpr (by omega))
    have z4 := List.all_eq_true.mp z3 w.num.natAbs (List.mem_range.mpr (by omega))
    rw [show Nat.beq w.num.natAbs 0 = false from Bool.eq_false_iff.mpr fun q => by have := Nat.eq_of_beq_eq_true q; omega, show Nat.beq (Nat.gcd w.num.natAbs w.den) 1 = true from by rw [cw]; rfl, show Nat.blt (p.num.natAbs * w.den) (w.num.natAbs * p.den) = true from Nat.blt_eq.mpr k1, Bool.not_true, Bool.or_false, Bool.false_or, Bool.false_or] at z4
    have z5 := List.all_eq_true.mp z4 x.den (List.mem_range.mpr (by omega))
    have z6 := List.all_eq_true.mp z5 x.num.natAbs (List.mem_range.mpr xlt)
    rw [show Nat.blt (x.num.natAbs * p.den) (p.num.natAbs * x.den) = true from Nat.blt_eq.mpr k2, cond_true, show Nat.ble (w.num.natAbs * (x.den * p.den)) ((x.num.natAbs * p.den + p.num.natAbs * x.den) * w.den) = true from Nat.ble_eq.mpr k3, cond_true] at z6
    obtain ⟨n, nd, lo, hi⟩ := goN_ok (p := w) (h := h) hw (by omega) ha' rfl (Nat.mul_pos xdp p.den_pos) (by rw [hx, Rat.natCast_mul, Rat.natCast_add, Rat.natCast_mul, Rat.natCast_mul, ax, aq, ← xr, ← pr]; grind) 100 0 1 1 0 z6
    exact ⟨n, lo, hi, nd, ⟨by have := hh.fb.a; unfold Bd at this; omega, by have := hh.d; omega⟩, Rat.le_trans hh.hi (by decide), by have := hh.ok.le; have := pk.p0; grind⟩
end
end Ev.C

end
section
set_option maxHeartbeats 4000000
/-! # EvP25: settings with any height; their runs -/
namespace Ev
open PySem
namespace C
section
variable {B : Nat} {ds : Option DS} {Q : D → Option DS → Prop}
/-- LIMIT and STEP as they are drawn -/
structure Rlb (l s : Rat) : Prop where
  lb : FB 2 l
  sb : FB 1 s
  s0 : 0 < s
  l0 : -20 ≤ l
  l1 : l ≤ 40
  ld : l.den ≤ 5
  s1 : s ≤ 9
  sd : s.den ≤ 6
/-- a setting with a height -/
structure Rul2 (l s p k x : Rat) : Prop where
  ok : SetOk l s p k
  b : Rlb l s
  cut : Cut p
  kb : FB 30 k
  eh : hgt l s p k = x
  eqk : k = (1 - p) * l - x * s
theorem rul2_mk {l s p x : Rat} {n : Nat} (hp : Cut p) (hx : p ≤ x) (fx : FB n x) (hn : n ≤ 20) (b : Rlb l s) : Rul2 l s p ((1 - p) * l - x * s) x := by
  have s0 := b.s0
  have kb : FB 30 ((1 - p) * l - x * s) := (((fb_one.sub hp.fb).mul b.lb).sub (fx.mul b.sb)).mono (by omega)
  have eh : hgt l s p ((1 - p) * l - x * s) = x := by
    unfold hgt
    have : (1 - p) * l - ((1 - p) * l - x * s) = x * s := by grind
    rw [this, Rat.mul_div_cancel (ne_of_pos s0)]
  refine ⟨⟨FM.of b.lb, FM.of b.sb, hp.ok, FM.of kb, s0, ?_⟩, b, hp, kb, eh, rfl⟩
  have := Rat.mul_le_mul_of_nonneg_right hx (Rat.le_of_lt s0)
  grind
theorem ev_lfirst2 {l s p kp : Rat} (hr : Rlb l s) (h : DrB (B + 3) ds) (k : ∀ x ds', Fst l s x → DrB B ds' → Q (fr x) ds') : wpR (f_u_law_first.m [.dict [], st l s p kp] ds) Q := by
  simp [f_u_law_first, b_u_law_first, run]
  rw [wp_bnd]
  refine L.drawN (b := B + 2) h (by omega) (by omega) ?_
  intro v1 d2 u1 h2
  try simp
  rw [wp_bnd]
  refine L.drawN (b := B + 1) h2 (by omega) (by omega) ?_
  intro v2 d3 u2 h3
  have e1 := s_share (a := (v1 : Int)) (b := 1 + (v2 : Int)) (n := 1) (by omega) (bd_lit (m := 5) (by omega) (by omega))
  simp [e1]
  rw [wp_bnd]
  refine L.drawN (b := B) h3 (by omega) (by omega) ?_
  intro v3 d4 u3 h4
  have f0 : ((0 : Int) : Rat) ≤ Rat.divInt (v1 : Int) (1 + (v2 : Int)) := (le_sh (by omega)).mpr (by omega)
  have f1 : Rat.divInt (v1 : Int) (1 + (v2 : Int)) ≤ ((40 : Int) : Rat) := (sh_le (by omega)).mpr (by omega)
  have fb : FB 2 (Rat.divInt (v1 : Int) (1 + (v2 : Int))) := sh_fb (by omega) (bd_lit (m := 40) (by omega) (by omega)) (bd_lit (m := 40) (by omega) (by omega))
  have fd := Dn.share (a := (v1 : Int)) (b := 1 + v2) (by omega)
  have fd60 : Dn 60 (Rat.divInt (v1 : Int) ((1 + v2 : Nat) : Int)) := fd.dvd (by
    have : v2 = 0 ∨ v2 = 1 ∨ v2 = 2 ∨ v2 = 3 ∨ v2 = 4 := by omega
    rcases this with z | z | z | z | z <;> subst z <;> decide)
  rw [show ((1 + v2 : Nat) : Int) = 1 + (v2 : Int) by push_cast; rfl] at fd60
  have ddl : (Rat.divInt (v1 : Int) (1 + (v2 : Int))).den ≤ 5 := by
    have := sh_den (a := (v1 : Int)) (b := 1 + v2) (by omega)
    rw [show ((1 + v2 : Nat) : Int) = 1 + (v2 : Int) by push_cast; rfl] at this
    omega
  generalize Rat.divInt (v1 : Int) (1 + (v2 : Int)) = f at *
  have f0' : 0 ≤ f := by simpa using f0
  have f1' : f ≤ 40 := by simpa using f1
  have q1 : QB 2 l := ⟨hr.lb⟩
  have q2 : QB 1 s := ⟨hr.sb⟩
  have q3 : QB 2 f := ⟨fb⟩
  have s0 := hr.s0
  have ld := hr.ld
  have sd := hr.sd
  have dl : Dn (l.den * (60 * s.den)) l := (Dn.den l).up _
  by_cases c : v3 = 0
  · subst c
    simp
    exact k _ _ ⟨Rat.le_refl, by grind, by grind, hr.lb.mono (by decide), by omega, dl⟩ h4
  · have c' : ¬ ((v3 : Int) = 0) := by omega
    simp [c, c']
    have m1 : 0 ≤ f * s := Rat.mul_nonneg f0' (Rat.le_of_lt s0)
    have m2 : f * s ≤ 40 * s := Rat.mul_le_mul_of_nonneg_right f1' (Rat.le_of_lt s0)
    have s1 := hr.s1
    have df : Dn (f.den * s.den) (f * s) := (Dn.den f).mul (Dn.den s)
    have dx : (l - f * s).den ≤ l.den * (f.den * s.den) := Dn.le (Nat.mul_pos l.den_pos (Nat.mul_pos f.den_pos s.den_pos)) (((Dn.den l).up _).sub (df.up' _))
    have dl2 : l.den * (f.den * s.den) ≤ 5 * (5 * 6) := Nat.mul_le_mul ld (Nat.mul_le_mul ddl sd)
    exact k _ _ ⟨by grind, by grind, by grind, (hr.lb.sub (fb.mul hr.sb)).mono (by decide), by omega, dl.sub ((fd60.mul (Dn.den s)).up' _)⟩ h4
theorem ev_ruleof2 {B : Nat} {ds : Option DS} {Q : D → Option DS → Prop} {p x : Rat} (hp : Cut p) {n : Nat} (hx : p ≤ x) (fx : FB n x) (hn : n ≤ 20) (h : DrB (B + 4) ds) (kk : ∀ l s k ds', Rul2 l s p k x → DrB B ds' → Q (st l s p k) ds') : wpR (f_u_law_rule_of.m [.dict [], fr p, fr x] ds) Q := by
  simp [f_u_law_rule_of, b_u_law_rule_of, run]
  rw [wp_bnd]
  refine L.drawN (b := B + 3) h (by omega) (by omega) ?_
  intro v1 d1 u1 h1
  simp
  rw [wp_bnd]
  refine L.drawN (b := B + 2) h1 (by omega) (by omega) ?_
  intro v2 d2 u2 h2
  have e1 := s_share (a := (v1 : Int) - 20) (b := 1 + (v2 : Int)) (n := 1) (by omega) (bd_lit (m := 5) (by omega) (by omega))
  simp [e1]
  rw [wp_bnd]
  refine L.drawN (b := B + 1) h2 (by omega) (by omega) ?_
  intro v3 d3 u3 h3
  simp
  rw [wp_bnd]
  refine L.drawN (b := B) h3 (by omega) (by omega) ?_
  intro v4 d4 u4 h4
  have e2 := s_share (a := 1 + (v3 : Int)) (b := 1 + (v4 : Int)) (n := 1) (by omega) (bd_lit (m := 5) (by omega) (by omega))
  have l0 : ((-20 : Int) : Rat) ≤ Rat.divInt ((v1 : Int) - 20) (1 + (v2 : Int)) := (le_sh (by omega)).mpr (by omega)
  have l1 : Rat.divInt ((v1 : Int) - 20) (1 + (v2 : Int)) ≤ ((40 : Int) : Rat) := (sh_le (by omega)).mpr (by omega)
  have lb : FB 2 (Rat.divInt ((v1 : Int) - 20) (1 + (v2 : Int))) := sh_fb (by omega) (bd_lit (m := 40) (by omega) (by omega)) (bd_lit (m := 40) (by omega) (by omega))
  have ld := sh_den (a := (v1 : Int) - 20) (b := 1 + v2) (by omega)
  rw [show ((1 + v2 : Nat) : Int) = 1 + (v2 : Int) by push_cast; rfl] at ld
  have s0 : ((0 : Int) : Rat) < Rat.divInt (1 + (v3 : Int)) (1 + (v4 : Int)) := (lt_sh (by omega)).mpr (by omega)
  have s1 : Rat.divInt (1 + (v3 : Int)) (1 + (v4 : Int)) ≤ ((9 : Int) : Rat) := (sh_le (by omega)).mpr (by omega)
  have sb : FB 1 (Rat.divInt (1 + (v3 : Int)) (1 + (v4 : Int))) := sh_fb (by omega) (bd_lit (m := 9) (by omega) (by omega)) (bd_lit (m := 9) (by omega) (by omega))
  have sd := sh_den (a := 1 + (v3 : Int)) (b := 1 + v4) (by omega)
  rw [show ((1 + v4 : Nat) : Int) = 1 + (v4 : Int) by push_cast; rfl] at sd
  simp [e2]
  generalize Rat.divInt ((v1 : Int) - 20) (1 + (v2 : Int)) = l at *
  generalize Rat.divInt (1 + (v3 : Int)) (1 + (v4 : Int)) = s at *
  have q1 : QB 2 l := ⟨lb⟩
  have q2 : QB 1 s := ⟨sb⟩
  have q3 : QB n x := ⟨fx⟩
  have a1 : n + 1 ≤ 800 := by omega
  have a2 : 1 + 1 + 1 + 2 + (n + 1) ≤ 800 := by omega
  have q4 : QB 1 p := ⟨hp.fb⟩
  have s0' : 0 < s := by simpa using s0
  simp [st_eq, a1, a2]
  exact kk _ _ _ _ (rul2_mk hp hx fx hn ⟨lb, sb, s0', by simpa using l0, by simpa using l1, by omega, by simpa using s1, by omega⟩) h4
theorem Fst.beg2 {l s x : Rat} (h : Rlb l s) (hf : Fst l s x) : Beg 3 l x := ⟨hf.le, by have := hf.lo; have := h.l0; grind, by have := hf.d; omega⟩
theorem lv_fbc2 {l s p k x y : Rat} (h : Rul2 l s p k y) (y12 : y ≤ 12) {e : Nat} (hx : Beg e l x) (N : Nat) : FB (36 + e + (ctl l s p k x N).length) (lv l s p k x N) := by
  generalize ht : (ctl l s p k x N).length = t
  have C0 : 0 < l.den * s.den * k.den * x.den := Nat.mul_pos (Nat.mul_pos (Nat.mul_pos l.den_pos s.den_pos) k.den_pos) x.den_pos
  have d := lv_dnc (p := p) (((Dn.den l).up s.den).up k.den |>.up x.den) (((Dn.den s).up' l.den).up k.den |>.up x.den) ((Dn.den k).up' (l.den * s.den) |>.up x.den) ((Dn.den x).up' (l.den * s.den * k.den)) N
  rw [ht] at d
  have dl := d.le (Nat.mul_pos C0 (Nat.pow_pos p.den_pos))
  have kd : k.den ≤ 10 ^ 30 := by have := h.kb.b; unfold Bd at this; omega
  have m1 : l.den * s.den * k.den * x.den ≤ 5 * 6 * 10 ^ 30 * 10 ^ e := Nat.mul_le_mul (Nat.mul_le_mul (Nat.mul_le_mul h.b.ld h.b.sd) kd) hx.d
  have m2 : p.den ^ t ≤ 10 ^ t := Nat.pow_le_pow_left (by have := h.cut.d; omega) t
  have m3 : l.den * s.den * k.den * x.den * p.den ^ t ≤ 5 * 6 * 10 ^ 30 * 10 ^ e * 10 ^ t := Nat.mul_le_mul m1 m2
  have m4 : 5 * 6 * 10 ^ 30 * 10 ^ e * 10 ^ t < 10 ^ (32 + e + t) := by
    rw [Nat.pow_add, Nat.pow_add]
    exact Nat.mul_lt_mul_of_pos_right (Nat.mul_lt_mul_of_pos_right (by decide) (Nat.pow_pos (by decide))) (Nat.pow_pos (by decide))
  have lo : -1000 ≤ lv l s p k x N := lv_ge h.ok hx.lo (by
    have e := h.eqk
    have := h.b.l0
    have s0 := h.ok.s0
    have : y * s ≤ 12 * s := Rat.mul_le_mul_of_nonneg_right y12 (Rat.le_of_lt s0)
    have := h.b.s1
    rw [e]
    grind) N
  have hi := lv_le h.ok hx.le N
  have l1 := h.b.l1
  have := FB.of_den (a := 32 + e + t) (b := 3) (q := lv l s p k x N) (M := 1000) (by omega) (by rw [Rat.natCast_ofNat]; exact lo) (by rw [Rat.natCast_ofNat]; grind) (by decide)
  exact this.mono (by omega)
theorem cnt_le2 {l s p k x y : Rat} (hr : Rul2 l s p k y) (y12 : y ≤ 12) (j : Nat) : cnt p (hgt l s p k) (sg l s p k x j) ≤ 13 := by
  have := cnt_lt (p := p) (h := hgt l s p k) (s := sg l s p k x j) (H := 12) hr.ok.fp.p0 (Rat.le_of_lt (sg_in hr.ok j).1) (by rw [hr.eh]; exact y12)
  omega
theorem tn_le2 {l s p k x y : Rat} (hr : Rul2 l s p k y) (y12 : y ≤ 12) (hx : fc l s x ≤ 41) : ∀ j : Nat, tn l s p k x j ≤ 41 + 13 * (j : Int)
  | 0 => by rw [tn_0]; omega
  | j + 1 => by
    have ih := tn_le2 hr y12 hx j
    have := cnt_le2 (x := x) hr y12 j
    rw [tn_succ]
    omega
/-- the law's own run of a drawn start -/
theorem ev_lrun2 {l s p k x y : Rat} (hr : Rul2 l s p k y) (y12 : y ≤ 12) (hf : Fst l s x) {n : Nat} (hn : n ≤ 100) : f_u_law_run.m [st l s p k, fr x, .int n] = ret (.tuple [.int (fc l s x), .list ((cns p y (fs l s x) n).map .int), .list (fr (fs l s x) :: (sps p y (fs l s x) n).map fr)]) := by
  have ok := hr.ok
  have fx := fc_near (x := x) ok hf.lo2
  have tl := tn_le2 (x := x) hr y12 fx n
  have z := ev_lrun (l := l) (s := s) (p := p) (k := k) (x := x) (n := n) hf.le (by omega) (fun N c a hc => by
    have := lv_fbc2 hr y12 (hf.beg2 hr.b) N
    have al := at_len a
    exact this.mono (by omega)) (by omega)
  rw [hr.eh] at z
  exact z
theorem ev_llotm {p : Rat} (hp : Cut p) (h : DrB (B + 2) ds) (k : ∀ x m ds', Lot p x → m.den ≤ 36 → Pl p m x → DrB B ds' → Q (fr x) ds') : wpR (f_u_law_lot.m [.dict [], fr p] ds) Q := by
  refine ev_llot hp h fun x ds' hx hd => ?_
  obtain ⟨m, d, q⟩ := pl_lot hp hx
  exact k x m ds' hx d q hd
end
end C
end Ev

end
section
set_option maxHeartbeats 4000000
/-! # EvP26: the points to which spots come -/
namespace Ev.C
open PySem
section
variable {p m h : Rat}
/-- the point of a phase -/
def zz (p m h : Rat) (j : Int) : Rat := (((j * m.num - 1) / (m.den : Int) : Int) : Rat) + 1 - fy p m h (j * m.num - 1)
theorem zz_rec (p0 : 0 < p) (p1 : p < 1) (j : Int) : zz p m h (j + 1) = p * zz p m h j + (bt m j : Rat) - h := by
  have dp := den_pos' m
  have r := fy_rec (m := m) (h := h) p0 p1 (j * m.num - 1)
  have b := bt_up m j
  have e1 : (j + 1) * m.num + (m.den : Int) - 1 = ((j + 1) * m.num - 1) + 1 * (m.den : Int) := by omega
  have e2 : j * m.num + (m.den : Int) - 1 = (j * m.num - 1) + 1 * (m.den : Int) := by omega
  rw [e1, e2, Int.add_mul_ediv_right _ _ (by omega), Int.add_mul_ediv_right _ _ (by omega)] at b
  have e3 : (j + 1) * m.num - 1 = j * m.num - 1 + m.num := by rw [Int.add_mul]; omega
  unfold zz
  rw [e3] at b ⊢
  rw [r]
  generalize j * m.num - 1 = i at *
  have b' : (bt m j : Rat) = (((i + m.num) / (m.den : Int) : Int) : Rat) - ((i / (m.den : Int) : Int) : Rat) := by
    rw [← Rat.intCast_sub]
    congr 1
    omega
  rw [b']
  grind
theorem zz_per (p0 : 0 < p) (p1 : p < 1) (j : Int) : zz p m h (j + (m.den : Int)) = zz p m h j := by
  have dp := den_pos' m
  unfold zz
  have e : (j + (m.den : Int)) * m.num - 1 = j * m.num - 1 + m.num * (m.den : Int) := by rw [Int.add_mul, Int.mul_comm (m.den : Int)]; omega
  rw [e, fy_add p0 p1, Int.add_mul_ediv_right _ _ (by omega), Rat.intCast_add]
  grind
theorem zz_in (p0 : 0 < p) (p1 : p < 1) (lo : LO p m ≤ h) (hi : h ≤ HI p m) (j : Int) : 0 ≤ zz p m h j ∧ zz p m h j ≤ 1 := by
  have a := fy_low p0 p1 lo (j * m.num - 1)
  have b := fy_high p0 p1 hi (j * m.num - 1)
  unfold zz
  constructor <;> grind
/-- what the loop for the first point holds -/
def fpt (p m h : Rat) (k : Nat) : Rat := zz p m h (k : Int) - p ^ k * zz p m h 0
theorem fpt_0 : fpt p m h 0 = 0 := by
  unfold fpt
  rw [Rat.pow_zero, show ((0 : Nat) : Int) = 0 from rfl]
  grind
theorem fpt_succ (p0 : 0 < p) (p1 : p < 1) (k : Nat) : fpt p m h (k + 1) = p * fpt p m h k + ((bt m (k : Int) : Rat) - h) := by
  unfold fpt
  rw [Rat.pow_succ, show ((k + 1 : Nat) : Int) = (k : Int) + 1 by push_cast; rfl, zz_rec p0 p1]
  grind
theorem fpt_dn (p0 : 0 < p) (p1 : p < 1) : ∀ k : Nat, Dn (h.den * p.den ^ k) (fpt p m h k)
  | 0 => by
    rw [fpt_0]
    have := Dn.int (h.den * p.den ^ 0) 0
    exact this
  | k + 1 => by
    rw [fpt_succ p0 p1]
    have ih := fpt_dn p0 p1 k
    have a := (Dn.den p).mul ih
    have e : p.den * (h.den * p.den ^ k) = h.den * p.den ^ (k + 1) := by rw [Nat.pow_succ]; grind
    rw [e] at a
    exact a.add (((Dn.int h.den (bt m (k : Int))).sub (Dn.den h)).up _)
theorem pow01 (p0 : 0 < p) (p1 : p < 1) (k : Nat) : 0 < p ^ k ∧ p ^ k ≤ 1 := ⟨Rat.pow_pos p0, pow_le_one' p0 p1 k⟩
theorem fpt_in (p0 : 0 < p) (p1 : p < 1) (lo : LO p m ≤ h) (hi : h ≤ HI p m) (k : Nat) : -1 ≤ fpt p m h k ∧ fpt p m h k ≤ 1 := by
  obtain ⟨a1, a2⟩ := zz_in (m := m) p0 p1 lo hi (k : Int)
  obtain ⟨b1, b2⟩ := zz_in (m := m) p0 p1 lo hi 0
  obtain ⟨c1, c2⟩ := pow01 p0 p1 k
  have d1 := Rat.mul_nonneg (Rat.le_of_lt c1) b1
  have d2 := Rat.mul_le_mul_of_nonneg_right c2 b1
  unfold fpt
  constructor <;> grind
theorem fpt_last (p0 : 0 < p) (p1 : p < 1) : fpt p m h m.den = (1 - p ^ m.den) * zz p m h 0 := by
  unfold fpt
  have := zz_per (m := m) (h := h) p0 p1 0
  rw [Int.zero_add] at this
  rw [this]
  grind
/-- a common denominator -/
def ZW (p m h : Rat) : Nat := h.den * EW p m.den * p.den ^ m.den
theorem ZW_pos (hp : Cut p) (m h : Rat) : 0 < ZW p m h := Nat.mul_pos (Nat.mul_pos h.den_pos (EW_pos hp m.den_pos)) (Nat.pow_pos p.den_pos)
theorem zz0_dn (hp : Cut p) (m h : Rat) : Dn (h.den * EW p m.den) (zz p m h 0) := by
  obtain ⟨c, hc⟩ := fpt_dn (m := m) (h := h) hp.ok.p0 hp.ok.p1 m.den
  rw [fpt_last hp.ok.p0 hp.ok.p1, Rat.natCast_mul, Rat.natCast_pow] at hc
  refine ⟨(p.den : Int) * (p.den : Int) * c, ?_⟩
  rw [Rat.natCast_mul, EW_cast hp, Rat.intCast_mul, Rat.intCast_mul, Rat.intCast_natCast, ← hc]
  grind
theorem zz_dn (hp : Cut p) (m h : Rat) {k : Nat} (hk : k ≤ m.den) : Dn (ZW p m h) (zz p m h (k : Int)) := by
  have e : zz p m h (k : Int) = fpt p m h k + p ^ k * zz p m h 0 := by unfold fpt; grind
  rw [e]
  have a := fpt_dn (m := m) (h := h) hp.ok.p0 hp.ok.p1 k
  have b := (Dn.pow p k).mul (zz0_dn hp m h)
  have d : p.den ^ k ∣ p.den ^ m.den := Nat.pow_dvd_pow _ hk
  refine (a.dvd ?_).add (b.dvd ?_)
  · unfold ZW
    obtain ⟨q, hq⟩ := d
    exact ⟨EW p m.den * q, by rw [hq]; grind⟩
  · unfold ZW
    obtain ⟨q, hq⟩ := d
    exact ⟨q, by rw [hq]; grind⟩
theorem den17 (h17 : FB 17 h) : h.den ≤ 10 ^ 17 := by
  have := h17.b
  unfold Bd at this
  omega
theorem ZW_le (hp : Cut p) (h17 : FB 17 h) (m12 : m.den ≤ 12) : 12 * ZW p m h < 10 ^ 42 := by
  have a := den17 h17
  have b := EW_le hp m12
  have c : p.den ^ m.den ≤ 8 ^ 12 := Nat.le_trans (Nat.pow_le_pow_left hp.d m.den) (Nat.pow_le_pow_right (by decide) m12)
  have := Nat.mul_le_mul (Nat.mul_le_mul a b) c
  unfold ZW
  omega
theorem zz_fb (hp : Cut p) (q : Pl p m h) (m12 : m.den ≤ 12) {k : Nat} (hk : k ≤ m.den) : FB 42 (zz p m h (k : Int)) := by
  obtain ⟨b1, b2⟩ := zz_in (m := m) hp.ok.p0 hp.ok.p1 q.i.lo q.i.hi (k : Int)
  exact end_fb (zz_dn hp m h hk) (ZW_pos hp m h) (ZW_le hp q.fb m12) (by grind) (by grind)
theorem fpt_fb (hp : Cut p) (q : Pl p m h) {k : Nat} (hk : k ≤ 12) : FB 30 (fpt p m h k) := by
  obtain ⟨b1, b2⟩ := fpt_in (m := m) hp.ok.p0 hp.ok.p1 q.i.lo q.i.hi k
  have a := den17 q.fb
  have c : p.den ^ k ≤ 8 ^ 12 := Nat.le_trans (Nat.pow_le_pow_left hp.d k) (Nat.pow_le_pow_right (by decide) hk)
  have := Nat.mul_le_mul a c
  exact end_fb (fpt_dn (m := m) hp.ok.p0 hp.ok.p1 k) (Nat.mul_pos h.den_pos (Nat.pow_pos p.den_pos)) (by omega) (by grind) (by grind)
/-! ### the walk -/
theorem bt_in (hm : Men m) {j : Int} (j0 : 0 ≤ j) (j1 : j ≤ 40) : 0 ≤ bt m j ∧ bt m j ≤ 1000 := by
  have dp := den_pos' m
  have ge := hm.ok.ge
  have h12 := (le_int m 12).mp hm.hi
  rw [bt_up]
  have e1 : 0 ≤ j * m.num := Int.mul_nonneg j0 (by omega)
  have e2 : j * m.num ≤ 40 * m.num := Int.mul_le_mul_of_nonneg_right j1 (by omega)
  have e3 : (j + 1) * m.num = j * m.num + m.num := by rw [Int.add_mul]; omega
  rw [e3]
  have a0 : (j * m.num + (m.den : Int) - 1) / (m.den : Int) ≤ (j * m.num + m.num + (m.den : Int) - 1) / (m.den : Int) := Int.ediv_le_ediv dp (by omega)
  have a1 : 0 ≤ (j * m.num + (m.den : Int) - 1) / (m.den : Int) := Int.ediv_nonneg (by omega) (by omega)
  have a2 : (j * m.num + m.num + (m.den : Int) - 1) / (m.den : Int) ≤ (493 * (m.den : Int)) / (m.den : Int) := Int.ediv_le_ediv dp (by omega)
  rw [Int.mul_ediv_cancel _ (by omega)] at a2
  omega
theorem bt_fb (hm : Men m) {j : Int} (j0 : 0 ≤ j) (j1 : j ≤ 40) : FB 4 ((bt m j : Int) : Rat) := by
  obtain ⟨a, b⟩ := bt_in hm j0 j1
  exact fb_int (by unfold Bd; omega)
theorem ev_upper (hm : Men m) {j : Int} (hj : j.natAbs ≤ 100) : f_upper_in.m [fr m, .int j] = ret (.int (-((-j * m.num) / (m.den : Int)))) := by
  have m1 : mulOk (-j) m.num = true := mulOk_l (by omega)
  have d1 : divOk (-j * m.num) (m.den : Int) = true := divOk_bd hm.fb.b
  have d2 : divOk (-(j * m.num)) (m.den : Int) = true := divOk_bd hm.fb.b
  have d0 : m.den ≠ 0 := m.den_nz
  have fd : (-j * m.num).fdiv (m.den : Int) = -j * m.num / (m.den : Int) := Int.fdiv_eq_ediv_of_nonneg _ (by omega)
  have fd' : (-(j * m.num)).fdiv (m.den : Int) = -(j * m.num) / (m.den : Int) := Int.fdiv_eq_ediv_of_nonneg _ (by omega)
  simp [f_upper_in, b_upper_in, run, m1, d1, d2, d0, fd, fd']
theorem ev_thing (hm : Men m) {j : Int} (hj : j.natAbs ≤ 90) : f_thing_in.m [fr m, .int j] = ret (.int (bt m j)) := by
  have u1 := ev_upper hm (j := j + 1) (by omega)
  have u2 := ev_upper hm (j := j) (by omega)
  have e : bt m j = -((-(j + 1) * m.num) / (m.den : Int)) - -((-j * m.num) / (m.den : Int)) := by unfold bt; omega
  simp [f_thing_in, b_thing_in, run, u1, u2, e]
theorem int_fr (c : Int) : (.tuple [.int c, .int 1] : D) = fr (c : Rat) := lit_fr (Rat.num_intCast c) (by rw [Rat.den_intCast]; rfl)
theorem rng_n (n : Nat) : rngD 0 (n : Int) = (List.range' 0 n).map fun j : Nat => PyData.int (j : Int) := by
  rw [rng_map, show ((n : Int) - 0).toNat = n by omega, List.range_eq_range']
  refine List.map_congr_left fun j _ => ?_
  rw [Int.zero_add]
abbrev fpT : Tb := ⟨[Ev.F.f_over_in, Ev.F.f_plus_in, Ev.F.f_minus_in, Ev.F.f_times_in, Ev.C.f_power_in, Ev.C.f_thing_in], c_first_point⟩
theorem first_loop (hp : Cut p) (hm : Men m) (q : Pl p m h) : ∀ (k t : Nat) (o4 : Option D), t + k ≤ 12 → ∃ o4', forL (fun x env => bnd (lft (asgT (.n 4) x env)) fun env' => evSs fpT 1000000 b_first_point_1 env') ((List.range' t k).map fun j : Nat => PyData.int (j : Int)) [some (fr p), some (fr h), some (fr m), some (fr (fpt p m h t)), o4] = ret (.nx [some (fr p), some (fr h), some (fr m), some (fr (fpt p m h (t + k))), o4'])
  | 0, t, o4, _ => ⟨o4, rfl⟩
  | k + 1, t, o4, le => by
    rw [List.range'_succ, List.map_cons]
    unfold forL
    have q1 : QB 30 (fpt p m h t) := ⟨fpt_fb hp q (by omega)⟩
    have q2 : QB 17 h := ⟨q.fb⟩
    have q3 : QB 1 p := ⟨hp.fb⟩
    have q4 : QB 4 ((bt m (t : Int) : Int) : Rat) := ⟨bt_fb hm (by omega) (by omega)⟩
    have th := ev_thing hm (j := (t : Int)) (by omega)
    have e := fpt_succ (m := m) (h := h) hp.ok.p0 hp.ok.p1 t
    obtain ⟨o4', r⟩ := first_loop hp hm q k (t + 1) (some (.int (t : Int))) (by omega)
    have body : (bnd (lft (asgT (.n 4) (.int (t : Int)) [some (fr p), some (fr h), some (fr m), some (fr (fpt p m h t)), o4])) fun env' => evSs fpT 1000000 b_first_point_1 env') = ret (.nx [some (fr p), some (fr h), some (fr m), some (fr (fpt p m h (t + 1))), some (.int (t : Int))]) := by
      rw [e]
      simp [b_first_point_1, th, int_fr]
    rw [body, bnd_ret]
    exact ⟨o4', by rw [show t + (k + 1) = t + 1 + k by omega]; exact r⟩
theorem ev_firstpoint (hp : Cut p) (hm : Men m) (q : Pl p m h) (m12 : m.den ≤ 12) : f_first_point.m [fr p, fr h, fr m] = ret (fr (zz p m h 0)) := by
  obtain ⟨o4, r⟩ := first_loop hp hm q m.den 0 none (by omega)
  rw [fpt_0, Nat.zero_add] at r
  have g : rngOk (m.den : Int) = true := rngOk_le (by omega) (by omega)
  have pw := ev_powerin hp (n := m.den) (by omega)
  have q1 : QB 30 (fpt p m h m.den) := ⟨fpt_fb hp q m12⟩
  have b8 : FB 12 (p ^ m.den) := by
    have := hp.ok.p0
    have d := (Dn.pow p m.den).le (Nat.pow_pos p.den_pos)
    have c : p.den ^ m.den ≤ 8 ^ 12 := Nat.le_trans (Nat.pow_le_pow_left hp.d m.den) (Nat.pow_le_pow_right (by decide) m12)
    obtain ⟨c1, c2⟩ := pow01 hp.ok.p0 hp.ok.p1 m.den
    exact FB.of_den (a := 11) (b := 1) (M := 1) (by omega) (by rw [nc1]; grind) (by rw [nc1]; grind) (by decide)
  have q2 : QB 12 (p ^ m.den) := ⟨b8⟩
  have n0 : (1 - p ^ m.den) ≠ 0 := by
    have := pow_lt_one hp.ok.p0 hp.ok.p1 (m.den - 1)
    rw [show m.den - 1 + 1 = m.den by have := m.den_pos; omega] at this
    grind
  have e : fpt p m h m.den / (1 - p ^ m.den) = zz p m h 0 := by
    rw [fpt_last hp.ok.p0 hp.ok.p1, Rat.div_def, Rat.mul_comm (1 - p ^ m.den), Rat.mul_assoc, Rat.mul_inv_cancel _ n0, Rat.mul_one]
  try simp at r
  simp [f_first_point, b_first_point, run, g, rng_n, r, pw, n0, e]
def zs (p m h : Rat) (n : Nat) : List Rat := (List.range n).map fun j : Nat => zz p m h (j : Int)
theorem zs_succ (n : Nat) : zs p m h (n + 1) = zs p m h n ++ [zz p m h (n : Int)] := by
  unfold zs
  rw [List.range_succ, List.map_append]
  rfl
@[simp] theorem zs_len (n : Nat) : (zs p m h n).length = n := by simp [zs]
abbrev pbT : Tb := ⟨[Ev.C.f_first_point, Ev.F.f_plus_in, Ev.F.f_times_in, Ev.F.f_minus_in, Ev.C.f_thing_in], c_points_by⟩
theorem points_loop (hp : Cut p) (hm : Men m) (q : Pl p m h) (m12 : m.den ≤ 12) : ∀ (k t : Nat) (o4 : Option D), t + k + 1 ≤ m.den → ∃ o4', forL (fun x env => bnd (lft (asgT (.n 4) x env)) fun env' => evSs pbT 1000000 b_points_by_1 env') ((List.range' t k).map fun j : Nat => PyData.int (j : Int)) [some (fr p), some (fr h), some (fr m), some (.list ((zs p m h (t + 1)).map fr)), o4] = ret (.nx [some (fr p), some (fr h), some (fr m), some (.list ((zs p m h (t + k + 1)).map fr)), o4'])
  | 0, t, o4, _ => ⟨o4, rfl⟩
  | k + 1, t, o4, le => by
    rw [List.range'_succ, List.map_cons]
    unfold forL
    have q1 : QB 42 (zz p m h (t : Int)) := ⟨zz_fb hp q m12 (by omega)⟩
    have q2 : QB 17 h := ⟨q.fb⟩
    have q3 : QB 1 p := ⟨hp.fb⟩
    have q4 : QB 4 ((bt m (t : Int) : Int) : Rat) := ⟨bt_fb hm (by omega) (by omega)⟩
    have th := ev_thing hm (j := (t : Int)) (by omega)
    have e : p * zz p m h (t : Int) + ((bt m (t : Int) : Rat) - h) = zz p m h ((t + 1 : Nat) : Int) := by
      rw [show ((t + 1 : Nat) : Int) = (t : Int) + 1 by push_cast; rfl, zz_rec hp.ok.p0 hp.ok.p1]
      grind
    obtain ⟨o4', r⟩ := points_loop hp hm q m12 k (t + 1) (some (.int (t : Int))) (by omega)
    have la : L2.atI ((zs p m h (t + 1)).map fr) (-1) = some (fr (zz p m h (t : Int))) := by
      rw [zs_succ, List.map_append]
      exact atI_last
    have lo : lenOk (t + 1 + 1) = true := lenOk_le (by omega)
    have zl := zs_len (p := p) (m := m) (h := h) (t + 1)
    have zsu := zs_succ (p := p) (m := m) (h := h) (t + 1)
    have body : (bnd (lft (asgT (.n 4) (.int (t : Int)) [some (fr p), some (fr h), some (fr m), some (.list ((zs p m h (t + 1)).map fr)), o4])) fun env' => evSs pbT 1000000 b_points_by_1 env') = ret (.nx [some (fr p), some (fr h), some (fr m), some (.list ((zs p m h (t + 1 + 1)).map fr)), some (.int (t : Int))]) := by
      rw [zsu]
      generalize zs p m h (t + 1) = ys at *
      simp [b_points_by_1, th, int_fr, la, e, zl, lo]
    rw [body, bnd_ret]
    exact ⟨o4', by rw [show t + (k + 1) + 1 = t + 1 + k + 1 by omega]; exact r⟩
theorem ev_pointsby (hp : Cut p) (hm : Men m) (q : Pl p m h) (m12 : m.den ≤ 12) : f_points_by.m [fr p, fr h, fr m] = ret (.list ((zs p m h m.den).map fr)) := by
  have dp := m.den_pos
  obtain ⟨o4, r⟩ := points_loop hp hm q m12 (m.den - 1) 0 none (by omega)
  rw [show 0 + (m.den - 1) + 1 = m.den by omega] at r
  have g : rngOk ((m.den : Int) - 1) = true := rngOk_le (by omega) (by omega)
  have e : rngD 0 ((m.den : Int) - 1) = (List.range' 0 (m.den - 1)).map fun j : Nat => PyData.int (j : Int) := by
    rw [show (m.den : Int) - 1 = ((m.den - 1 : Nat) : Int) by omega, rng_n]
  have f := ev_firstpoint hp hm q m12
  have z1 : (zs p m h (0 + 1)).map fr = [fr (zz p m h 0)] := rfl
  rw [z1] at r
  generalize zs p m h m.den = ys at *
  try simp at r
  simp [f_points_by, b_points_by, run, f, g, e, r]
theorem ev_pointsin (hp : Cut p) (hm : Men m) (q : Pl p m h) (m12 : m.den ≤ 12) : f_points_in.m [fr p, fr h] = ret (.list ((zs p m h m.den).map fr)) := by
  have q0 : QB 17 h := ⟨q.fb⟩
  have mi := ev_meanin hp q.i (n := 17) (by decide)
  have pb := ev_pointsby hp hm q m12
  generalize zs p m h m.den = ys at *
  simp [f_points_in, b_points_in, run, mi, pb]
/-! ### rounds at the points -/
theorem zs_idx (n : Nat) : (zs p m h n).zipIdx 0 = (List.range n).map fun j : Nat => (zz p m h (j : Int), j) := by
  refine List.ext_getElem? fun j => ?_
  rw [List.getElem?_zipIdx, List.getElem?_map]
  unfold zs
  rw [List.getElem?_map]
  by_cases c : j < n
  · rw [List.getElem?_range c]; simp
  · rw [List.getElem?_eq_none (by simp; omega)]; rfl
end
section
variable {l s p k m h : Rat}
/-- the level behind the cut of a phase -/
def bz (l s p k m h : Rat) (j : Int) : Rat := p * (l + s * zz p m h j) + k
/-- the levels of its round together -/
def rs (l s p k m h : Rat) (j : Int) : Rat := (bt m j : Rat) * bz l s p k m h j + s * (((bt m j : Rat) * ((bt m j : Rat) - 1)) * (1 / 2))
def wl (l s p k m h : Rat) : Nat → Rat
  | 0 => 0
  | t + 1 => wl l s p k m h t + rs l s p k m h (t : Int)
def BW (l s p k m h : Rat) : Nat := l.den * s.den * ZW p m h * p.den * k.den
theorem bz_dn (hp : Cut p) {j : Nat} (hj : j ≤ m.den) : Dn (BW l s p k m h) (bz l s p k m h (j : Int)) := by
  have a := (Dn.den s).mul (zz_dn hp m h hj)
  have b := (((Dn.den l).up (s.den * ZW p m h)).add (a.up' l.den))
  have c := (Dn.den p).mul b
  have d := (c.up k.den).add ((Dn.den k).up' (p.den * (l.den * (s.den * ZW p m h))))
  refine d.dvd ⟨1, ?_⟩
  unfold BW
  grind
theorem half_int (c : Int) : ∃ d : Int, (c : Rat) * ((c : Rat) - 1) * (1 / 2) = (d : Rat) := by
  refine ⟨c * (c - 1) / 2, ?_⟩
  have e : c * (c - 1) / 2 * 2 = c * (c - 1) := by
    have h1 := Int.emod_add_mul_ediv (c * (c - 1)) 2
    have h2 : c * (c - 1) % 2 = 0 := by
      rcases Int.emod_two_eq c with z | z
      · rw [Int.mul_emod, z, Int.zero_mul]; rfl
      · rw [Int.mul_emod, Int.sub_emod, z]; rfl
    omega
  have e' : ((c * (c - 1) / 2 : Int) : Rat) * 2 = (c : Rat) * ((c : Rat) - 1) := by
    have := congrArg (fun z : Int => (z : Rat)) e
    simp only [Rat.intCast_mul, Rat.intCast_sub, Rat.intCast_one] at this
    exact this
  rw [← e']
  grind
theorem rs_dn (hp : Cut p) {j : Nat} (hj : j ≤ m.den) : Dn (BW l s p k m h) (rs l s p k m h (j : Int)) := by
  have a := (Dn.int 1 (bt m (j : Int))).mul (bz_dn (l := l) (s := s) (k := k) (h := h) hp hj)
  rw [Nat.one_mul] at a
  obtain ⟨d, hd⟩ := half_int (bt m (j : Int))
  have b := (Dn.den s).mul (Dn.int 1 d)
  unfold rs
  rw [hd]
  refine a.add (b.dvd ?_)
  unfold BW
  exact ⟨l.den * ZW p m h * p.den * k.den, by grind⟩
theorem wl_dn (hp : Cut p) : ∀ t : Nat, t ≤ m.den → Dn (BW l s p k m h) (wl l s p k m h t)
  | 0, _ => by
    have := Dn.int (BW l s p k m h) 0
    exact this
  | t + 1, ht => (wl_dn hp t (by omega)).add (rs_dn hp (by omega))
theorem BW_pos (hp : Cut p) : 0 < BW l s p k m h := Nat.mul_pos (Nat.mul_pos (Nat.mul_pos (Nat.mul_pos l.den_pos s.den_pos) (ZW_pos hp m h)) p.den_pos) k.den_pos
theorem BW_le (hr : Rul2 l s p k h) (q : Pl p m h) (m12 : m.den ≤ 12) : BW l s p k m h < 10 ^ 75 := by
  have a := ZW_le hr.cut q.fb m12
  have b := hr.b.ld
  have c := hr.b.sd
  have d := hr.cut.d
  have e : k.den ≤ 10 ^ 30 := by have := hr.kb.b; unfold Bd at this; omega
  have := Nat.mul_le_mul (Nat.mul_le_mul (Nat.mul_le_mul (Nat.mul_le_mul b c) (show ZW p m h ≤ 10 ^ 41 by omega)) d) e
  unfold BW
  omega
theorem bz_in (hr : Rul2 l s p k h) (q : Pl p m h) (j : Int) : -300 ≤ bz l s p k m h j ∧ bz l s p k m h j ≤ 40 := by
  obtain ⟨z0, z1⟩ := zz_in (m := m) hr.cut.ok.p0 hr.cut.ok.p1 q.i.lo q.i.hi j
  have p0 := hr.cut.ok.p0
  have p1 := hr.cut.ok.p1
  have kk := hr.ok.kept
  have s0 := hr.ok.s0
  have e := hr.eqk
  have l0 := hr.b.l0
  have l1 := hr.b.l1
  have s9 := hr.b.s1
  have y12 := q.hi
  have a := Rat.mul_le_mul_of_nonneg_left z1 (Rat.le_of_lt s0)
  have b := Rat.mul_nonneg (Rat.le_of_lt s0) z0
  have c := Rat.mul_le_mul_of_nonneg_left a (Rat.le_of_lt p0)
  have d := Rat.mul_nonneg (Rat.le_of_lt p0) b
  have f : h * s ≤ 12 * s := Rat.mul_le_mul_of_nonneg_right y12 (Rat.le_of_lt s0)
  unfold bz
  constructor
  · have : p * (l + s * zz p m h j) + k = l - h * s + p * (s * zz p m h j) := by rw [e]; grind
    rw [this]
    grind
  · grind
theorem rs_in (hr : Rul2 l s p k h) (q : Pl p m h) (hm : Men m) {j : Int} (j0 : 0 ≤ j) (j1 : j ≤ 40) : -10000000 ≤ rs l s p k m h j ∧ rs l s p k m h j ≤ 10000000 := by
  obtain ⟨b0, b1⟩ := bz_in hr q j
  obtain ⟨c0, c1⟩ := bt_in hm j0 j1
  have d0 : (0 : Rat) ≤ (bt m j : Rat) := Rat.intCast_nonneg.mpr c0
  have d1 : (bt m j : Rat) ≤ ((1000 : Int) : Rat) := Rat.intCast_le_intCast.mpr c1
  have e1000 : ((1000 : Int) : Rat) = 1000 := rfl
  rw [e1000] at d1
  have s0 := hr.ok.s0
  have s9 := hr.b.s1
  unfold rs
  generalize (bt m j : Rat) = c at *
  generalize bz l s p k m h j = b at *
  have x1 := Rat.mul_le_mul_of_nonneg_left b1 d0
  have x2 := Rat.mul_le_mul_of_nonneg_left b0 d0
  have cc : c * c ≤ 1000 * c := Rat.mul_le_mul_of_nonneg_right d1 d0
  have y0 : 0 ≤ c * c := Rat.mul_nonneg d0 d0
  have u1 : c * (c - 1) * (1 / 2) ≤ 500000 := by grind
  have u2 : -500 ≤ c * (c - 1) * (1 / 2) := by grind
  generalize c * (c - 1) * (1 / 2) = u at *
  have v1 := Rat.mul_le_mul_of_nonneg_left u1 (Rat.le_of_lt s0)
  have v2 := Rat.mul_le_mul_of_nonneg_left u2 (Rat.le_of_lt s0)
  constructor <;> grind
theorem wl_in (hr : Rul2 l s p k h) (q : Pl p m h) (hm : Men m) : ∀ t : Nat, t ≤ 40 → -(t : Rat) * 10000000 ≤ wl l s p k m h t ∧ wl l s p k m h t ≤ (t : Rat) * 10000000
  | 0, _ => by unfold wl; rw [nc0]; constructor <;> grind
  | t + 1, ht => by
    obtain ⟨a, b⟩ := wl_in hr q hm t (by omega)
    obtain ⟨c, d⟩ := rs_in hr q hm (j := (t : Int)) (by omega) (by omega)
    unfold wl
    rw [Rat.natCast_add, nc1]
    constructor <;> grind
theorem wl_fb (hr : Rul2 l s p k h) (q : Pl p m h) (hm : Men m) (m12 : m.den ≤ 12) {t : Nat} (ht : t ≤ m.den) : FB 84 (wl l s p k m h t) := by
  obtain ⟨a, b⟩ := wl_in hr q hm t (by omega)
  have d := (wl_dn (l := l) (s := s) (k := k) (h := h) hr.cut t ht).le (BW_pos hr.cut)
  have w := BW_le hr q m12
  have t12 : (t : Rat) ≤ ((12 : Nat) : Rat) := Rat.natCast_le_natCast.mpr (by omega)
  have e12 : ((12 : Nat) : Rat) = 12 := rfl
  rw [e12] at t12
  have t0 : (0 : Rat) ≤ (t : Rat) := Rat.natCast_nonneg
  have eM : ((120000000 : Nat) : Rat) = 120000000 := rfl
  exact FB.of_den (a := 75) (b := 9) (M := 120000000) (by omega) (by rw [eM]; grind) (by rw [eM]; grind) (by decide)
theorem bz_fb (hr : Rul2 l s p k h) (q : Pl p m h) (m12 : m.den ≤ 12) {j : Nat} (hj : j ≤ m.den) : FB 78 (bz l s p k m h (j : Int)) := by
  obtain ⟨a, b⟩ := bz_in hr q (j : Int)
  have d := (bz_dn (l := l) (s := s) (k := k) (h := h) hr.cut hj).le (BW_pos hr.cut)
  have w := BW_le hr q m12
  have eM : ((300 : Nat) : Rat) = 300 := rfl
  exact FB.of_den (a := 75) (b := 3) (M := 300) (by omega) (by rw [eM]; exact a) (by rw [eM]; grind) (by decide)
theorem ev_behind (hr : Rul2 l s p k h) {n : Nat} {z : Rat} [q : QB n z] (hn : n ≤ 200) : f_behind_of.m [st l s p k, fr z] = ret (fr (p * (l + s * z) + k)) := by
  have q1 : QB 2 l := ⟨hr.b.lb⟩
  have q2 : QB 1 s := ⟨hr.b.sb⟩
  have q3 : QB 30 k := ⟨hr.kb⟩
  have q4 : QB 1 p := ⟨hr.cut.fb⟩
  have q5 : QB 200 z := ⟨q.h.mono hn⟩
  simp [f_behind_of, b_behind_of, run]
abbrev rowD (l s p k m h : Rat) (j : Nat) : D := .tuple [fr (bz l s p k m h (j : Int)), .int (bt m (j : Int))]
theorem ev_rows (hr : Rul2 l s p k h) (hm : Men m) (q : Pl p m h) (m12 : m.den ≤ 12) : f_rows_at.m [st l s p k] = ret (.list ((List.range m.den).map (rowD l s p k m h))) := by
  have := hr.ok
  have e := hr.eh
  have q0 : QB 17 h := ⟨q.fb⟩
  have mi := ev_meanin hr.cut q.i (n := 17) (by decide)
  have pi := ev_pointsin hr.cut hm q m12
  have lo : lenOk m.den = true := lenOk_le (by omega)
  have zi := zs_idx (p := p) (m := m) (h := h) m.den
  have lc : evE ⟨[Ev.C.f_height_in, Ev.C.f_mean_in, Ev.C.f_points_in, Ev.C.f_behind_of, Ev.C.f_thing_in], c_rows_at⟩ (.lc (.t (.cons (.n 4) (.cons (.n 5) .nil))) (.enum (.v 3)) .no e_rows_at_1) [some (st l s p k), some (fr h), some (fr m), some (.list ((zs p m h m.den).map fr)), none, none] = ret (.list ((List.range m.den).map (rowD l s p k m h))) := by
    rw [ev_lc]
    have it : evIt ⟨[Ev.C.f_height_in, Ev.C.f_mean_in, Ev.C.f_points_in, Ev.C.f_behind_of, Ev.C.f_thing_in], c_rows_at⟩ (.enum (.v 3)) [some (st l s p k), some (fr h), some (fr m), some (.list ((zs p m h m.den).map fr)), none, none] = ret ((List.range m.den).map fun j : Nat => PyData.tuple [.int (j : Int), fr (zz p m h (j : Int))]) := by
      have en := enumD_map fr (zs p m h m.den) 0
      rw [zi, List.map_map] at en
      generalize zs p m h m.den = ys at *
      simp [en]
      rfl
    rw [it, bnd_ret, lcL_ints (v := rowD l s p k m h) fun j hj => by
      have lj := List.mem_range.mp hj
      have q1 : QB 42 (zz p m h (j : Int)) := ⟨zz_fb hr.cut q m12 (by omega)⟩
      have bh := ev_behind hr (z := zz p m h (j : Int)) (n := 42) (by decide)
      have th := ev_thing hm (j := (j : Int)) (by omega)
      simp [isNo, e_rows_at_1, bh, th]
      rfl]
    simp [lo]
  generalize zs p m h m.den = ys at *
  simp [f_rows_at, b_rows_at, run, e]
  simp [st] at mi pi lc ⊢
  simp [mi, pi, lc]
theorem ev_lastof (hr : Rul2 l s p k h) {b : Rat} {c : Int} (hb : FB 78 b) (hc : 0 ≤ c ∧ c ≤ 1000) : f_last_of.m [st l s p k, .tuple [fr b, .int c]] = ret (fr (b + s * ((c - 1 : Int) : Rat))) := by
  have q1 : QB 78 b := ⟨hb⟩
  have q2 : QB 1 s := ⟨hr.b.sb⟩
  have q3 : QB 5 ((c - 1 : Int) : Rat) := ⟨fb_int (by unfold Bd; omega)⟩
  generalize hx : ((c - 1 : Int) : Rat) = x at *
  have e : (.tuple [.int (c - 1), .int 1] : D) = fr x := by rw [int_fr, hx]
  simp [f_last_of, b_last_of, run, e]
theorem half_div (c : Int) : Rat.divInt c 2 = (c : Rat) * (1 / 2) := by
  rw [Rat.divInt_eq_div, Rat.div_def, Rat.div_def]
  have : ((2 : Int) : Rat) = 2 := rfl
  rw [this]
  grind
theorem ev_sumof (hr : Rul2 l s p k h) {b : Rat} {c : Int} (hb : FB 78 b) (hc : 0 ≤ c ∧ c ≤ 1000) : f_sum_of.m [st l s p k, .tuple [fr b, .int c]] = ret (fr ((c : Rat) * b + s * ((c : Rat) * ((c : Rat) - 1) * (1 / 2)))) := by
  have la := ev_lastof hr hb hc
  have mk := F.made (a := c) (b := 2) (by decide) ((show Bd 1 2 by unfold Bd; decide).mono (by decide))
  have q1 : QB 78 b := ⟨hb⟩
  have fl : FB 90 (b + s * ((c - 1 : Int) : Rat)) := (hb.add (hr.b.sb.mul (fb_int (n := 5) (by unfold Bd; omega)))).mono (by decide)
  have q2 : QB 90 (b + s * ((c - 1 : Int) : Rat)) := ⟨fl⟩
  have q3 : QB 5 (Rat.divInt c 2) := ⟨sh_fb (by decide) (by unfold Bd; omega) (by unfold Bd; decide)⟩
  have e : (b + (b + s * ((c - 1 : Int) : Rat))) * Rat.divInt c 2 = (c : Rat) * b + s * ((c : Rat) * ((c : Rat) - 1) * (1 / 2)) := by
    rw [half_div, Rat.intCast_sub, Rat.intCast_one]
    grind
  generalize (c : Rat) * b + s * ((c : Rat) * ((c : Rat) - 1) * (1 / 2)) = w at *
  generalize b + s * ((c - 1 : Int) : Rat) = v at *
  generalize Rat.divInt c 2 = u at *
  simp [f_sum_of, b_sum_of, run, la, mk, e]
def sz (m : Rat) (t : Nat) : Int := -((-(t : Int) * m.num) / (m.den : Int))
theorem sz_0 (m : Rat) : sz m 0 = 0 := by unfold sz; simp
theorem sz_succ (m : Rat) (t : Nat) : sz m (t + 1) = sz m t + bt m (t : Int) := by
  unfold sz bt
  rw [show ((t + 1 : Nat) : Int) = (t : Int) + 1 by push_cast; rfl]
  omega
theorem sz_last (m : Rat) : sz m m.den = m.num := by
  have dp := den_pos' m
  unfold sz
  rw [Int.neg_mul, Int.neg_ediv_of_dvd ⟨m.num, rfl⟩, Int.mul_ediv_cancel_left _ (by omega)]
  omega
abbrev mlT : Tb := ⟨[Ev.C.f_rows_at, Ev.F.f_over_in, Ev.F.f_plus_in, Ev.C.f_sum_of], c_mean_of_levels⟩
theorem mean_loop2 (hr : Rul2 l s p k h) (hm : Men m) (q : Pl p m h) (m12 : m.den ≤ 12) : ∀ (n t : Nat) (o3 : Option D), t + n ≤ m.den → ∃ o3', forL (fun x env => bnd (lft (asgT (.n 3) x env)) fun env' => evSs mlT 1000000 b_mean_of_levels_1 env') ((List.range' t n).map (rowD l s p k m h)) [some (st l s p k), some (fr (wl l s p k m h t)), some (.int (sz m t)), o3] = ret (.nx [some (st l s p k), some (fr (wl l s p k m h (t + n))), some (.int (sz m (t + n))), o3'])
  | 0, t, o3, _ => ⟨o3, rfl⟩
  | n + 1, t, o3, le => by
    rw [List.range'_succ, List.map_cons]
    unfold forL
    have c := bt_in hm (j := (t : Int)) (by omega) (by omega)
    have so := ev_sumof hr (bz_fb (l := l) (s := s) (k := k) hr q m12 (j := t) (by omega)) c
    have e : wl l s p k m h t + ((bt m (t : Int) : Rat) * bz l s p k m h (t : Int) + s * ((bt m (t : Int) : Rat) * ((bt m (t : Int) : Rat) - 1) * (1 / 2))) = wl l s p k m h (t + 1) := rfl
    have q1 : QB 84 (wl l s p k m h t) := ⟨wl_fb hr q hm m12 (by omega)⟩
    have fr2 : FB 200 ((bt m (t : Int) : Rat) * bz l s p k m h (t : Int) + s * ((bt m (t : Int) : Rat) * ((bt m (t : Int) : Rat) - 1) * (1 / 2))) := by
      have f1 : FB 4 (bt m (t : Int) : Rat) := bt_fb hm (by omega) (by omega)
      exact ((f1.mul (bz_fb (l := l) (s := s) (k := k) hr q m12 (j := t) (by omega))).add (hr.b.sb.mul ((f1.mul (f1.sub fb_one)).mul (fb_lit 1 (q := 1 / 2) (by decide +kernel))))).mono (by decide)
    obtain ⟨o3', r⟩ := mean_loop2 hr hm q m12 n (t + 1) (some (rowD l s p k m h t)) (by omega)
    have body : (bnd (lft (asgT (.n 3) (rowD l s p k m h t) [some (st l s p k), some (fr (wl l s p k m h t)), some (.int (sz m t)), o3])) fun env' => evSs mlT 1000000 b_mean_of_levels_1 env') = ret (.nx [some (st l s p k), some (fr (wl l s p k m h (t + 1))), some (.int (sz m (t + 1))), some (rowD l s p k m h t)]) := by
      rw [← e, sz_succ]
      generalize (bt m (t : Int) : Rat) * bz l s p k m h (t : Int) + s * ((bt m (t : Int) : Rat) * ((bt m (t : Int) : Rat) - 1) * (1 / 2)) = v at *
      have q2 : QB 200 v := ⟨fr2⟩
      simp [b_mean_of_levels_1, so]
    rw [body, bnd_ret]
    exact ⟨o3', by rw [show t + (n + 1) = t + 1 + n by omega]; exact r⟩
theorem ev_mlevels (hr : Rul2 l s p k h) (hm : Men m) (q : Pl p m h) (m12 : m.den ≤ 12) : f_mean_of_levels.m [st l s p k] = ret (fr (wl l s p k m h m.den / (m.num : Rat))) := by
  have := hr.ok
  have rw_ := ev_rows hr hm q m12
  obtain ⟨o3, r⟩ := mean_loop2 hr hm q m12 m.den 0 none (by omega)
  rw [← List.range_eq_range', Nat.zero_add, sz_0, sz_last] at r
  have w0 : wl l s p k m h 0 = 0 := rfl
  rw [w0] at r
  have q1 : QB 84 (wl l s p k m h m.den) := ⟨wl_fb hr q hm m12 (Nat.le_refl _)⟩
  have ge := hm.ok.ge
  have dp := m.den_pos
  have n0 : ((m.num : Int) : Rat) ≠ 0 := by
    intro z
    rw [← Rat.intCast_zero, Rat.intCast_inj] at z
    omega
  have q2 : QB 3 ((m.num : Int) : Rat) := ⟨fb_int hm.fb.a⟩
  generalize (List.range m.den).map (rowD l s p k m h) = rows at *
  try simp at r
  generalize hv : ((m.num : Int) : Rat) = v at *
  have iv : (.tuple [.int m.num, .int 1] : D) = fr v := by rw [int_fr, hv]
  simp [f_mean_of_levels, b_mean_of_levels, run, rw_, r, iv, n0]
theorem ev_meanlevel (hr : Rul2 l s p k h) (hm : Men m) (q : Pl p m h) (m12 : m.den ≤ 12) : f_mean_level.m [st l s p k] = ret (fr (wl l s p k m h m.den / (m.num : Rat))) := by
  have := hr.ok
  have ml := ev_mlevels hr hm q m12
  simp [f_mean_level, b_mean_level, run, ml]
end
end Ev.C

end
section
set_option maxHeartbeats 4000000
/-! # EvP27: settings of a drawn mean -/
namespace Ev.C
open PySem
theorem ev_of {B : Nat} {ds : Option DS} {Q : D → Option DS → Prop} (xs : List D) (x0 : 0 < xs.length) (x1 : xs.length ≤ 1000) (h : DrB (B + 1) ds) (kk : ∀ (v : Nat) (hv : v < xs.length) ds', DrB B ds' → Q xs[v] ds') : wpR (f_u_law_of.m [.dict [], .list xs] ds) Q := by
  simp [f_u_law_of, b_u_law_of, run]
  rw [wp_bnd]
  refine L.drawN (b := B) h (by omega) (by omega) ?_
  intro v d1 hv h1
  have a := atI_lit (xs := xs) (n := v)
  rw [List.getElem?_eq_getElem (by omega)] at a
  simp [a]
  exact kk v (by omega) d1 h1
abbrev shs : List Rat := [0, 1, 1 / 2, 1 / 7, 5 / 6]
theorem shs_in : ∀ t ∈ shs, 0 ≤ t ∧ t ≤ 1 ∧ t.den ≤ 7 ∧ FB 1 t := by
  intro t ht
  have : t = 0 ∨ t = 1 ∨ t = 1 / 2 ∨ t = 1 / 7 ∨ t = 5 / 6 := by simpa [shs] using ht
  rcases this with rfl | rfl | rfl | rfl | rfl
  · exact ⟨by decide +kernel, by decide +kernel, by decide +kernel, fb_lit 1 (by decide +kernel)⟩
  · exact ⟨by decide +kernel, by decide +kernel, by decide +kernel, fb_lit 1 (by decide +kernel)⟩
  · exact ⟨by decide +kernel, by decide +kernel, by decide +kernel, fb_lit 1 (by decide +kernel)⟩
  · exact ⟨by decide +kernel, by decide +kernel, by decide +kernel, fb_lit 1 (by decide +kernel)⟩
  · exact ⟨by decide +kernel, by decide +kernel, by decide +kernel, fb_lit 1 (by decide +kernel)⟩
theorem sh0 : (PyData.tuple [.int 0, .int 1] : D) = fr 0 := lit_fr (by decide +kernel) (by decide +kernel)
theorem sh1 : (PyData.tuple [.int 1, .int 1] : D) = fr 1 := lit_fr (by decide +kernel) (by decide +kernel)
theorem sh12 : (PyData.tuple [.int 1, .int 2] : D) = fr (1 / 2) := lit_fr (by decide +kernel) (by decide +kernel)
theorem sh17 : (PyData.tuple [.int 1, .int 7] : D) = fr (1 / 7) := lit_fr (by decide +kernel) (by decide +kernel)
theorem sh56 : (PyData.tuple [.int 5, .int 6] : D) = fr (5 / 6) := lit_fr (by decide +kernel) (by decide +kernel)
theorem ev_known {B : Nat} {ds : Option DS} {Q : D → Option DS → Prop} {most : Nat} (m0 : 1 ≤ most) (m1 : most ≤ 12) (h : DrB (B + 9) ds) (kk : ∀ l s p k m x ds', Rul2 l s p k x → Pl p m x → Men m → m.den ≤ most → m ≤ 4 → DrB B ds' → Q (.tuple [st l s p k, fr m]) ds') : wpR (f_u_law_known.m [.dict [], .int (most : Int)] ds) Q := by
  simp [f_u_law_known, b_u_law_known, run]
  rw [wp_bnd]
  refine ev_lcut (B := B + 7) h ?_
  intro p d1 hp h1
  try simp
  rw [wp_bnd]
  refine ev_lpair (B := B + 5) m0 (by omega) h1 ?_
  intro m d2 hm md m4 h2
  have le := ev_lends hp hm
  simp [le]
  rw [sh12, sh17, sh56]
  rw [wp_bnd]
  refine ev_of (B := B + 4) [fr 0, fr 1, fr (1 / 2), fr (1 / 7), fr (5 / 6)] (by simp) (by simp) h2 ?_
  intro v hv d3 h3
  obtain ⟨t, te, tm⟩ : ∃ t, [fr 0, fr 1, fr (1 / 2), fr (1 / 7), fr (5 / 6)][v] = fr t ∧ t ∈ shs := by
    have : v = 0 ∨ v = 1 ∨ v = 2 ∨ v = 3 ∨ v = 4 := by simp at hv; omega
    rcases this with z | z | z | z | z <;> subst z
    · exact ⟨0, rfl, by simp [shs]⟩
    · exact ⟨1, rfl, by simp [shs]⟩
    · exact ⟨1 / 2, rfl, by simp [shs]⟩
    · exact ⟨1 / 7, rfl, by simp [shs]⟩
    · exact ⟨5 / 6, rfl, by simp [shs]⟩
  rw [te]
  obtain ⟨t0, t1, td, tb⟩ := shs_in t tm
  have b1 := HI_fb2 hp hm (by omega)
  have b2 := LO_fb2 hp hm (by omega)
  have q1 : QB 14 (HI p m) := ⟨b1⟩
  have q2 : QB 14 (LO p m) := ⟨b2⟩
  have q3 : QB 1 t := ⟨tb⟩
  have q4 : QB 1 p := ⟨hp.fb⟩
  have pl := pl_bt hp hm (by omega) t0 t1 (by omega)
  have e : LO p m + t * (HI p m - LO p m) = BT p m t := by unfold BT; grind
  simp [e]
  generalize BT p m t = x at *
  have q5 : QB 17 x := ⟨pl.fb⟩
  rw [wp_bnd]
  refine L.drawN (b := B + 3) h3 (by omega) (by omega) ?_
  intro v1 d4 u1 h4
  try simp
  rw [wp_bnd]
  refine L.drawN (b := B + 2) h4 (by omega) (by omega) ?_
  intro v2 d5 u2 h5
  have e1 := s_share (a := (v1 : Int) - 20) (b := 1 + (v2 : Int)) (n := 1) (by omega) (bd_lit (m := 5) (by omega) (by omega))
  simp [e1]
  rw [wp_bnd]
  refine L.drawN (b := B + 1) h5 (by omega) (by omega) ?_
  intro v3 d6 u3 h6
  try simp
  rw [wp_bnd]
  refine L.drawN (b := B) h6 (by omega) (by omega) ?_
  intro v4 d7 u4 h7
  have e2 := s_share (a := 1 + (v3 : Int)) (b := 1 + (v4 : Int)) (n := 1) (by omega) (bd_lit (m := 6) (by omega) (by omega))
  have l0 : ((-20 : Int) : Rat) ≤ Rat.divInt ((v1 : Int) - 20) (1 + (v2 : Int)) := (le_sh (by omega)).mpr (by omega)
  have l1 : Rat.divInt ((v1 : Int) - 20) (1 + (v2 : Int)) ≤ ((40 : Int) : Rat) := (sh_le (by omega)).mpr (by omega)
  have lb : FB 2 (Rat.divInt ((v1 : Int) - 20) (1 + (v2 : Int))) := sh_fb (by omega) (bd_lit (m := 40) (by omega) (by omega)) (bd_lit (m := 40) (by omega) (by omega))
  have ld := sh_den (a := (v1 : Int) - 20) (b := 1 + v2) (by omega)
  rw [show ((1 + v2 : Nat) : Int) = 1 + (v2 : Int) by push_cast; rfl] at ld
  have s0 : ((0 : Int) : Rat) < Rat.divInt (1 + (v3 : Int)) (1 + (v4 : Int)) := (lt_sh (by omega)).mpr (by omega)
  have s1 : Rat.divInt (1 + (v3 : Int)) (1 + (v4 : Int)) ≤ ((9 : Int) : Rat) := (sh_le (by omega)).mpr (by omega)
  have sb : FB 1 (Rat.divInt (1 + (v3 : Int)) (1 + (v4 : Int))) := sh_fb (by omega) (bd_lit (m := 9) (by omega) (by omega)) (bd_lit (m := 9) (by omega) (by omega))
  have sd := sh_den (a := 1 + (v3 : Int)) (b := 1 + v4) (by omega)
  rw [show ((1 + v4 : Nat) : Int) = 1 + (v4 : Int) by push_cast; rfl] at sd
  simp [e2]
  generalize Rat.divInt ((v1 : Int) - 20) (1 + (v2 : Int)) = l at *
  generalize Rat.divInt (1 + (v3 : Int)) (1 + (v4 : Int)) = s at *
  have q6 : QB 2 l := ⟨lb⟩
  have q7 : QB 1 s := ⟨sb⟩
  have s0' : 0 < s := by simpa using s0
  simp [sh1, st_eq]
  exact kk _ _ _ _ _ _ _ (rul2_mk hp pl.ok.le pl.fb (by decide) ⟨lb, sb, s0', by simpa using l0, by simpa using l1, by omega, by simpa using s1, by omega⟩) pl hm md m4 h7
end Ev.C

end
section
set_option maxHeartbeats 4000000
/-! # EvP28: rhythms: differences of ceilings -/
namespace Ev.Rh
open PySem Ev.C
theorem bez : ∀ (b a : Nat), Nat.gcd a b = 1 → ∃ x y : Int, x * (a : Int) + y * (b : Int) = 1 := by
  intro b
  induction b using Nat.strongRecOn with
  | ind b ih =>
    intro a g
    by_cases z : b = 0
    · subst z
      rw [Nat.gcd_zero_right] at g
      subst g
      exact ⟨1, 0, by simp⟩
    · have l := Nat.mod_lt a (Nat.pos_of_ne_zero z)
      obtain ⟨x, y, e⟩ := ih (a % b) l b (by rw [Nat.gcd_comm, ← Nat.gcd_rec, Nat.gcd_comm]; exact g)
      refine ⟨y, x - y * ((a / b : Nat) : Int), ?_⟩
      have dm := Nat.div_add_mod a b
      generalize a / b = q at *
      generalize a % b = r at *
      have e2 : (a : Int) = (b : Int) * (q : Int) + (r : Int) := by rw [← dm]; push_cast; rfl
      rw [e2]
      grind
section
variable {P Q : Int}
/-- ceilings of multiples -/
def cl (P Q x : Int) : Int := -((-x * P) / Q)
theorem cl_add (h : 0 < Q) (x c : Int) : cl P Q (x + c * Q) = cl P Q x + c * P := by
  unfold cl
  have e : -(x + c * Q) * P = -x * P + (-(c * P)) * Q := by grind
  rw [e, Int.add_mul_ediv_right _ _ (by omega)]
  omega
theorem fl_eq (h : 0 < Q) {a c : Int} (h1 : c * Q ≤ a) (h2 : a < (c + 1) * Q) : a / Q = c := by
  have g1 := (Int.le_ediv_iff_mul_le h).mpr h1
  have g2 := (Int.ediv_lt_iff_lt_mul h).mpr h2
  omega
theorem fl_le (h : 0 < Q) (a : Int) : a / Q * Q ≤ a ∧ a < (a / Q + 1) * Q := ⟨(Int.le_ediv_iff_mul_le h).mp (Int.le_refl _), (Int.ediv_lt_iff_lt_mul h).mp (by omega)⟩
theorem cl_eq (h : 0 < Q) {x c : Int} (h1 : (c - 1) * Q < x * P) (h2 : x * P ≤ c * Q) : cl P Q x = c := by
  unfold cl
  have := fl_eq (Q := Q) (a := -x * P) (c := -c) h (by grind) (by grind)
  omega
theorem cl_le (h : 0 < Q) (x : Int) : (cl P Q x - 1) * Q < x * P ∧ x * P ≤ cl P Q x * Q := by
  unfold cl
  have := fl_le h (-x * P)
  generalize -x * P / Q = c at *
  constructor <;> grind
/-- from the phase of one on, ceilings are floors -/
theorem cl_one (h : 1 < Q) {s d : Int} (e : s * P = 1 + d * Q) (k : Int) : cl P Q (s + k) = d + 1 + k * P / Q := by
  have a := fl_le (by omega : 0 < Q) (k * P)
  generalize k * P / Q = c at *
  exact cl_eq (by omega) (by grind) (by grind)
theorem cl_back (h : 0 < Q) (k : Int) : cl P Q (Q - k) = P - k * P / Q := by
  have a := fl_le h (k * P)
  generalize k * P / Q = c at *
  exact cl_eq h (by grind) (by grind)
end

/-- means of rhythms -/
structure Mr (m : Rat) : Prop where
  ok : MeanOk m
  n : m.num ≤ 10 ^ 25
section
variable {m l r : Rat}
theorem Mr.fb (h : Mr m) : FB 26 m := by
  have := h.ok.ge
  have := h.ok.d
  have := h.n
  exact ⟨by unfold Bd; omega, by unfold Bd; omega⟩

abbrev cm (m : Rat) (j : Int) : Int := cl m.num (m.den : Int) j
abbrev bm (m : Rat) (j : Int) : Int := cm m (j + 1) - cm m j
def bts (m : Rat) (n : Nat) : List Int := (List.range n).map fun j : Nat => bm m (j : Int)
@[simp] theorem bts_len (n : Nat) : (bts m n).length = n := by simp [bts]
theorem ev_upper (h : Mr m) {j : Int} (hj : j.natAbs ≤ 1000) : C.f_upper_in.m [fr m, .int j] = ret (.int (cm m j)) := by
  have m1 : mulOk (-j) m.num = true := mulOk_l (by omega)
  have d1 : divOk (-j * m.num) (m.den : Int) = true := divOk_bd h.fb.b
  have d2 : divOk (-(j * m.num)) (m.den : Int) = true := divOk_bd h.fb.b
  have d0 : m.den ≠ 0 := m.den_nz
  have fd : (-j * m.num).fdiv (m.den : Int) = -j * m.num / (m.den : Int) := Int.fdiv_eq_ediv_of_nonneg _ (by omega)
  have fd' : (-(j * m.num)).fdiv (m.den : Int) = -(j * m.num) / (m.den : Int) := Int.fdiv_eq_ediv_of_nonneg _ (by omega)
  simp [C.f_upper_in, C.b_upper_in, run, m1, d1, d2, d0, fd, fd', cm, cl]
theorem ev_thing (h : Mr m) {j : Int} (hj : j.natAbs ≤ 900) : C.f_thing_in.m [fr m, .int j] = ret (.int (bm m j)) := by
  have u1 := ev_upper h (j := j + 1) (by omega)
  have u2 := ev_upper h (j := j) (by omega)
  simp [C.f_thing_in, C.b_thing_in, run, u1, u2]
theorem rng_0 (n : Nat) : rngD 0 (n : Int) = (List.range n).map fun j : Nat => PyData.int (j : Int) := by
  rw [rng_map, show ((n : Int) - 0).toNat = n by omega]
  refine List.map_congr_left fun j _ => ?_
  rw [Int.zero_add]
theorem bm_per (m : Rat) (j : Int) : bm m (j + (m.den : Int)) = bm m j := by
  have dp := den_pos' m
  have a := cl_add (P := m.num) dp (j + 1) 1
  have b := cl_add (P := m.num) dp j 1
  rw [Int.one_mul, Int.one_mul] at a b
  show cm m (j + (m.den : Int) + 1) - cm m (j + (m.den : Int)) = cm m (j + 1) - cm m j
  rw [show j + (m.den : Int) + 1 = j + 1 + (m.den : Int) by omega]
  have a' : cm m (j + 1 + (m.den : Int)) = cm m (j + 1) + m.num := a
  have b' : cm m (j + (m.den : Int)) = cm m j + m.num := b
  omega
theorem bts_get (m : Rat) {n j : Nat} (h : j < n) : (bts m n)[j]? = some (bm m (j : Int)) := by
  unfold bts
  rw [List.getElem?_map, List.getElem?_range h]
  rfl
theorem rot_eq (m : Rat) {s : Nat} (hs : s < m.den) : (bts m m.den).drop s ++ (bts m m.den).take s = (List.range m.den).map fun j : Nat => bm m ((s : Int) + (j : Int)) := by
  refine List.ext_getElem? fun j => ?_
  rw [List.getElem?_map]
  by_cases c : j < m.den
  · rw [List.getElem?_range c]
    by_cases c2 : j < m.den - s
    · rw [List.getElem?_append_left (by simp; omega), List.getElem?_drop, bts_get m (by omega)]
      simp
    · rw [List.getElem?_append_right (by simp; omega), List.getElem?_take_of_lt (by simp; omega), bts_get m (by simp; omega)]
      have := bm_per m ((j - ((bts m m.den).drop s).length : Nat) : Int)
      rw [← this]
      simp
      have e : ((j - (m.den - s) : Nat) : Int) + (m.den : Int) = (s : Int) + (j : Int) := by omega
      rw [e]
  · rw [List.getElem?_eq_none (by simp; omega), List.getElem?_eq_none (by simp; omega)]
    rfl
theorem cm_0 (m : Rat) : cm m 0 = 0 := by
  show -((-0 * m.num) / (m.den : Int)) = 0
  simp
theorem cm_add (m : Rat) (x c : Int) : cm m (x + c * (m.den : Int)) = cm m x + c * m.num := cl_add (den_pos' m) x c
theorem cm_den (m : Rat) : cm m (m.den : Int) = m.num := by
  have := cm_add m 0 1
  rw [cm_0] at this
  simpa using this
theorem bts_sum (m : Rat) : ∀ n, (bts m n).sum = cm m (n : Int)
  | 0 => by rw [show ((0 : Nat) : Int) = 0 from rfl, cm_0]; rfl
  | n + 1 => by
    have ih := bts_sum m n
    unfold bts at ih ⊢
    rw [List.range_succ, List.map_append, List.sum_append, ih]
    simp [bm]
    omega
theorem cm_le (m : Rat) (x : Int) : (cm m x - 1) * (m.den : Int) < x * m.num ∧ x * m.num ≤ cm m x * (m.den : Int) := cl_le (den_pos' m) x
/-- each thing is the floor of the mean, or one more -/
theorem bm_two (m : Rat) (j : Int) : bm m j = m.num / (m.den : Int) ∨ bm m j = m.num / (m.den : Int) + 1 := by
  have dp := den_pos' m
  have a := cm_le m j
  have b := cm_le m (j + 1)
  have f := fl_le dp m.num
  show cm m (j + 1) - cm m j = _ ∨ cm m (j + 1) - cm m j = _
  generalize cm m (j + 1) = c' at *
  generalize cm m j = c at *
  generalize m.num / (m.den : Int) = q at *
  have e : (j + 1) * m.num = j * m.num + m.num := by rw [Int.add_mul, Int.one_mul]
  rw [e] at b
  have h1 : ¬ (c' - c ≤ q - 1) := fun z => by
    have := Int.mul_le_mul_of_nonneg_right z (Int.le_of_lt dp)
    have e1 : (c' - c) * (m.den : Int) = c' * (m.den : Int) - c * (m.den : Int) := by grind
    have e2 : (q - 1) * (m.den : Int) = q * (m.den : Int) - (m.den : Int) := by grind
    have e3 : (c - 1) * (m.den : Int) = c * (m.den : Int) - (m.den : Int) := by grind
    omega
  have h2 : ¬ (q + 2 ≤ c' - c) := fun z => by
    have := Int.mul_le_mul_of_nonneg_right z (Int.le_of_lt dp)
    have e1 : (c' - c) * (m.den : Int) = c' * (m.den : Int) - c * (m.den : Int) := by grind
    have e2 : (q + 2) * (m.den : Int) = (q + 1) * (m.den : Int) + (m.den : Int) := by grind
    have e3 : (c' - 1) * (m.den : Int) = c' * (m.den : Int) - (m.den : Int) := by grind
    omega
  omega
theorem bm_last (m : Rat) : bm m ((m.den : Int) - 1) = m.num / (m.den : Int) := by
  have a := cl_back (P := m.num) (den_pos' m) 1
  have b := cm_den m
  show cm m ((m.den : Int) - 1 + 1) - cm m ((m.den : Int) - 1) = _
  rw [show (m.den : Int) - 1 + 1 = (m.den : Int) by omega, b]
  have a' : cm m ((m.den : Int) - 1) = m.num - 1 * m.num / (m.den : Int) := a
  rw [a', Int.one_mul]
  omega
theorem num_mod (m : Rat) (h : m.den ≠ 1) : ¬ m.num / (m.den : Int) * (m.den : Int) = m.num := fun e => by
  have dv : (m.den : Int) ∣ m.num := ⟨m.num / (m.den : Int), by rw [Int.mul_comm]; exact e.symm⟩
  have : m.den ∣ m.num.natAbs := Int.ofNat_dvd_left.mp dv
  have g := Nat.dvd_gcd this (Nat.dvd_refl m.den)
  have r : Nat.gcd m.num.natAbs m.den = 1 := m.reduced
  rw [r] at g
  exact h (Nat.dvd_one.mp g)
theorem bm_first (m : Rat) (h : m.den ≠ 1) : bm m 0 = m.num / (m.den : Int) + 1 := by
  rcases bm_two m 0 with z | z
  · exfalso
    have b := cm_le m 1
    have f := fl_le (den_pos' m) m.num
    have e : bm m 0 = cm m 1 := by
      show cm m (0 + 1) - cm m 0 = _
      rw [cm_0, Int.zero_add]; omega
    rw [e] at z
    rw [z, Int.one_mul] at b
    exact num_mod m h (by omega)
  · exact z
/-- a turn that leaves the things as they are is a whole one -/
theorem no_turn (m : Rat) {s : Nat} (s0 : 0 < s) (s1 : s < m.den) (h : (bts m m.den).drop s ++ (bts m m.den).take s = bts m m.den) : False := by
  have dp := m.den_pos
  rw [rot_eq m s1] at h
  have per : ∀ j : Nat, bm m ((s : Int) + (j : Int)) = bm m (j : Int) := by
    have low : ∀ j : Nat, j < m.den → bm m ((s : Int) + (j : Int)) = bm m (j : Int) := fun j hj => by
      have e := congrArg (fun l => l[j]?) h
      simp only [List.getElem?_map, List.getElem?_range hj, Option.map_some] at e
      rw [bts_get m hj] at e
      exact Option.some.inj e
    have perk : ∀ (k : Nat) (x : Int), bm m (x + (k : Int) * (m.den : Int)) = bm m x := fun k => by
      induction k with
      | zero => intro x; simp
      | succ k ih =>
        intro x
        have e : x + ((k + 1 : Nat) : Int) * (m.den : Int) = x + (k : Int) * (m.den : Int) + (m.den : Int) := by push_cast; grind
        rw [e, bm_per, ih]
    intro j
    have dm := Nat.div_add_mod j m.den
    have ej : (j : Int) = ((j % m.den : Nat) : Int) + ((j / m.den : Nat) : Int) * (m.den : Int) := by
      have : (j : Int) = ((m.den * (j / m.den) + j % m.den : Nat) : Int) := by rw [dm]
      rw [this]; push_cast; grind
    rw [ej, ← Int.add_assoc, perk, perk]
    exact low _ (Nat.mod_lt _ dp)
  have shift : ∀ x : Nat, cm m ((s : Int) + (x : Int)) = cm m (s : Int) + cm m (x : Int) := fun x => by
    induction x with
    | zero => rw [show ((0 : Nat) : Int) = 0 from rfl, cm_0]; simp
    | succ x ih =>
      have p := per x
      have p' : cm m ((s : Int) + (x : Int) + 1) - cm m ((s : Int) + (x : Int)) = cm m ((x : Int) + 1) - cm m (x : Int) := p
      have e : (s : Int) + ((x + 1 : Nat) : Int) = (s : Int) + (x : Int) + 1 := by push_cast; omega
      have e2 : ((x + 1 : Nat) : Int) = (x : Int) + 1 := by push_cast; rfl
      rw [e, e2]
      omega
  have mul : ∀ n : Nat, cm m ((n * s : Nat) : Int) = (n : Int) * cm m (s : Int) := fun n => by
    induction n with
    | zero => simp [cm_0]
    | succ n ih =>
      have e : (((n + 1) * s : Nat) : Int) = (s : Int) + ((n * s : Nat) : Int) := by push_cast; grind
      rw [e, shift, ih]
      push_cast
      grind
  have e1 := mul m.den
  have e2 := cm_add m 0 (s : Int)
  rw [cm_0] at e2
  have e3 : ((m.den * s : Nat) : Int) = 0 + (s : Int) * (m.den : Int) := by push_cast; grind
  rw [e3, e2] at e1
  have dv : m.den ∣ s * m.num.natAbs := by
    have : (m.den : Int) ∣ (s : Int) * m.num := ⟨cm m (s : Int), by omega⟩
    have := Int.ofNat_dvd_left.mp this
    rwa [Int.natAbs_mul, Int.natAbs_natCast] at this
  have co : Nat.Coprime m.den m.num.natAbs := Nat.Coprime.symm m.reduced
  have := Nat.Coprime.dvd_of_dvd_mul_right co dv
  have := Nat.le_of_dvd s0 this
  omega
/-- the mean one greater -/
theorem bm_up (m : Rat) (j : Int) : bm (m + 1) j = bm m j + 1 := by
  have e : (m + 1).num = m.num + (m.den : Int) ∧ (m + 1).den = m.den := by
    exact mean_up m
  have c : ∀ x : Int, cm (m + 1) x = cm m x + x := fun x => by
    show -(-x * (m + 1).num / ((m + 1).den : Int)) = _
    rw [e.1, e.2]
    have : -x * (m.num + (m.den : Int)) = -x * m.num + (-x) * (m.den : Int) := by grind
    rw [this, Int.add_mul_ediv_right _ _ (by have := m.den_pos; omega)]
    show _ = -(-x * m.num / (m.den : Int)) + x
    omega
  show cm (m + 1) (j + 1) - cm (m + 1) j = cm m (j + 1) - cm m j + 1
  rw [c, c]
  omega
end
end Ev.Rh

end
section
set_option maxHeartbeats 8000000
namespace Ev.K34
open PySem PySem.Spec L2 Ev
def top (i : Nat) : Stmt := PySem.Challenge.pw_sawrounds_k34_whole_rhythms.main.body.getD i (.Pass ⟨0, 0, 0, 0⟩)
def d_u_law_begin : Df := ⟨"_law_begin", ["script"], [], ["script", "cells_so", "cell"], false, [], [], Ev.L.b_u_law_begin⟩
theorem k_u_law_begin : ckD d_u_law_begin (top 19) = true := by decide +kernel
def d_u_law_like : Df := ⟨"_law_like", ["got", "due"], [], ["got", "due"], false, [], [], Ev.L.b_u_law_like⟩
theorem k_u_law_like : ckD d_u_law_like (top 25) = true := by decide +kernel
def d_u_law_mixed : Df := ⟨"_law_mixed", ["cell", "k"], [], ["cell", "k"], false, [], [], Ev.L.b_u_law_mixed⟩
theorem k_u_law_mixed : ckD d_u_law_mixed (top 18) = true := by decide +kernel
def d_u_law_draw : Df := ⟨"_law_draw", ["draws_so", "limit"], [], ["draws_so", "limit", "at", "place", "left", "mixed"], false, [("_law_mixed", ["cell", "k"], [])], [], Ev.L.b_u_law_draw⟩
theorem k_u_law_draw : ckD d_u_law_draw (top 20) = true := by decide +kernel
def d_u_law_of : Df := ⟨"_law_of", ["draws_so", "some"], [], ["draws_so", "some"], false, [("_law_draw", ["draws_so", "limit"], [])], [], Ev.C.b_u_law_of⟩
theorem k_u_law_of : ckD d_u_law_of (top 21) = true := by decide +kernel
def d_upper_in : Df := ⟨"upper_in", ["mean", "count"], [], ["mean", "count"], false, [], [], Ev.C.b_upper_in⟩
theorem k_upper_in : ckD d_upper_in (top 12) = true := by decide +kernel
def d_thing_in : Df := ⟨"thing_in", ["mean", "place"], [], ["mean", "place"], false, [("upper_in", ["mean", "count"], [])], [], Ev.C.b_thing_in⟩
theorem k_thing_in : ckD d_thing_in (top 13) = true := by decide +kernel
def e_beat_in_1 : E := .call 0 (.cons (.v 0) (.cons (.v 1) .nil)) .nil
def b_beat_in : Ss := (.cons (.ret (.lc (.n 1) (.r1 (.ix (.v 0) (.k (.int 1)))) (.no) (e_beat_in_1))) .nil)
def d_beat_in : Df := ⟨"beat_in", ["mean"], [], ["mean", "place"], false, [("thing_in", ["mean", "place"], [])], [], b_beat_in⟩
def c_beat_in : List (Str × D) := []
def f_beat_in : Fn := ⟨"beat_in", ["mean"], [], run ⟨[Ev.C.f_thing_in], c_beat_in⟩ 1000000 2 b_beat_in⟩
@[simp] theorem p_beat_in : f_beat_in.ps.length = 1 := (rfl)
theorem k_beat_in : ckD d_beat_in (top 14) = true := by decide +kernel
def d_is_from : Df := ⟨"is_from", ["value", "low", "high"], [], ["value", "low", "high"], false, [], [], Ev.C.b_is_from⟩
theorem k_is_from : ckD d_is_from (top 6) = true := by decide +kernel
def d_is_fraction : Df := ⟨"is_fraction", ["value"], [], ["value"], true, [("is_from", ["value", "low", "high"], [])], ["MOST"], Ev.C.b_is_fraction⟩
theorem k_is_fraction : ckD d_is_fraction (top 7) = true := by decide +kernel
def d_is_mean_form : Df := ⟨"is_mean_form", ["value"], [], ["value"], false, [("is_fraction", ["value"], [])], ["MOST_BELOW"], Ev.C.b_is_mean_form⟩
theorem k_is_mean_form : ckD d_is_mean_form (top 10) = true := by decide +kernel
def d_check_mean : Df := ⟨"check_mean", ["value"], [], ["value"], false, [("is_mean_form", ["value"], [])], [], Ev.C.b_check_mean⟩
theorem k_check_mean : ckD d_check_mean (top 11) = true := by decide +kernel
def b_rhythm_of : Ss := (.cons (.ret (.bi .tuple (.cons (.call 0 (.cons (.call 1 (.cons (.v 0) .nil) .nil) .nil) .nil) .nil))) .nil)
def d_rhythm_of : Df := ⟨"rhythm_of", ["mean"], [(0, [0])], ["mean"], false, [("beat_in", ["mean"], []), ("check_mean", ["value"], [])], [], b_rhythm_of⟩
def c_rhythm_of : List (Str × D) := []
def f_rhythm_of : Fn := ⟨"rhythm_of", ["mean"], [(0, [0])], run ⟨[f_beat_in, Ev.C.f_check_mean], c_rhythm_of⟩ 1000000 1 b_rhythm_of⟩
@[simp] theorem p_rhythm_of : f_rhythm_of.ps.length = 1 := (rfl)
theorem k_rhythm_of : ckD d_rhythm_of (top 16) = true := by decide +kernel
def b_need_mean : Ss := (.cons (.ret (.call 0 (.cons (.v 0) .nil) .nil)) .nil)
def d_need_mean : Df := ⟨"need_mean", ["mean"], [(0, [0])], ["mean"], false, [("check_mean", ["value"], [])], [], b_need_mean⟩
def c_need_mean : List (Str × D) := []
def f_need_mean : Fn := ⟨"need_mean", ["mean"], [(0, [0])], run ⟨[Ev.C.f_check_mean], c_need_mean⟩ 1000000 1 b_need_mean⟩
@[simp] theorem p_need_mean : f_need_mean.ps.length = 1 := (rfl)
theorem k_need_mean : ckD d_need_mean (top 15) = true := by decide +kernel
def e_u_law_beat_1 : E := .neg (.bin .fdiv (.bin .mul (.neg (.v 4)) (.v 1)) (.v 2))
def e_u_law_beat_2 : E := .bin .sub (.v 6) (.v 5)
def b_u_law_beat : Ss := (.cons (.asg (.t (.cons (.n 1) (.cons (.n 2) .nil))) (.v 0)) (.cons (.asg (.n 3) (.lc (.n 4) (.r1 (.bin .add (.v 2) (.k (.int 1)))) (.no) (e_u_law_beat_1))) (.cons (.ret (.lc (.t (.cons (.n 5) (.cons (.n 6) .nil))) (.zip (.v 3) (.sl (.v 3) (.k (.int 1)) (.no))) (.no) (e_u_law_beat_2))) .nil)))
def d_u_law_beat : Df := ⟨"_law_beat", ["pair_so"], [], ["pair_so", "above", "below", "tops", "step", "near", "beyond"], false, [], [], b_u_law_beat⟩
def c_u_law_beat : List (Str × D) := []
def f_u_law_beat : Fn := ⟨"_law_beat", ["pair_so"], [], run ⟨[], c_u_law_beat⟩ 1000000 7 b_u_law_beat⟩
@[simp] theorem p_u_law_beat : f_u_law_beat.ps.length = 1 := (rfl)
theorem k_u_law_beat : ckD d_u_law_beat (top 24) = true := by decide +kernel
def b_u_law_right_1 : Ss := (.cons (.ife (.and (.cmp .eq (.bin .mod (.v 2) (.v 5)) (.k (.int 0))) (.cons (.cmp .eq (.bin .add (.sl (.v 3) (.v 5) (.no)) (.sl (.v 3) (.no) (.v 5))) (.v 3)) .nil)) (.cons (.ret (.k (.bool false))) .nil) .nil) .nil)
def e_u_law_right_2 : E := .bin .add (.v 6) (.k (.int 1))
def b_u_law_right : Ss := (.cons (.asg (.t (.cons (.n 1) (.cons (.n 2) .nil))) (.v 0)) (.cons (.asg (.n 3) (.bi .tuple (.cons (.call 1 (.cons (.v 0) .nil) .nil) .nil))) (.cons (.ife (.not (.call 0 (.cons (.lst (.cons (.call 2 (.cons (.v 0) .nil) .nil) (.cons (.call 3 (.cons (.v 0) .nil) .nil) .nil))) (.cons (.lst (.cons (.v 3) (.cons (.v 0) .nil))) .nil)) .nil)) (.cons (.ret (.k (.bool false))) .nil) .nil) (.cons (.asg (.n 4) (.bin .fdiv (.v 1) (.v 2))) (.cons (.ife (.or (.cmp .ne (.bi .sum (.cons (.v 3) .nil)) (.v 1)) (.cons (.cmp .ne (.sset (.v 3)) (.ife (.cmp .eq (.v 2) (.k (.int 1))) (.lst (.cons (.v 4) .nil)) (.lst (.cons (.v 4) (.cons (.bin .add (.v 4) (.k (.int 1))) .nil))))) .nil)) (.cons (.ret (.k (.bool false))) .nil) .nil) (.cons (.for_ (.n 5) (.r2 (.k (.int 1)) (.v 2)) b_u_law_right_1) (.cons (.ret (.call 0 (.cons (.call 2 (.cons (.tup (.cons (.bin .add (.v 1) (.v 2)) (.cons (.v 2) .nil))) .nil) .nil) (.cons (.bi .tuple (.cons (.lc (.n 6) (.e (.v 3)) (.no) (e_u_law_right_2)) .nil)) .nil)) .nil)) .nil)))))))
def d_u_law_right : Df := ⟨"_law_right", ["pair_so"], [], ["pair_so", "above", "below", "due", "low", "step", "one"], false, [("_law_like", ["got", "due"], []), ("_law_beat", ["pair_so"], []), ("rhythm_of", ["mean"], [(0, [0])]), ("need_mean", ["mean"], [(0, [0])])], [], b_u_law_right⟩
def c_u_law_right : List (Str × D) := []
def f_u_law_right : Fn := ⟨"_law_right", ["pair_so"], [], run ⟨[Ev.L.f_u_law_like, f_u_law_beat, f_rhythm_of, f_need_mean], c_u_law_right⟩ 1000000 7 b_u_law_right⟩
@[simp] theorem p_u_law_right : f_u_law_right.ps.length = 1 := (rfl)
theorem k_u_law_right : ckD d_u_law_right (top 26) = true := by decide +kernel
def d_u_law_divisor : Df := ⟨"_law_divisor", ["one", "two"], [], ["one", "two", "step"], false, [], [], Ev.L.b_u_law_divisor⟩
theorem k_u_law_divisor : ckD d_u_law_divisor (top 22) = true := by decide +kernel
def d_u_law_share : Df := ⟨"_law_share", ["above", "below"], [], ["above", "below", "told"], false, [("_law_divisor", ["one", "two"], [])], [], Ev.L.b_u_law_share⟩
theorem k_u_law_share : ckD d_u_law_share (top 23) = true := by decide +kernel
def b_law_1 : Ss := (.cons (.ife (.and (.cmp .eq (.call 8 (.cons (.v 3) (.cons (.v 2) .nil)) .nil) (.k (.int 1))) (.cons (.not (.call 6 (.cons (.tup (.cons (.v 3) (.cons (.v 2) .nil))) .nil) .nil)) .nil)) (.cons (.ret (.k (.bool false))) .nil) .nil) .nil)
def b_law_2 : Ss := (.cons (.for_ (.n 3) (.r2 (.v 2) (.bin .add (.bin .mul (.k (.int 3)) (.v 2)) (.k (.int 1)))) b_law_1) .nil)
def b_law_3 : Ss := (.cons (.asg (.n 2) (.bin .add (.k (.int 1)) (.call 5 (.cons (.v 1) (.cons (.k (.int 300)) .nil)) .nil))) (.cons (.asg (.n 5) (.call 2 (.cons (.v 1) (.cons (.lst (.cons (.k (.int 10)) (.cons (.k (.int 1000)) (.cons (.bin .pow (.k (.int 10)) (.k (.int 6))) (.cons (.bin .pow (.k (.int 10)) (.k (.int 24))) .nil))))) .nil)) .nil)) (.cons (.ife (.not (.call 6 (.cons (.call 7 (.cons (.bin .add (.v 2) (.call 5 (.cons (.v 1) (.cons (.v 5) .nil)) .nil)) (.cons (.v 2) .nil)) .nil) .nil) .nil)) (.cons (.ret (.k (.bool false))) .nil) .nil) .nil)))
def b_law : Ss := (.cons (.asg (.n 1) (.call 0 (.cons (.v 0) .nil) .nil)) (.cons (.for_ (.n 2) (.r2 (.k (.int 1)) (.k (.int 10))) b_law_2) (.cons (.for_ (.n 4) (.r1 (.k (.int 4))) b_law_3) (.cons (.asg (.n 6) (.lst (.cons (.call 3 .nil (.cons 0 (.tup (.cons (.k (.int 10)) (.cons (.k (.int 3)) .nil))) .nil)) (.cons (.call 3 (.cons (.tup (.cons (.k (.int 7)) (.cons (.k (.int 2)) .nil))) .nil) .nil) (.cons (.call 3 (.cons (.tup (.cons (.k (.int 1)) (.cons (.k (.int 1)) .nil))) .nil) .nil) (.cons (.call 4 .nil (.cons 0 (.tup (.cons (.k (.int 7)) (.cons (.k (.int 5)) .nil))) .nil)) .nil)))))) (.cons (.ret (.call 1 (.cons (.v 6) (.cons (.lst (.cons (.tup (.cons (.k (.int 4)) (.cons (.k (.int 3)) (.cons (.k (.int 3)) .nil)))) (.cons (.tup (.cons (.k (.int 4)) (.cons (.k (.int 3)) .nil))) (.cons (.tup (.cons (.k (.int 1)) .nil)) (.cons (.tup (.cons (.k (.int 7)) (.cons (.k (.int 5)) .nil))) .nil))))) .nil)) .nil)) .nil)))))
def d_law : Df := ⟨"law", ["script"], [], ["script", "draws_so", "below", "above", "turn", "top", "got"], false, [("_law_begin", ["script"], []), ("_law_like", ["got", "due"], []), ("_law_of", ["draws_so", "some"], []), ("rhythm_of", ["mean"], [(0, [0])]), ("need_mean", ["mean"], [(0, [0])]), ("_law_draw", ["draws_so", "limit"], []), ("_law_right", ["pair_so"], []), ("_law_share", ["above", "below"], []), ("_law_divisor", ["one", "two"], [])], [], b_law⟩
def c_law : List (Str × D) := []
def f_law : Fn := ⟨"law", ["script"], [], run ⟨[Ev.L.f_u_law_begin, Ev.L.f_u_law_like, Ev.C.f_u_law_of, f_rhythm_of, f_need_mean, Ev.L.f_u_law_draw, f_u_law_right, Ev.L.f_u_law_share, Ev.L.f_u_law_divisor], c_law⟩ 1000000 7 b_law⟩
@[simp] theorem p_law : f_law.ps.length = 1 := (rfl)
theorem k_law : ckD d_law (top 27) = true := by decide +kernel
theorem bi_u_law_begin {K : PySem.W.Frag} {f : Addr} {fd : FuncData} (F : Fun K "_law_begin" "_law_begin" (top 19) f fd) : FnB K fd Ev.L.f_u_law_begin := fnB_of F (fun _ _ _ _ _ _ us hl => match us, hl with | [_], _ => rfl) (by
  intro n js h
  cases h)
theorem bi_u_law_like {K : PySem.W.Frag} {f : Addr} {fd : FuncData} (F : Fun K "_law_like" "_law_like" (top 25) f fd) : FnB K fd Ev.L.f_u_law_like := fnB_of F (fun _ _ _ _ _ _ us hl => match us, hl with | [_, _], _ => rfl) (by
  intro n js h
  cases h)
theorem bi_u_law_mixed {K : PySem.W.Frag} {f : Addr} {fd : FuncData} (F : Fun K "_law_mixed" "_law_mixed" (top 18) f fd) : FnB K fd Ev.L.f_u_law_mixed := fnB_of F (fun _ _ _ _ _ _ us hl => match us, hl with | [_, _], _ => rfl) (by
  intro n js h
  cases h)
theorem bi_u_law_draw {K : PySem.W.Frag} {f : Addr} {fd : FuncData} (F : Fun K "_law_draw" "_law_draw" (top 20) f fd) : FnB K fd Ev.L.f_u_law_draw := fnB_of F (fun _ _ _ _ _ _ us hl => match us, hl with | [_, _], _ => rfl) (by
  intro n js h
  cases h)
theorem bi_u_law_of {K : PySem.W.Frag} {f : Addr} {fd : FuncData} (F : Fun K "_law_of" "_law_of" (top 21) f fd) : FnB K fd Ev.C.f_u_law_of := fnB_of F (fun _ _ _ _ _ _ us hl => match us, hl with | [_, _], _ => rfl) (by
  intro n js h
  cases h)
theorem bi_upper_in {K : PySem.W.Frag} {f : Addr} {fd : FuncData} (F : Fun K "upper_in" "upper_in" (top 12) f fd) : FnB K fd Ev.C.f_upper_in := fnB_of F (fun _ _ _ _ _ _ us hl => match us, hl with | [_, _], _ => rfl) (by
  intro n js h
  cases h)
theorem bi_thing_in {K : PySem.W.Frag} {f : Addr} {fd : FuncData} (F : Fun K "thing_in" "thing_in" (top 13) f fd) : FnB K fd Ev.C.f_thing_in := fnB_of F (fun _ _ _ _ _ _ us hl => match us, hl with | [_, _], _ => rfl) (by
  intro n js h
  cases h)
theorem bi_beat_in {K : PySem.W.Frag} {f : Addr} {fd : FuncData} (F : Fun K "beat_in" "beat_in" (top 14) f fd) : FnB K fd f_beat_in := fnB_of F (fun _ _ _ _ _ _ us hl => match us, hl with | [_], _ => rfl) (by
  intro n js h
  cases h)
theorem bi_is_from {K : PySem.W.Frag} {f : Addr} {fd : FuncData} (F : Fun K "is_from" "is_from" (top 6) f fd) : FnB K fd Ev.C.f_is_from := fnB_of F (fun _ _ _ _ _ _ us hl => match us, hl with | [_, _, _], _ => rfl) (by
  intro n js h
  cases h)
theorem bi_is_fraction {K : PySem.W.Frag} {f : Addr} {fd : FuncData} (F : Fun K "is_fraction" "is_fraction" (top 7) f fd) : FnB K fd Ev.C.f_is_fraction := fnB_of F (fun _ _ _ _ _ _ us hl => match us, hl with | [_], _ => rfl) (by
  intro n js h
  cases h)
theorem bi_is_mean_form {K : PySem.W.Frag} {f : Addr} {fd : FuncData} (F : Fun K "is_mean_form" "is_mean_form" (top 10) f fd) : FnB K fd Ev.C.f_is_mean_form := fnB_of F (fun _ _ _ _ _ _ us hl => match us, hl with | [_], _ => rfl) (by
  intro n js h
  cases h)
theorem bi_check_mean {K : PySem.W.Frag} {f : Addr} {fd : FuncData} (F : Fun K "check_mean" "check_mean" (top 11) f fd) : FnB K fd Ev.C.f_check_mean := fnB_of F (fun _ _ _ _ _ _ us hl => match us, hl with | [_], _ => rfl) (by
  intro n js h
  cases h)
theorem bi_rhythm_of {K : PySem.W.Frag} {f : Addr} {fd : FuncData} (F : Fun K "rhythm_of" "rhythm_of" (top 16) f fd) : FnB K fd f_rhythm_of := fnB_of F (fun _ _ _ _ _ _ us hl => match us, hl with | [_], _ => rfl) (by
  intro n js h
  cases h
  case head =>
    intro kV doc pm an cdv ct us ws as l1 l2 e
    match us, ws, l1, l2, e with
    | [], [w0], _, _, e =>
      have e2 : some [w0] = some as := e
      cases e2
      rfl
  rename_i h
  cases h)
theorem bi_need_mean {K : PySem.W.Frag} {f : Addr} {fd : FuncData} (F : Fun K "need_mean" "need_mean" (top 15) f fd) : FnB K fd f_need_mean := fnB_of F (fun _ _ _ _ _ _ us hl => match us, hl with | [_], _ => rfl) (by
  intro n js h
  cases h
  case head =>
    intro kV doc pm an cdv ct us ws as l1 l2 e
    match us, ws, l1, l2, e with
    | [], [w0], _, _, e =>
      have e2 : some [w0] = some as := e
      cases e2
      rfl
  rename_i h
  cases h)
theorem bi_u_law_beat {K : PySem.W.Frag} {f : Addr} {fd : FuncData} (F : Fun K "_law_beat" "_law_beat" (top 24) f fd) : FnB K fd f_u_law_beat := fnB_of F (fun _ _ _ _ _ _ us hl => match us, hl with | [_], _ => rfl) (by
  intro n js h
  cases h)
theorem bi_u_law_right {K : PySem.W.Frag} {f : Addr} {fd : FuncData} (F : Fun K "_law_right" "_law_right" (top 26) f fd) : FnB K fd f_u_law_right := fnB_of F (fun _ _ _ _ _ _ us hl => match us, hl with | [_], _ => rfl) (by
  intro n js h
  cases h)
theorem bi_u_law_divisor {K : PySem.W.Frag} {f : Addr} {fd : FuncData} (F : Fun K "_law_divisor" "_law_divisor" (top 22) f fd) : FnB K fd Ev.L.f_u_law_divisor := fnB_of F (fun _ _ _ _ _ _ us hl => match us, hl with | [_, _], _ => rfl) (by
  intro n js h
  cases h)
theorem bi_u_law_share {K : PySem.W.Frag} {f : Addr} {fd : FuncData} (F : Fun K "_law_share" "_law_share" (top 23) f fd) : FnB K fd Ev.L.f_u_law_share := fnB_of F (fun _ _ _ _ _ _ us hl => match us, hl with | [_, _], _ => rfl) (by
  intro n js h
  cases h)
theorem bi_law {K : PySem.W.Frag} {f : Addr} {fd : FuncData} (F : Fun K "law" "law" (top 27) f fd) : FnB K fd f_law := fnB_of F (fun _ _ _ _ _ _ us hl => match us, hl with | [_], _ => rfl) (by
  intro n js h
  cases h)
end Ev.K34

end
section
set_option maxHeartbeats 4000000
/-! # k34: the mathematics -/
namespace Ev.K34
open PySem Ev.C Ev.Rh
section
variable {m : Rat}
theorem ev_beatin (h : Mr m) : f_beat_in.m [fr m] = ret (.list ((bts m m.den).map .int)) := by
  have hd := h.ok.d
  have g : rngOk (m.den : Int) = true := rngOk_le (by omega) (by omega)
  have lo : lenOk m.den = true := lenOk_le (by omega)
  simp [f_beat_in, b_beat_in, run]
  rw [ev_lc]
  have it : evIt ⟨[C.f_thing_in], c_beat_in⟩ (.r1 (.ix (.v 0) (.k (.int 1)))) [some (fr m), none] = ret ((List.range m.den).map fun j : Nat => PyData.int (j : Int)) := by
    simp [g, rng_0]
  rw [it, bnd_ret, lcL_ints (v := fun j : Nat => PyData.int (bm m (j : Int))) fun j hj => by
    have := ev_thing h (j := (j : Int)) (by have := List.mem_range.mp hj; omega)
    simp [isNo, e_beat_in_1, this]]
  simp [bts, lo, Function.comp_def]
theorem ev_rhythm (h : Mr m) : f_rhythm_of.m [fr m] = ret (.tuple ((bts m m.den).map .int)) := by
  have := h.ok
  have b := ev_beatin h
  generalize bts m m.den = xs at *
  simp [f_rhythm_of, b_rhythm_of, run, b]
theorem ev_lawbeat (h : Mr m) : f_u_law_beat.m [fr m] = ret (.list ((bts m m.den).map .int)) := by
  have hd := h.ok.d
  have d0 : m.den ≠ 0 := m.den_nz
  have g : rngOk ((m.den : Int) + 1) = true := rngOk_le (by omega) (by omega)
  have lo : lenOk (m.den + 1) = true := lenOk_le (by omega)
  have lo2 : lenOk m.den = true := lenOk_le (by omega)
  have l1 : evE ⟨[], c_u_law_beat⟩ (.lc (.n 4) (.r1 (.bin .add (.v 2) (.k (.int 1)))) .no e_u_law_beat_1) [some (fr m), some (.int m.num), some (.int (m.den : Int)), none, none, none, none] = ret (.list (((List.range (m.den + 1)).map fun j : Nat => cm m (j : Int)).map .int)) := by
    rw [ev_lc]
    have it : evIt ⟨[], c_u_law_beat⟩ (.r1 (.bin .add (.v 2) (.k (.int 1)))) [some (fr m), some (.int m.num), some (.int (m.den : Int)), none, none, none, none] = ret ((List.range (m.den + 1)).map fun j : Nat => PyData.int (j : Int)) := by
      have e : rngD 0 ((m.den : Int) + 1) = (List.range (m.den + 1)).map fun j : Nat => PyData.int (j : Int) := rng_0 (m.den + 1)
      simp [g, e]
    rw [it, bnd_ret, lcL_ints (v := fun j : Nat => PyData.int (cm m (j : Int))) fun j hj => by
      have lj := List.mem_range.mp hj
      have m1 : mulOk (-(j : Int)) m.num = true := mulOk_l (by omega)
      have d2 : divOk (-(j : Int) * m.num) (m.den : Int) = true := divOk_bd h.fb.b
      have fd' : (-(j : Int) * m.num).fdiv (m.den : Int) = -(j : Int) * m.num / (m.den : Int) := Int.fdiv_eq_ediv_of_nonneg _ (by omega)
      simp [isNo, e_u_law_beat_1, m1, d2, d0, fd', cm, cl]]
    simp [lo, Function.comp_def]
  have z : zipD (((List.range (m.den + 1)).map fun j : Nat => cm m (j : Int)).map PyData.int) ((((List.range (m.den + 1)).map fun j : Nat => cm m (j : Int)).map PyData.int).drop 1) = (List.range m.den).map fun j : Nat => PyData.tuple [.int (cm m (j : Int)), .int (cm m ((j : Int) + 1))] := by
    refine List.ext_getElem? fun i => ?_
    rw [← List.map_drop, zipD_map]
    simp only [List.getElem?_map, List.getElem?_zip_eq_some, List.zip_eq_zipWith, List.getElem?_zipWith, List.getElem?_drop, List.getElem?_range]
    by_cases c : i < m.den
    · simp [c, show i < m.den + 1 by omega, show 1 + i < m.den + 1 by omega, Int.add_comm]
    · simp [c, show ¬ (1 + i < m.den + 1) by omega]
  have l2 : evE ⟨[], c_u_law_beat⟩ (.lc (.t (.cons (.n 5) (.cons (.n 6) .nil))) (.zip (.v 3) (.sl (.v 3) (.k (.int 1)) .no)) .no e_u_law_beat_2) [some (fr m), some (.int m.num), some (.int (m.den : Int)), some (.list (((List.range (m.den + 1)).map fun j : Nat => cm m (j : Int)).map .int)), none, none, none] = ret (.list ((bts m m.den).map .int)) := by
    rw [ev_lc]
    have it : evIt ⟨[], c_u_law_beat⟩ (.zip (.v 3) (.sl (.v 3) (.k (.int 1)) .no)) [some (fr m), some (.int m.num), some (.int (m.den : Int)), some (.list (((List.range (m.den + 1)).map fun j : Nat => cm m (j : Int)).map .int)), none, none, none] = ret ((List.range m.den).map fun j : Nat => PyData.tuple [.int (cm m (j : Int)), .int (cm m ((j : Int) + 1))]) := by
      rw [← z]
      generalize ((List.range (m.den + 1)).map fun j : Nat => cm m (j : Int)).map PyData.int = ys
      have c1 := cutA_drop ys 1
      rw [ev_zip]
      simp [isNo] at c1 ⊢
      simp [c1]
    rw [it, bnd_ret, lcL_ints (v := fun j : Nat => PyData.int (bm m (j : Int))) fun j hj => by
      simp [isNo, e_u_law_beat_2]]
    simp [bts, lo2, Function.comp_def]
  simp [f_u_law_beat, b_u_law_beat, run, l1, l2, -List.map_map]
theorem ev_need (h : Mr m) : f_need_mean.m [fr m] = ret (fr m) := by
  have := h.ok
  simp [f_need_mean, b_need_mean, run]
theorem dd_bts (m : Rat) : dd (bts m m.den) = if m.den = 1 then [m.num / (m.den : Int)] else [m.num / (m.den : Int), m.num / (m.den : Int) + 1] := by
  have dp := m.den_pos
  have last : m.num / (m.den : Int) ∈ bts m m.den := by
    have e := bm_last m
    have g := bts_get m (n := m.den) (j := m.den - 1) (by omega)
    rw [show ((m.den - 1 : Nat) : Int) = (m.den : Int) - 1 by omega, e] at g
    exact List.mem_of_getElem? g
  have two : ∀ x ∈ bts m m.den, x = m.num / (m.den : Int) ∨ x = m.num / (m.den : Int) + 1 := fun x hx => by
    unfold bts at hx
    obtain ⟨j, _, rfl⟩ := List.mem_map.mp hx
    exact bm_two m _
  by_cases c : m.den = 1
  · rw [if_pos c]
    refine sorted_uniq (dd_sorted _) (by simp) fun z => ?_
    rw [mem_dd, List.mem_singleton]
    constructor
    · intro hz
      unfold bts at hz
      obtain ⟨j, hj, rfl⟩ := List.mem_map.mp hz
      have lj := List.mem_range.mp hj
      have e := bm_last m
      have : ((m.den : Int) - 1) = (j : Int) := by omega
      rw [this] at e
      exact e
    · intro hz; rw [hz]; exact last
  · rw [if_neg c]
    have first : m.num / (m.den : Int) + 1 ∈ bts m m.den := by
      have e := bm_first m c
      have g := bts_get m (n := m.den) (j := 0) dp
      rw [show ((0 : Nat) : Int) = 0 from rfl, e] at g
      exact List.mem_of_getElem? g
    refine sorted_uniq (dd_sorted _) (by simp; omega) fun z => ?_
    rw [mem_dd]
    simp only [List.mem_cons, List.not_mem_nil, or_false]
    constructor
    · exact two z
    · rintro (rfl | rfl)
      · exact last
      · exact first
theorem bts_bd' (h : Mr m) : ∀ x ∈ bts m m.den, Bd 27 x := by
  intro x hx
  unfold bts at hx
  obtain ⟨j, hj, rfl⟩ := List.mem_map.mp hx
  have dp := den_pos' m
  have nn := h.n
  have ge := h.ok.ge
  have f := fl_le dp m.num
  have q0 : 0 ≤ m.num / (m.den : Int) := Int.ediv_nonneg (by omega) (by omega)
  have q1 : m.num / (m.den : Int) ≤ m.num := Int.ediv_le_self _ (by omega)
  rcases bm_two m (j : Int) with e | e
  · rw [e]; unfold Bd; omega
  · rw [e]; unfold Bd; omega
theorem bts_bd (h : Mr m) : ∀ x ∈ bts m m.den, Bd 500 x := fun x hx => (bts_bd' h x hx).mono (by decide)
theorem bts_up (m : Rat) : bts (m + 1) m.den = (bts m m.den).map (· + 1) := by
  unfold bts
  rw [List.map_map]
  refine List.map_congr_left fun j _ => ?_
  exact bm_up m _
theorem mr_up (h : Mr m) (n : m.num ≤ 10 ^ 24 + 300) : Mr (m + 1) := by
  obtain ⟨e1, e2⟩ := mean_up m
  have ge := h.ok.ge
  have d := h.ok.d
  refine ⟨⟨FM.of (n := 26) ⟨by rw [e1]; unfold Bd; omega, by rw [e2]; unfold Bd; omega⟩, by rw [e1, e2]; omega, by rw [e2]; exact d⟩, by rw [e1]; omega⟩
abbrev rT : Tb := ⟨[Ev.L.f_u_law_like, f_u_law_beat, f_rhythm_of, f_need_mean], c_u_law_right⟩
theorem cut_drop {α : Type} (xs : List α) (s : Nat) (h : s ≤ xs.length) : cutA xs (some (s : Int)) none = xs.drop s := cutA_drop xs s
theorem turns {xs : List Int} {b : Nat} (bl : xs.length = b) (b0 : 0 < b) (hd : b ≤ 300) (nt : ∀ s : Nat, 0 < s → s < b → xs.drop s ++ xs.take s ≠ xs) {a0 a1 a4 a5 a6 : Option D} :
    ∃ o5, forL (fun x env => bnd (lft (asgT (.n 5) x env)) fun env' => evSs rT 1000000 b_u_law_right_1 env') (rngD 1 (b : Int)) [a0, a1, some (.int (b : Int)), some (.tuple (xs.map .int)), a4, a5, a6] = ret (.nx [a0, a1, some (.int (b : Int)), some (.tuple (xs.map .int)), a4, o5, a6]) := by
  have rg : rngD 1 (b : Int) = (List.range (b - 1)).map fun i : Nat => PyData.int ((i + 1 : Nat) : Int) := by
    rw [rng_map, show ((b : Int) - 1).toNat = b - 1 by omega]
    refine List.map_congr_left fun i _ => ?_
    rw [show (1 : Int) + (i : Int) = ((i + 1 : Nat) : Int) by omega]
  rw [rg]
  obtain ⟨env', ⟨o5, e1⟩, e2⟩ := forL_all (b := fun x env => bnd (lft (asgT (.n 5) x env)) fun env' => evSs rT 1000000 b_u_law_right_1 env') (fun env => ∃ o5, env = [a0, a1, some (.int (b : Int)), some (.tuple (xs.map .int)), a4, o5, a6]) (fun i : Nat => PyData.int ((i + 1 : Nat) : Int)) (List.range (b - 1)) [a0, a1, some (.int (b : Int)), some (.tuple (xs.map .int)), a4, a5, a6] ⟨_, rfl⟩ (by
    rintro i hi env ⟨o5, rfl⟩
    have li := List.mem_range.mp hi
    refine ⟨_, ?_, ⟨some (.int ((i + 1 : Nat) : Int)), rfl⟩⟩
    rw [asgT_n, lft_some, bnd_ret]
    have nt' := nt (i + 1) (by omega) (by omega)
    generalize hs : i + 1 = s at *
    have s0 : ¬ s = 0 := by omega
    have c1 : cutA (xs.map PyData.int) (some (s : Int)) none = (xs.drop s).map PyData.int := by rw [cutA_drop, List.map_drop]
    have c2 : cutA (xs.map PyData.int) none (some (s : Int)) = (xs.take s).map PyData.int := by rw [cutA_take, List.map_take]
    have lo : lenOk ((xs.map PyData.int).length) = true := lenOk_le (by simp; omega)
    have ll : ((xs.drop s).map PyData.int).length + ((xs.take s).map PyData.int).length = (xs.map PyData.int).length := by simp; omega
    have ce : cmpD .eq (.tuple (((xs.drop s).map PyData.int) ++ ((xs.take s).map PyData.int))) (.tuple (xs.map PyData.int)) = some false := by
      rw [← List.map_append, cmp_eqD (by decide) (by decide), eqv_tup, eqvA_int, decide_eq_false nt']
    rw [← ll] at lo
    generalize (xs.drop s).map PyData.int = ys at *
    generalize (xs.take s).map PyData.int = zs at *
    generalize xs.map PyData.int = us at *
    by_cases c : ((b : Int).fmod (s : Int)) = 0
    · simp [b_u_law_right_1, isNo, s0, c, c1, c2, lo, ce]
    · simp [b_u_law_right_1, isNo, s0, c])
  exact ⟨o5, by rw [e2, e1]⟩
theorem up_lc (xs : List Int) (hl : xs.length ≤ 300) {a0 a1 a2 a4 a5 a6 : Option D} : evE rT (.lc (.n 6) (.e (.v 3)) .no e_u_law_right_2) [a0, a1, a2, some (.tuple (xs.map .int)), a4, a5, a6] = ret (.list ((xs.map (· + 1)).map .int)) := by
  have lo : lenOk xs.length = true := lenOk_le (by omega)
  rw [ev_lc]
  have it : evIt rT (.e (.v 3)) [a0, a1, a2, some (.tuple (xs.map .int)), a4, a5, a6] = ret (xs.map .int) := by simp
  rw [it, bnd_ret, lcL_ints (v := fun j : Int => PyData.int (j + 1)) fun j hj => by simp [isNo, e_u_law_right_2]]
  simp [lo, Function.comp_def]
theorem ev_right (h : Mr m) (n : m.num ≤ 10 ^ 24 + 300) : f_u_law_right.m [fr m] = ret (.bool true) := by
  have hd := h.ok.d
  have dp := m.den_pos
  have d0 : m.den ≠ 0 := m.den_nz
  have lb := ev_lawbeat h
  have er := ev_rhythm h
  have en := ev_need h
  have eu := ev_rhythm (mr_up h n)
  obtain ⟨u1, u2⟩ := mean_up m
  have tm : (.tuple [.int (m.num + (m.den : Int)), .int (m.den : Int)] : D) = fr (m + 1) := lit_fr u1 (by rw [u2])
  rw [u2, bts_up] at eu
  have sm := bts_sum m m.den
  rw [cm_den] at sm
  have sd := dd_bts m
  have nt : ∀ s : Nat, 0 < s → s < m.den → (bts m m.den).drop s ++ (bts m m.den).take s ≠ bts m m.den := fun s a b e => no_turn m a b e
  have ob := ok_ints (bts_bd h) (m := 300) (by simp; omega)
  have obu := ok_ints (xs := (bts m m.den).map (· + 1)) (fun x hx => by
    obtain ⟨y, hy, rfl⟩ := List.mem_map.mp hx
    have := bts_bd' h y hy
    unfold Bd at this ⊢
    omega) (m := 300) (by simp; omega)
  have of := ok_fr' (h.fb.mono (show 26 ≤ 500 by decide))
  have bl := bts_len (m := m) m.den
  generalize bts m m.den = xs at *
  obtain ⟨o5, tl⟩ := turns bl dp hd nt (a0 := some (fr m)) (a1 := some (.int m.num)) (a4 := some (.int (m.num / (m.den : Int)))) (a5 := none) (a6 := none)
  have ul := up_lc xs (by omega) (a0 := some (fr m)) (a1 := some (.int m.num)) (a2 := some (.int (m.den : Int))) (a4 := some (.int (m.num / (m.den : Int)))) (a5 := o5) (a6 := none)
  have dv : divOk m.num (m.den : Int) = true := divOk_bd h.fb.b
  have fd : m.num.fdiv (m.den : Int) = m.num / (m.den : Int) := Int.fdiv_eq_ediv_of_nonneg _ (by omega)
  have g1 : rngOk 1 = true := by decide
  have g2 : rngOk (m.den : Int) = true := rngOk_le (by omega) (by omega)
  have im := intsOf_map xs
  have su := sumD_map xs
  have ln : xs.length < 4000 := by omega
  simp at tl
  by_cases c : m.den = 1
  · rw [if_pos c] at sd
    have c' : (m.den : Int) = 1 := by omega
    have ne1 : cmpD .ne (.list [.int (m.num / (m.den : Int))]) (.list [.int (m.num / (m.den : Int))]) = some false := by
      rw [cmp_neD (by decide) (by decide)]; simp
    have c2 : ((m.den : Int) = 1) = True := eq_true c'
    generalize m.num / (m.den : Int) = q at *
    generalize (xs.map (· + 1)).map PyData.int = vs at *
    generalize xs.map PyData.int = us at *
    simp [f_u_law_right, b_u_law_right, run, lb, er, en, d0, dv, fd, su, sm, im, ln, sd, c2, g1, g2, tl, ul, eu, tm, ne1]
  · rw [if_neg c] at sd
    have c' : ¬ (m.den : Int) = 1 := by omega
    have ne1 : cmpD .ne (.list [.int (m.num / (m.den : Int)), .int (m.num / (m.den : Int) + 1)]) (.list [.int (m.num / (m.den : Int)), .int (m.num / (m.den : Int) + 1)]) = some false := by
      rw [cmp_neD (by decide) (by decide)]; simp
    generalize m.num / (m.den : Int) = q at *
    generalize (xs.map (· + 1)).map PyData.int = vs at *
    generalize xs.map PyData.int = us at *
    simp [f_u_law_right, b_u_law_right, run, lb, er, en, d0, dv, fd, su, sm, im, ln, sd, c', g1, g2, tl, ul, eu, tm, ne1]
theorem mr_share {a : Int} {b : Nat} (b0 : 0 < b) (b1 : b ≤ 300) (ab : (b : Int) ≤ a) (a1 : a ≤ 10 ^ 24 + 300) : Mr (Rat.divInt a (b : Int)) ∧ (Rat.divInt a (b : Int)).num ≤ 10 ^ 24 + 300 := by
  have d := sh_den (a := a) b0
  have dp := (Rat.divInt a (b : Int)).den_pos
  have e1 : (Rat.divInt a (b : Int)).num = a / Int.gcd a (b : Int) := by rw [Rat.num_divInt, Int.sign_eq_one_of_pos (by omega), Int.one_mul, Int.gcd_comm]
  have nl : (Rat.divInt a (b : Int)).num ≤ a := by rw [e1]; exact Int.ediv_le_self _ (by omega)
  have ge : ((1 : Int) : Rat) ≤ Rat.divInt a (b : Int) := (le_sh (by omega)).mpr (by omega)
  have g := (int_le (Rat.divInt a (b : Int)) 1).mp ge
  generalize Rat.divInt a (b : Int) = q at *
  have fb : FB 26 q := ⟨by unfold Bd; omega, by unfold Bd; omega⟩
  exact ⟨⟨⟨FM.of fb, by omega, by omega⟩, by omega⟩, by omega⟩
abbrev lT : Tb := ⟨[Ev.L.f_u_law_begin, Ev.L.f_u_law_like, Ev.C.f_u_law_of, f_rhythm_of, f_need_mean, Ev.L.f_u_law_draw, f_u_law_right, Ev.L.f_u_law_share, Ev.L.f_u_law_divisor], c_law⟩
theorem one_pair {b i : Nat} (b0 : 0 < b) (b1 : b ≤ 10) (i1 : i ≤ 20) {a0 a1 a4 a5 a6 : Option D} : evSs lT 1000000 b_law_1 [a0, a1, some (.int (b : Int)), some (.int ((b : Int) + (i : Int))), a4, a5, a6] = ret (.nx [a0, a1, some (.int (b : Int)), some (.int ((b : Int) + (i : Int))), a4, a5, a6]) := by
  have dv := L.divisor (a := (b : Int) + (i : Int)) (b := (b : Int)) (Nat.lt_of_lt_of_le (show ((b : Int)).natAbs < 32 by omega) (by decide +kernel))
  by_cases c : (Int.gcd ((b : Int) + (i : Int)) (b : Int) : Int) = 1
  · have fp := fr_pos (a := (b : Int) + (i : Int)) (b := (b : Int)) (by omega)
    rw [c, Int.ediv_one, Int.ediv_one] at fp
    obtain ⟨mr, mn⟩ := mr_share (a := (b : Int) + (i : Int)) b0 (by omega) (by omega) (by omega)
    have er := ev_right mr mn
    rw [← fp] at er
    rw [c] at dv
    simp [b_law_1, dv, er]
  · generalize (Int.gcd ((b : Int) + (i : Int)) (b : Int) : Int) = g at *
    simp [b_law_1, dv, c]
theorem one_row {b : Nat} (b0 : 0 < b) (b1 : b ≤ 10) {a0 a1 a3 a4 a5 a6 : Option D} : ∃ o3, evSs lT 1000000 b_law_2 [a0, a1, some (.int (b : Int)), a3, a4, a5, a6] = ret (.nx [a0, a1, some (.int (b : Int)), o3, a4, a5, a6]) := by
  have g1 : rngOk (b : Int) = true := rngOk_le (by omega) (by omega)
  have g2 : rngOk (3 * (b : Int) + 1) = true := rngOk_le (by omega) (by omega)
  have m1 : mulOk 3 (b : Int) = true := mulOk_l (by decide)
  have rg : rngD (b : Int) (3 * (b : Int) + 1) = (List.range (2 * b + 1)).map fun i : Nat => PyData.int ((b : Int) + (i : Int)) := by
    rw [rng_map, show (3 * (b : Int) + 1 - (b : Int)).toNat = 2 * b + 1 by omega]
  obtain ⟨env', ⟨o3, e1⟩, e2⟩ := forL_all (b := fun x env => bnd (lft (asgT (.n 3) x env)) fun env' => evSs lT 1000000 b_law_1 env') (fun env => ∃ o3, env = [a0, a1, some (.int (b : Int)), o3, a4, a5, a6]) (fun i : Nat => PyData.int ((b : Int) + (i : Int))) (List.range (2 * b + 1)) [a0, a1, some (.int (b : Int)), a3, a4, a5, a6] ⟨_, rfl⟩ (by
    rintro i hi env ⟨o3, rfl⟩
    have li := List.mem_range.mp hi
    refine ⟨_, ?_, ⟨some (.int ((b : Int) + (i : Int))), rfl⟩⟩
    rw [asgT_n, lft_some, bnd_ret]
    exact one_pair b0 b1 (by omega))
  refine ⟨o3, ?_⟩
  rw [e1] at e2
  simp at e2
  simp [b_law_2, g1, g2, m1, rg, e2]
theorem rows_all {a0 a1 a2 a3 a4 a5 a6 : Option D} : ∃ o2 o3, forL (fun x env => bnd (lft (asgT (.n 2) x env)) fun env' => evSs lT 1000000 b_law_2 env') (rngD 1 10) [a0, a1, a2, a3, a4, a5, a6] = ret (.nx [a0, a1, o2, o3, a4, a5, a6]) := by
  have rg : rngD 1 10 = (List.range 9).map fun i : Nat => PyData.int ((i + 1 : Nat) : Int) := rfl
  rw [rg]
  obtain ⟨env', ⟨o2, o3, e1⟩, e2⟩ := forL_all (b := fun x env => bnd (lft (asgT (.n 2) x env)) fun env' => evSs lT 1000000 b_law_2 env') (fun env => ∃ o2 o3, env = [a0, a1, o2, o3, a4, a5, a6]) (fun i : Nat => PyData.int ((i + 1 : Nat) : Int)) (List.range 9) [a0, a1, a2, a3, a4, a5, a6] ⟨_, _, rfl⟩ (by
    rintro i hi env ⟨o2, o3, rfl⟩
    have li := List.mem_range.mp hi
    obtain ⟨p3, r⟩ := one_row (b := i + 1) (by omega) (by omega) (a0 := a0) (a1 := a1) (a3 := o3) (a4 := a4) (a5 := a5) (a6 := a6)
    refine ⟨_, ?_, ⟨some (.int ((i + 1 : Nat) : Int)), p3, rfl⟩⟩
    rw [asgT_n, lft_some, bnd_ret]
    exact r)
  exact ⟨o2, o3, by rw [e2, e1]⟩
end
theorem m103 : Mr (10 / 3) := ⟨⟨fm_lit (by decide +kernel), by decide +kernel, by decide +kernel⟩, by decide +kernel⟩
theorem m72 : Mr (7 / 2) := ⟨⟨fm_lit (by decide +kernel), by decide +kernel, by decide +kernel⟩, by decide +kernel⟩
theorem m1 : Mr 1 := ⟨⟨fm_lit (by decide +kernel), by decide +kernel, by decide +kernel⟩, by decide +kernel⟩
theorem m75 : Mr (7 / 5) := ⟨⟨fm_lit (by decide +kernel), by decide +kernel, by decide +kernel⟩, by decide +kernel⟩
theorem r103 : f_rhythm_of.m [.tuple [.int 10, .int 3]] = ret (.tuple [.int 4, .int 3, .int 3]) := by
  have := ev_rhythm m103
  rw [show bts (10 / 3 : Rat) ((10 / 3 : Rat).den) = [4, 3, 3] by decide +kernel, ← (lit_fr (by decide +kernel) (by decide +kernel) : (PyData.tuple [.int 10, .int 3] : D) = fr (10 / 3))] at this
  exact this
theorem r72 : f_rhythm_of.m [.tuple [.int 7, .int 2]] = ret (.tuple [.int 4, .int 3]) := by
  have := ev_rhythm m72
  rw [show bts (7 / 2 : Rat) ((7 / 2 : Rat).den) = [4, 3] by decide +kernel, ← (lit_fr (by decide +kernel) (by decide +kernel) : (PyData.tuple [.int 7, .int 2] : D) = fr (7 / 2))] at this
  exact this
theorem r1 : f_rhythm_of.m [fr 1] = ret (.tuple [.int 1]) := by
  have := ev_rhythm m1
  rw [show bts (1 : Rat) ((1 : Rat).den) = [1] by decide +kernel] at this
  exact this
theorem n75 : f_need_mean.m [.tuple [.int 7, .int 5]] = ret (.tuple [.int 7, .int 5]) := by
  have := ev_need m75
  rw [← (lit_fr (by decide +kernel) (by decide +kernel) : (PyData.tuple [.int 7, .int 5] : D) = fr (7 / 5))] at this
  exact this
theorem tops (v : Nat) (hv : v < 4) : ∃ top : Nat, ([.int 10, .int 1000, .int 1000000, .int 1000000000000000000000000] : List D)[v]'hv = .int (top : Int) ∧ 0 < top ∧ top ≤ 1000000000000000000000000 := by
  match v, hv with
  | 0, _ => exact ⟨10, rfl, by omega, by omega⟩
  | 1, _ => exact ⟨1000, rfl, by omega, by omega⟩
  | 2, _ => exact ⟨1000000, rfl, by omega, by omega⟩
  | 3, _ => exact ⟨1000000000000000000000000, (rfl), by omega, by omega⟩
theorem law_true : ∀ ns : List Int, ns.length ≤ 63 → wpR (f_law.m [scrD ns] none) fun d _ => d = .bool true := by
  intro ns hn
  have g4 : rngOk 4 = true := by decide
  have g1 : rngOk 1 = true := by decide
  have g10 : rngOk 10 = true := by decide
  obtain ⟨o2, o3, ra⟩ := rows_all (a0 := some (scrD ns)) (a1 := some (.dict [])) (a2 := none) (a3 := none) (a4 := none) (a5 := none) (a6 := none)
  simp at ra
  simp [f_law, b_law, run]
  rw [wp_bnd]
  refine L.begin (b := 300) hn (by decide) ?_
  intro d0 h0
  simp [g1, g10, ra, g4]
  rw [wp_bnd]
  refine wp_turns (fun env => ∃ o2 o3 o4 o5, env = [some (scrD ns), some (.dict []), o2, o3, o4, o5, none]) 3 (rngD 0 4) 0 _ d0 ⟨_, _, _, _, rfl⟩ (h0.mono (by rw [rngD_len]; decide)) ?_ ?_
  · rintro y _ B env ds ⟨o2, o3, o4, o5, rfl⟩ hd
    simp [b_law_3]
    rw [wp_bnd]
    refine L.drawN (b := B + 2) hd (by omega) (by omega) ?_
    intro w d1 hw h1
    have pk : powOk 10 6 = true := by decide
    have pk2 : powOk 10 24 = true := by decide
    simp [pk, pk2]
    rw [wp_bnd]
    refine ev_of (B := B + 1) [.int 10, .int 1000, .int 1000000, .int 1000000000000000000000000] (by decide) (by decide) h1 ?_
    intro v2 hv2 d3 h3
    have tp := tops v2 hv2
    generalize ([.int 10, .int 1000, .int 1000000, .int 1000000000000000000000000] : List D)[v2]'hv2 = tv at *
    obtain ⟨top, e2, t0, t1⟩ := tp
    subst e2
    try simp
    rw [wp_bnd]
    refine L.drawN (b := B) h3 (by omega) (by omega) ?_
    intro x d4 hx h4
    have sh := s_share (a := 1 + (w : Int) + (x : Int)) (b := 1 + (w : Int)) (n := 4) (by omega) (by unfold Bd; omega)
    have mm := mr_share (a := 1 + (w : Int) + (x : Int)) (b := 1 + w) (by omega) (by omega) (by push_cast; omega) (by omega)
    have er := ev_right mm.1 mm.2
    clear mm
    rw [show ((1 + w : Nat) : Int) = 1 + (w : Int) by push_cast; rfl] at er
    generalize Rat.divInt (1 + (w : Int) + (x : Int)) (1 + (w : Int)) = q at *
    simp [sh, er]
    exact ⟨_, rfl, ⟨_, _, _, _, rfl⟩, h4⟩
  · rintro env ds ⟨o2, o3, o4, o5, rfl⟩ hd
    have oi : ∀ i : Int, i.natAbs ≤ 100 → OkD 0 0 (.int i) := fun i hi => ok_int (by unfold Bd; omega)
    have i1 := oi 1 (by decide)
    have i3 := oi 3 (by decide)
    have i4 := oi 4 (by decide)
    have i5 := oi 5 (by decide)
    have i7 := oi 7 (by decide)
    simp [r103, r72, r1, n75]
    try rfl
end Ev.K34

end
open PySem PySem.W PyProof.Rows in
set_option maxHeartbeats 0 in
theorem PySem.Challenge.cw_sawrounds_k34_whole_rhythms_holds : PySem.Challenge.rw_sawrounds_k34_whole_rhythms.Holds := by
  w_on; o_law; k_head; (case hw => w_witness2)
  k_fill
  refine Ev.walk_law (l := PySem.Challenge.rw_sawrounds_k34_whole_rhythms) (n := 63) (k := 7) (x := "script") (fn := Ev.K34.f_law) rfl (by decide) rfl ⟨rfl, by decide, by decide⟩ (fun w h Y => PySem.W.kIn_of Y) ?F rfl Ev.K34.law_true
  case F =>
    intro w mg fa h KX G hmg
    obtain ⟨f0, fd0, g0, F0⟩ : ∃ f fd, mg "_law_begin" = some (.ref f) ∧ L2.Fun _ "_law_begin" "_law_begin" (Ev.K34.top 19) f fd := by
      refine' Ev.fq_mk KX G ?a ?l ?c ?k
      (case a => k_is); (case l => k_is); (case c => k_is); (case k => k_is)
    obtain ⟨f1, fd1, g1, F1⟩ : ∃ f fd, mg "_law_like" = some (.ref f) ∧ L2.Fun _ "_law_like" "_law_like" (Ev.K34.top 25) f fd := by
      refine' Ev.fq_mk KX G ?a ?l ?c ?k
      (case a => k_is); (case l => k_is); (case c => k_is); (case k => k_is)
    obtain ⟨f2, fd2, g2, F2⟩ : ∃ f fd, mg "_law_mixed" = some (.ref f) ∧ L2.Fun _ "_law_mixed" "_law_mixed" (Ev.K34.top 18) f fd := by
      refine' Ev.fq_mk KX G ?a ?l ?c ?k
      (case a => k_is); (case l => k_is); (case c => k_is); (case k => k_is)
    obtain ⟨f3, fd3, g3, F3⟩ : ∃ f fd, mg "_law_draw" = some (.ref f) ∧ L2.Fun _ "_law_draw" "_law_draw" (Ev.K34.top 20) f fd := by
      refine' Ev.fq_mk KX G ?a ?l ?c ?k
      (case a => k_is); (case l => k_is); (case c => k_is); (case k => k_is)
    obtain ⟨f4, fd4, g4, F4⟩ : ∃ f fd, mg "_law_of" = some (.ref f) ∧ L2.Fun _ "_law_of" "_law_of" (Ev.K34.top 21) f fd := by
      refine' Ev.fq_mk KX G ?a ?l ?c ?k
      (case a => k_is); (case l => k_is); (case c => k_is); (case k => k_is)
    obtain ⟨f5, fd5, g5, F5⟩ : ∃ f fd, mg "upper_in" = some (.ref f) ∧ L2.Fun _ "upper_in" "upper_in" (Ev.K34.top 12) f fd := by
      refine' Ev.fq_mk KX G ?a ?l ?c ?k
      (case a => k_is); (case l => k_is); (case c => k_is); (case k => k_is)
    obtain ⟨f6, fd6, g6, F6⟩ : ∃ f fd, mg "thing_in" = some (.ref f) ∧ L2.Fun _ "thing_in" "thing_in" (Ev.K34.top 13) f fd := by
      refine' Ev.fq_mk KX G ?a ?l ?c ?k
      (case a => k_is); (case l => k_is); (case c => k_is); (case k => k_is)
    obtain ⟨f7, fd7, g7, F7⟩ : ∃ f fd, mg "beat_in" = some (.ref f) ∧ L2.Fun _ "beat_in" "beat_in" (Ev.K34.top 14) f fd := by
      refine' Ev.fq_mk KX G ?a ?l ?c ?k
      (case a => k_is); (case l => k_is); (case c => k_is); (case k => k_is)
    obtain ⟨f8, fd8, g8, F8⟩ : ∃ f fd, mg "is_from" = some (.ref f) ∧ L2.Fun _ "is_from" "is_from" (Ev.K34.top 6) f fd := by
      refine' Ev.fq_mk KX G ?a ?l ?c ?k
      (case a => k_is); (case l => k_is); (case c => k_is); (case k => k_is)
    obtain ⟨f9, fd9, g9, F9⟩ : ∃ f fd, mg "is_fraction" = some (.ref f) ∧ L2.Fun _ "is_fraction" "is_fraction" (Ev.K34.top 7) f fd := by
      refine' Ev.fq_mk KX G ?a ?l ?c ?k
      (case a => k_is); (case l => k_is); (case c => k_is); (case k => k_is)
    obtain ⟨f10, fd10, g10, F10⟩ : ∃ f fd, mg "is_mean_form" = some (.ref f) ∧ L2.Fun _ "is_mean_form" "is_mean_form" (Ev.K34.top 10) f fd := by
      refine' Ev.fq_mk KX G ?a ?l ?c ?k
      (case a => k_is); (case l => k_is); (case c => k_is); (case k => k_is)
    obtain ⟨f11, fd11, g11, F11⟩ : ∃ f fd, mg "check_mean" = some (.ref f) ∧ L2.Fun _ "check_mean" "check_mean" (Ev.K34.top 11) f fd := by
      refine' Ev.fq_mk KX G ?a ?l ?c ?k
      (case a => k_is); (case l => k_is); (case c => k_is); (case k => k_is)
    obtain ⟨f12, fd12, g12, F12⟩ : ∃ f fd, mg "rhythm_of" = some (.ref f) ∧ L2.Fun _ "rhythm_of" "rhythm_of" (Ev.K34.top 16) f fd := by
      refine' Ev.fq_mk KX G ?a ?l ?c ?k
      (case a => k_is); (case l => k_is); (case c => k_is); (case k => k_is)
    obtain ⟨f13, fd13, g13, F13⟩ : ∃ f fd, mg "need_mean" = some (.ref f) ∧ L2.Fun _ "need_mean" "need_mean" (Ev.K34.top 15) f fd := by
      refine' Ev.fq_mk KX G ?a ?l ?c ?k
      (case a => k_is); (case l => k_is); (case c => k_is); (case k => k_is)
    obtain ⟨f14, fd14, g14, F14⟩ : ∃ f fd, mg "_law_beat" = some (.ref f) ∧ L2.Fun _ "_law_beat" "_law_beat" (Ev.K34.top 24) f fd := by
      refine' Ev.fq_mk KX G ?a ?l ?c ?k
      (case a => k_is); (case l => k_is); (case c => k_is); (case k => k_is)
    obtain ⟨f15, fd15, g15, F15⟩ : ∃ f fd, mg "_law_right" = some (.ref f) ∧ L2.Fun _ "_law_right" "_law_right" (Ev.K34.top 26) f fd := by
      refine' Ev.fq_mk KX G ?a ?l ?c ?k
      (case a => k_is); (case l => k_is); (case c => k_is); (case k => k_is)
    obtain ⟨f16, fd16, g16, F16⟩ : ∃ f fd, mg "_law_divisor" = some (.ref f) ∧ L2.Fun _ "_law_divisor" "_law_divisor" (Ev.K34.top 22) f fd := by
      refine' Ev.fq_mk KX G ?a ?l ?c ?k
      (case a => k_is); (case l => k_is); (case c => k_is); (case k => k_is)
    obtain ⟨f17, fd17, g17, F17⟩ : ∃ f fd, mg "_law_share" = some (.ref f) ∧ L2.Fun _ "_law_share" "_law_share" (Ev.K34.top 23) f fd := by
      refine' Ev.fq_mk KX G ?a ?l ?c ?k
      (case a => k_is); (case l => k_is); (case c => k_is); (case k => k_is)
    obtain ⟨f18, fd18, g18, F18⟩ : ∃ f fd, mg "law" = some (.ref f) ∧ L2.Fun _ "law" "law" (Ev.K34.top 27) f fd := by
      refine' Ev.fq_mk KX G ?a ?l ?c ?k
      (case a => k_is); (case l => k_is); (case c => k_is); (case k => k_is)
    have z_MOST : ∃ t, mg "MOST" = some (.int 1000000000000000000000000000000 t) := by
      obtain ⟨u, e1, t, e2⟩ : ∃ u, mg "MOST" = some u ∧ ∃ t, u = .int 1000000000000000000000000000000 t := by
        refine' ⟨_, PySem.W.mg_of KX G ?a, ?b⟩
        (case a => k_is); (case b => exact ⟨_, rfl⟩)
      exact ⟨t, e2 ▸ e1⟩
    have z_MOST_BELOW : ∃ t, mg "MOST_BELOW" = some (.int 300 t) := by
      obtain ⟨u, e1, t, e2⟩ : ∃ u, mg "MOST_BELOW" = some u ∧ ∃ t, u = .int 300 t := by
        refine' ⟨_, PySem.W.mg_of KX G ?a, ?b⟩
        (case a => k_is); (case b => exact ⟨_, rfl⟩)
      exact ⟨t, e2 ▸ e1⟩
    have zg : mg "gcd" = some (.builtin "math.gcd") := by
      refine' PySem.W.mg_of KX G ?a
      case a => k_is
    have M : Ev.Md mg := ⟨Ev.bl_of KX G (Ev.nCons (by k_is) (Ev.nCons (by k_is) (Ev.nCons (by k_is) (Ev.nCons (by k_is) (Ev.nCons (by k_is) (Ev.nCons (by k_is) (Ev.nCons (by k_is) (Ev.nCons (by k_is) (Ev.nCons (by k_is) (Ev.nCons (by k_is) (Ev.nCons (by k_is) (Ev.nCons (by k_is) (Ev.nCons (by k_is) (Ev.nCons (by k_is) (Ev.nCons (by k_is) (Ev.nCons (by k_is) (Ev.nCons (by k_is) (Ev.nCons (by k_is) Ev.nNil))))))))))))))))))⟩
    cases hmg.symm.trans g18
    refine ⟨fd18, fun s u => (Ev.K34.bi_law F18).pos s [u] rfl, fun base _ _ => ?_⟩
    have G0 := Ev.fn_def (P := PySem.Challenge.pw_sawrounds_k34_whole_rhythms) (w := w) (base := base) (k := 0) F0 Ev.K34.k_u_law_begin (d := Ev.K34.d_u_law_begin) (T := ⟨[], Ev.L.c_u_law_begin⟩) 1000000 rfl rfl M (fun _ => by contradiction) Ev.csNil Ev.fsNil
    have P0 : Ev.FnP PySem.Challenge.pw_sawrounds_k34_whole_rhythms w _ mg base 1 Ev.L.f_u_law_begin := ⟨f0, fd0, G0, Ev.K34.bi_u_law_begin F0, g0, F0.kp⟩
    have G1 := Ev.fn_def (P := PySem.Challenge.pw_sawrounds_k34_whole_rhythms) (w := w) (base := base) (k := 0) F1 Ev.K34.k_u_law_like (d := Ev.K34.d_u_law_like) (T := ⟨[], Ev.L.c_u_law_like⟩) 1000000 rfl rfl M (fun _ => by contradiction) Ev.csNil Ev.fsNil
    have P1 : Ev.FnP PySem.Challenge.pw_sawrounds_k34_whole_rhythms w _ mg base 1 Ev.L.f_u_law_like := ⟨f1, fd1, G1, Ev.K34.bi_u_law_like F1, g1, F1.kp⟩
    have G2 := Ev.fn_def (P := PySem.Challenge.pw_sawrounds_k34_whole_rhythms) (w := w) (base := base) (k := 0) F2 Ev.K34.k_u_law_mixed (d := Ev.K34.d_u_law_mixed) (T := ⟨[], Ev.L.c_u_law_mixed⟩) 1000000 rfl rfl M (fun _ => by contradiction) Ev.csNil Ev.fsNil
    have P2 : Ev.FnP PySem.Challenge.pw_sawrounds_k34_whole_rhythms w _ mg base 1 Ev.L.f_u_law_mixed := ⟨f2, fd2, G2, Ev.K34.bi_u_law_mixed F2, g2, F2.kp⟩
    have G3 := Ev.fn_def (P := PySem.Challenge.pw_sawrounds_k34_whole_rhythms) (w := w) (base := base) (k := 1) F3 Ev.K34.k_u_law_draw (d := Ev.K34.d_u_law_draw) (T := ⟨[Ev.L.f_u_law_mixed], Ev.L.c_u_law_draw⟩) 1000000 rfl rfl M (fun _ => by contradiction) Ev.csNil (Ev.fsCons (P2.mono (by decide)) Ev.fsNil)
    have P3 : Ev.FnP PySem.Challenge.pw_sawrounds_k34_whole_rhythms w _ mg base 2 Ev.L.f_u_law_draw := ⟨f3, fd3, G3, Ev.K34.bi_u_law_draw F3, g3, F3.kp⟩
    have G4 := Ev.fn_def (P := PySem.Challenge.pw_sawrounds_k34_whole_rhythms) (w := w) (base := base) (k := 2) F4 Ev.K34.k_u_law_of (d := Ev.K34.d_u_law_of) (T := ⟨[Ev.L.f_u_law_draw], Ev.C.c_u_law_of⟩) 1000000 rfl rfl M (fun _ => by contradiction) Ev.csNil (Ev.fsCons (P3.mono (by decide)) Ev.fsNil)
    have P4 : Ev.FnP PySem.Challenge.pw_sawrounds_k34_whole_rhythms w _ mg base 3 Ev.C.f_u_law_of := ⟨f4, fd4, G4, Ev.K34.bi_u_law_of F4, g4, F4.kp⟩
    have G5 := Ev.fn_def (P := PySem.Challenge.pw_sawrounds_k34_whole_rhythms) (w := w) (base := base) (k := 0) F5 Ev.K34.k_upper_in (d := Ev.K34.d_upper_in) (T := ⟨[], Ev.C.c_upper_in⟩) 1000000 rfl rfl M (fun _ => by contradiction) Ev.csNil Ev.fsNil
    have P5 : Ev.FnP PySem.Challenge.pw_sawrounds_k34_whole_rhythms w _ mg base 1 Ev.C.f_upper_in := ⟨f5, fd5, G5, Ev.K34.bi_upper_in F5, g5, F5.kp⟩
    have G6 := Ev.fn_def (P := PySem.Challenge.pw_sawrounds_k34_whole_rhythms) (w := w) (base := base) (k := 1) F6 Ev.K34.k_thing_in (d := Ev.K34.d_thing_in) (T := ⟨[Ev.C.f_upper_in], Ev.C.c_thing_in⟩) 1000000 rfl rfl M (fun _ => by contradiction) Ev.csNil (Ev.fsCons (P5.mono (by decide)) Ev.fsNil)
    have P6 : Ev.FnP PySem.Challenge.pw_sawrounds_k34_whole_rhythms w _ mg base 2 Ev.C.f_thing_in := ⟨f6, fd6, G6, Ev.K34.bi_thing_in F6, g6, F6.kp⟩
    have G7 := Ev.fn_def (P := PySem.Challenge.pw_sawrounds_k34_whole_rhythms) (w := w) (base := base) (k := 2) F7 Ev.K34.k_beat_in (d := Ev.K34.d_beat_in) (T := ⟨[Ev.C.f_thing_in], Ev.K34.c_beat_in⟩) 1000000 rfl rfl M (fun _ => by contradiction) Ev.csNil (Ev.fsCons (P6.mono (by decide)) Ev.fsNil)
    have P7 : Ev.FnP PySem.Challenge.pw_sawrounds_k34_whole_rhythms w _ mg base 3 Ev.K34.f_beat_in := ⟨f7, fd7, G7, Ev.K34.bi_beat_in F7, g7, F7.kp⟩
    have G8 := Ev.fn_def (P := PySem.Challenge.pw_sawrounds_k34_whole_rhythms) (w := w) (base := base) (k := 0) F8 Ev.K34.k_is_from (d := Ev.K34.d_is_from) (T := ⟨[], Ev.C.c_is_from⟩) 1000000 rfl rfl M (fun _ => by contradiction) Ev.csNil Ev.fsNil
    have P8 : Ev.FnP PySem.Challenge.pw_sawrounds_k34_whole_rhythms w _ mg base 1 Ev.C.f_is_from := ⟨f8, fd8, G8, Ev.K34.bi_is_from F8, g8, F8.kp⟩
    have G9 := Ev.fn_def (P := PySem.Challenge.pw_sawrounds_k34_whole_rhythms) (w := w) (base := base) (k := 1) F9 Ev.K34.k_is_fraction (d := Ev.K34.d_is_fraction) (T := ⟨[Ev.C.f_is_from], Ev.C.c_is_fraction⟩) 1000000 rfl rfl M (fun _ => zg) (Ev.csCons (Ev.csInt z_MOST) Ev.csNil) (Ev.fsCons (P8.mono (by decide)) Ev.fsNil)
    have P9 : Ev.FnP PySem.Challenge.pw_sawrounds_k34_whole_rhythms w _ mg base 2 Ev.C.f_is_fraction := ⟨f9, fd9, G9, Ev.K34.bi_is_fraction F9, g9, F9.kp⟩
    have G10 := Ev.fn_def (P := PySem.Challenge.pw_sawrounds_k34_whole_rhythms) (w := w) (base := base) (k := 2) F10 Ev.K34.k_is_mean_form (d := Ev.K34.d_is_mean_form) (T := ⟨[Ev.C.f_is_fraction], Ev.C.c_is_mean_form⟩) 1000000 rfl rfl M (fun _ => by contradiction) (Ev.csCons (Ev.csInt z_MOST_BELOW) Ev.csNil) (Ev.fsCons (P9.mono (by decide)) Ev.fsNil)
    have P10 : Ev.FnP PySem.Challenge.pw_sawrounds_k34_whole_rhythms w _ mg base 3 Ev.C.f_is_mean_form := ⟨f10, fd10, G10, Ev.K34.bi_is_mean_form F10, g10, F10.kp⟩
    have G11 := Ev.fn_def (P := PySem.Challenge.pw_sawrounds_k34_whole_rhythms) (w := w) (base := base) (k := 3) F11 Ev.K34.k_check_mean (d := Ev.K34.d_check_mean) (T := ⟨[Ev.C.f_is_mean_form], Ev.C.c_check_mean⟩) 1000000 rfl rfl M (fun _ => by contradiction) Ev.csNil (Ev.fsCons (P10.mono (by decide)) Ev.fsNil)
    have P11 : Ev.FnP PySem.Challenge.pw_sawrounds_k34_whole_rhythms w _ mg base 4 Ev.C.f_check_mean := ⟨f11, fd11, G11, Ev.K34.bi_check_mean F11, g11, F11.kp⟩
    have G12 := Ev.fn_def (P := PySem.Challenge.pw_sawrounds_k34_whole_rhythms) (w := w) (base := base) (k := 4) F12 Ev.K34.k_rhythm_of (d := Ev.K34.d_rhythm_of) (T := ⟨[Ev.K34.f_beat_in, Ev.C.f_check_mean], Ev.K34.c_rhythm_of⟩) 1000000 rfl rfl M (fun _ => by contradiction) Ev.csNil (Ev.fsCons (P7.mono (by decide)) (Ev.fsCons (P11.mono (by decide)) Ev.fsNil))
    have P12 : Ev.FnP PySem.Challenge.pw_sawrounds_k34_whole_rhythms w _ mg base 5 Ev.K34.f_rhythm_of := ⟨f12, fd12, G12, Ev.K34.bi_rhythm_of F12, g12, F12.kp⟩
    have G13 := Ev.fn_def (P := PySem.Challenge.pw_sawrounds_k34_whole_rhythms) (w := w) (base := base) (k := 4) F13 Ev.K34.k_need_mean (d := Ev.K34.d_need_mean) (T := ⟨[Ev.C.f_check_mean], Ev.K34.c_need_mean⟩) 1000000 rfl rfl M (fun _ => by contradiction) Ev.csNil (Ev.fsCons (P11.mono (by decide)) Ev.fsNil)
    have P13 : Ev.FnP PySem.Challenge.pw_sawrounds_k34_whole_rhythms w _ mg base 5 Ev.K34.f_need_mean := ⟨f13, fd13, G13, Ev.K34.bi_need_mean F13, g13, F13.kp⟩
    have G14 := Ev.fn_def (P := PySem.Challenge.pw_sawrounds_k34_whole_rhythms) (w := w) (base := base) (k := 0) F14 Ev.K34.k_u_law_beat (d := Ev.K34.d_u_law_beat) (T := ⟨[], Ev.K34.c_u_law_beat⟩) 1000000 rfl rfl M (fun _ => by contradiction) Ev.csNil Ev.fsNil
    have P14 : Ev.FnP PySem.Challenge.pw_sawrounds_k34_whole_rhythms w _ mg base 1 Ev.K34.f_u_law_beat := ⟨f14, fd14, G14, Ev.K34.bi_u_law_beat F14, g14, F14.kp⟩
    have G15 := Ev.fn_def (P := PySem.Challenge.pw_sawrounds_k34_whole_rhythms) (w := w) (base := base) (k := 5) F15 Ev.K34.k_u_law_right (d := Ev.K34.d_u_law_right) (T := ⟨[Ev.L.f_u_law_like, Ev.K34.f_u_law_beat, Ev.K34.f_rhythm_of, Ev.K34.f_need_mean], Ev.K34.c_u_law_right⟩) 1000000 rfl rfl M (fun _ => by contradiction) Ev.csNil (Ev.fsCons (P1.mono (by decide)) (Ev.fsCons (P14.mono (by decide)) (Ev.fsCons (P12.mono (by decide)) (Ev.fsCons (P13.mono (by decide)) Ev.fsNil))))
    have P15 : Ev.FnP PySem.Challenge.pw_sawrounds_k34_whole_rhythms w _ mg base 6 Ev.K34.f_u_law_right := ⟨f15, fd15, G15, Ev.K34.bi_u_law_right F15, g15, F15.kp⟩
    have G16 := Ev.fn_def (P := PySem.Challenge.pw_sawrounds_k34_whole_rhythms) (w := w) (base := base) (k := 0) F16 Ev.K34.k_u_law_divisor (d := Ev.K34.d_u_law_divisor) (T := ⟨[], Ev.L.c_u_law_divisor⟩) 1000000 rfl rfl M (fun _ => by contradiction) Ev.csNil Ev.fsNil
    have P16 : Ev.FnP PySem.Challenge.pw_sawrounds_k34_whole_rhythms w _ mg base 1 Ev.L.f_u_law_divisor := ⟨f16, fd16, G16, Ev.K34.bi_u_law_divisor F16, g16, F16.kp⟩
    have G17 := Ev.fn_def (P := PySem.Challenge.pw_sawrounds_k34_whole_rhythms) (w := w) (base := base) (k := 1) F17 Ev.K34.k_u_law_share (d := Ev.K34.d_u_law_share) (T := ⟨[Ev.L.f_u_law_divisor], Ev.L.c_u_law_share⟩) 1000000 rfl rfl M (fun _ => by contradiction) Ev.csNil (Ev.fsCons (P16.mono (by decide)) Ev.fsNil)
    have P17 : Ev.FnP PySem.Challenge.pw_sawrounds_k34_whole_rhythms w _ mg base 2 Ev.L.f_u_law_share := ⟨f17, fd17, G17, Ev.K34.bi_u_law_share F17, g17, F17.kp⟩
    have G18 := Ev.fn_def (P := PySem.Challenge.pw_sawrounds_k34_whole_rhythms) (w := w) (base := base) (k := 6) F18 Ev.K34.k_law (d := Ev.K34.d_law) (T := ⟨[Ev.L.f_u_law_begin, Ev.L.f_u_law_like, Ev.C.f_u_law_of, Ev.K34.f_rhythm_of, Ev.K34.f_need_mean, Ev.L.f_u_law_draw, Ev.K34.f_u_law_right, Ev.L.f_u_law_share, Ev.L.f_u_law_divisor], Ev.K34.c_law⟩) 1000000 rfl rfl M (fun _ => by contradiction) Ev.csNil (Ev.fsCons (P0.mono (by decide)) (Ev.fsCons (P1.mono (by decide)) (Ev.fsCons (P4.mono (by decide)) (Ev.fsCons (P12.mono (by decide)) (Ev.fsCons (P13.mono (by decide)) (Ev.fsCons (P3.mono (by decide)) (Ev.fsCons (P15.mono (by decide)) (Ev.fsCons (P17.mono (by decide)) (Ev.fsCons (P16.mono (by decide)) Ev.fsNil)))))))))
    exact G18

