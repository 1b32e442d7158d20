import PyProof.Rows.All
import PyProof.P3Statements
import KE.SortData
import HandS.ForMost
import HandS.Exc
import HandS.Lambda
import HandS.Deep
import HandS.Flow
import HandS.Conv
import HandS.TupAny
import HandS.TupMul
import HandS.IsInst
import HandS.Wide
import HandS.SetFor
import HandS.Text
import HandS.Style
import HandS.SortKw
import KE.DataMinMax
import PyProof.ListStr
import HandS.Strs
import KE.GoesEnum
import HandS.Comp
import OpenK.KMore
import HandS.IterVal
import KE.KExcSuper
import KE.KSuper
import HandS.ExcSuper
import HandS.Defaults
import HandS.HeadWalk
import HandS.HeadHook4
import HandS.HeadNt
import HandS.ForExc
import HandS.Head0
import HandS.Head1
import HandS.Head2
import HandS.HeadEnd
import HandS.HeadHook3
import PySem.Challenge.RW_channelshared_k03_whole_placings_and_lea
set_option Elab.async false
set_option linter.all false
set_option maxRecDepth 100000
set_option maxHeartbeats 0
section
/-! DL: a small language over data (PyData), its evaluator. Own work for this place. -/
namespace DL
open PySem

abbrev D := PyData
inductive Slot where
  | dat (d : D) | own (xs : List D) | cel (r : Nat)
inductive Cell where
  | lst (xs : List D)
abbrev Env := List (Option Slot)
abbrev Store := List Cell
inductive Av where
  | d (x : D) | c (r : Nat)
inductive Res (α : Type) where
  | ok (a : α) | err (cls : Str) (x : D)
def M (α : Type) : Type := Store → Option (Res α × Store)
def ret {α : Type} (a : α) : M α := fun S => some (.ok a, S)
def fail {α : Type} : M α := fun _ => none
def bnd {α β : Type} (m : M α) (f : α → M β) : M β := fun S => match m S with
  | none => none
  | some (.ok a, S') => f a S'
  | some (.err c x, S') => some (.err c x, S')
def lift {α : Type} (o : Option α) : M α := fun S => match o with
  | some a => some (.ok a, S)
  | none => none
/-- no exception may leave -/
def noerr {α : Type} (m : M α) : M α := fun S => match m S with
  | some (.ok a, S') => some (.ok a, S')
  | _ => none

/-- the most that a list, a text holds -/
def LIM : Nat := 16777216
inductive Ty where
  | int | bool | str | tuple
inductive O1 where
  | neg | len | tuple | list | sorted | sset | all | any | max | min | int | str | isI (t : Ty) | isNone | notNone | rev | lrng | isB (b : Bool) | notB (b : Bool)
inductive O2 where
  | add | sub | mul | fdiv | mod | pow | eq | ne | lt | le | gt | ge | inn | nin | idx | join | max2 | min2 | maxD

def truth : D → Option Bool
  | .none => some false
  | .bool b => some b
  | .int i => some (i != 0)
  | .str x => if x.length ≤ LIM then some (x.length != 0) else none
  | .list xs => some (!xs.isEmpty)
  | .tuple xs => some (!xs.isEmpty)
  | .dict _ => none
def chr (c : Nat) : D := .str ⟨#[c]⟩
def getI {α : Type} (xs : List α) (i : Int) : Option α :=
  if 0 ≤ i then xs[i.toNat]? else if 0 ≤ i + xs.length then xs[(i + xs.length).toNat]? else none
def ixI (n : Nat) (i : Int) : Option Nat :=
  if 0 ≤ i then (if i < n then some i.toNat else none) else if 0 ≤ i + n then some (i + n).toNat else none
/-- a slice's bound as a place among n -/
def cutIx (n d : Nat) : Option Int → Nat
  | none => d
  | some v => if v < 0 then (v + (n : Int)).toNat else min v.toNat n
def cut {α : Type} (xs : List α) (lo hi : Option Int) : List α :=
  (xs.drop (cutIx xs.length 0 lo)).take (cutIx xs.length xs.length hi - cutIx xs.length 0 lo)
def asBools : List D → Option (List Bool)
  | [] => some []
  | .bool b :: r => (asBools r).map (b :: ·)
  | _ :: _ => none
def asInts : List D → Option (List Int)
  | [] => some []
  | .int b :: r => (asInts r).map (b :: ·)
  | _ :: _ => none
def asStrs : List D → Option (List Str)
  | [] => some []
  | .str b :: r => (asStrs r).map (b :: ·)
  | _ :: _ => none
def maxI : List Int → Option Int
  | [] => none
  | x :: r => some (r.foldl (fun a b => if b > a then b else a) x)
def minI : List Int → Option Int
  | [] => none
  | x :: r => some (r.foldl (fun a b => if b < a then b else a) x)
def dle (a b : D) : Bool := !PySem.W.dataLt b a
/-- sorted, where the library's sort serves -/
def sortable (xs : List D) : Bool :=
  (xs.all fun d => xs.all fun e => PySem.W.alike d e) && ((xs.all fun d => match d with | .tuple (_ :: _) => true | _ => false) || (xs.all fun d => match d with | .none => false | .tuple _ => false | _ => true)) && (xs.all fun d => decide (d.depth ≤ 100))
def sortD (xs : List D) : Option (List D) := if sortable xs then some (xs.mergeSort dle) else none
def dedup : List D → List D
  | [] => []
  | x :: r => x :: (dedup r).filter fun y => !PyData.eqv x y
/-- each once, the first of equal ones -/
def ddp {α : Type} [DecidableEq α] : List α → List α
  | [] => []
  | x :: r => x :: (ddp r).filter fun y => !decide (y = x)
def strLe (x y : Str) : Bool := !decide (y.cps.toList < x.cps.toList)
def ssetI (ns : List Int) : List Int := (ddp ns).mergeSort fun a b => decide (a ≤ b)
def ssetS (ss : List Str) : List Str := (ddp ss).mergeSort strLe
def ssetL (xs : List D) : Option (List D) := if xs.length ≤ 4000 then (match asInts xs with
    | some ns => some ((ssetI ns).map .int)
    | none => (asStrs xs).map fun ss => (ssetS ss).map .str) else none
def isTy : Ty → D → Bool
  | .int, .int _ => true
  | .int, .bool _ => true
  | .bool, .bool _ => true
  | .str, .str _ => true
  | .tuple, .tuple _ => true
  | _, _ => false
def negD1 : D → Option D
  | .int i => some (.int (-i))
  | _ => none
def lenD1 : D → Option D
  | .str x => if x.length ≤ LIM then some (.int x.length) else none
  | .list xs => some (.int xs.length)
  | .tuple xs => some (.int xs.length)
  | _ => none
def tupleD1 : D → Option D
  | .list xs => some (.tuple xs)
  | .tuple xs => some (.tuple xs)
  | _ => none
def listD1 : D → Option D
  | .list xs => some (.list xs)
  | .tuple xs => some (.list xs)
  | .str x => if x.length ≤ LIM then some (.list (x.cps.toList.map chr)) else none
  | _ => none
def sortedD1 : D → Option D
  | .list xs => (sortD xs).map .list
  | .tuple xs => (sortD xs).map .list
  | _ => none
def ssetD1 : D → Option D
  | .list xs => (ssetL xs).map .list
  | _ => none
def allD1 : D → Option D
  | .list xs => (asBools xs).map fun bs => .bool (bs.all id)
  | _ => none
def anyD1 : D → Option D
  | .list xs => (asBools xs).map fun bs => .bool (bs.any id)
  | _ => none
def maxD1 : D → Option D
  | .list xs => (asInts xs).bind fun ns => (maxI ns).map .int
  | .tuple xs => (asInts xs).bind fun ns => (maxI ns).map .int
  | _ => none
/-- pairs of numbers -/
def asPrs : List D → Option (List (Int × Int))
  | [] => some []
  | .tuple [.int a, .int b] :: r => (asPrs r).map ((a, b) :: ·)
  | _ :: _ => none
def prLt (p q : Int × Int) : Bool := decide (p.1 < q.1) || (decide (p.1 = q.1) && decide (p.2 < q.2))
def minP : List (Int × Int) → Option (Int × Int)
  | [] => none
  | x :: r => some (r.foldl (fun a b => if prLt b a = true then b else a) x)
def minD1 : D → Option D
  | .list xs => (match asInts xs with
    | some ns => (minI ns).map .int
    | none => (asPrs xs).bind fun ps => (minP ps).map fun p => .tuple [.int p.1, .int p.2])
  | _ => none
def revD1 : D → Option D
  | .list xs => some (.list xs.reverse)
  | _ => none
/-- list(range(n)) -/
def lrngD1 : D → Option D
  | .int n => if n ≤ LIM ∧ -(LIM : Int) ≤ n then some (.list ((List.range n.toNat).map fun (i : Nat) => .int (i : Int))) else none
  | _ => none
def isBD1 (b : Bool) : D → Option D
  | .bool c => some (.bool (decide (c = b)))
  | _ => none
def notBD1 (b : Bool) : D → Option D
  | .bool c => some (.bool (!decide (c = b)))
  | _ => none
def intD1 : D → Option D
  | .int i => some (.int i)
  | .bool b => some (.int (if b then 1 else 0))
  | _ => none
def isID1 (t : Ty) : D → Option D
  | d => some (.bool (isTy t d))
def isNoneD1 : D → Option D
  | d => some (.bool (match d with | .none => true | _ => false))
def notNoneD1 : D → Option D
  | d => some (.bool (match d with | .none => false | _ => true))
def op1 : O1 → D → Option D
  | .neg => negD1
  | .len => lenD1
  | .tuple => tupleD1
  | .list => listD1
  | .sorted => sortedD1
  | .sset => ssetD1
  | .all => allD1
  | .any => anyD1
  | .max => maxD1
  | .min => minD1
  | .int => intD1
  | .isI t => isID1 t
  | .isNone => isNoneD1
  | .notNone => notNoneD1
  | .str => fun _ => none
  | .rev => revD1
  | .lrng => lrngD1
  | .isB b => isBD1 b
  | .notB b => notBD1 b
def isIn (d : D) (xs : List D) : Bool := xs.any fun z => PyData.eqv z d
def addD2 : D → D → Option D
  | .int a, .int b => some (.int (a + b))
  | .str a, .str b => if a.length + b.length ≤ LIM then some (.str (a ++ b)) else none
  | .tuple a, .tuple b => if a.length + b.length ≤ LIM then some (.tuple (a ++ b)) else none
  | .list a, .list b => if a.length + b.length ≤ LIM then some (.list (a ++ b)) else none
  | _, _ => none
def subD2 : D → D → Option D
  | .int a, .int b => some (.int (a - b))
  | _, _ => none
def mulD2 : D → D → Option D
  | .int a, .int b => if a.natAbs < 2 ^ 64 ∨ b.natAbs < 2 ^ 64 then some (.int (a * b)) else none
  | .tuple a, .int b => if a.isEmpty = true then (if -(2 ^ 63) ≤ b ∧ b < 2 ^ 63 then some (.tuple []) else none) else if 1 ≤ b ∧ b ≤ 1000 ∧ a.length ≤ 1000 then some (.tuple (List.replicate b.toNat a).flatten) else none
  | .list a, .int b => if 0 ≤ b ∧ b ≤ 1000 ∧ a.length ≤ 1000 then some (.list (List.replicate b.toNat a).flatten) else none
  | _, _ => none
def fdivD2 : D → D → Option D
  | .int a, .int b => if 0 < b ∧ b < 1073741824 then some (.int (a / b)) else none
  | _, _ => none
def modD2 : D → D → Option D
  | .int a, .int b => if 0 < b then some (.int (a % b)) else none
  | _, _ => none
def powD2 : D → D → Option D
  | .int a, .int b => if 0 ≤ b ∧ b ≤ 1000000 ∧ a.natAbs < 2 ^ 64 then some (.int (a ^ b.toNat)) else none
  | _, _ => none
def eqD2 : D → D → Option D
  | a, b => if a.depth ≤ 100 ∨ b.depth ≤ 100 then some (.bool (PyData.eqv a b)) else none
def neD2 : D → D → Option D
  | a, b => if a.depth ≤ 100 ∨ b.depth ≤ 100 then some (.bool (!PyData.eqv a b)) else none
def ltD2 : D → D → Option D
  | .int a, .int b => some (.bool (decide (a < b)))
  | .str a, .str b => some (.bool (decide (a.cps.toList < b.cps.toList)))
  | .tuple a, .tuple b => (asInts a).bind fun x => (asInts b).map fun y => .bool (decide (x < y))
  | _, _ => none
def leD2 : D → D → Option D
  | .int a, .int b => some (.bool (decide (a ≤ b)))
  | .str a, .str b => some (.bool (!decide (b.cps.toList < a.cps.toList)))
  | _, _ => none
def gtD2 : D → D → Option D
  | .int a, .int b => some (.bool (decide (b < a)))
  | _, _ => none
def geD2 : D → D → Option D
  | .int a, .int b => some (.bool (decide (b ≤ a)))
  | _, _ => none
def innD2 : D → D → Option D
  | d, .list xs => if d.depth ≤ 100 then some (.bool (isIn d xs)) else none
  | d, .tuple xs => if d.depth ≤ 100 then some (.bool (isIn d xs)) else none
  | .str x, .str z => match x.cps.toList with | [c] => some (.bool (decide (c ∈ z.cps.toList))) | _ => none
  | _, _ => none
def ninD2 : D → D → Option D
  | d, .list xs => if d.depth ≤ 100 then some (.bool (!isIn d xs)) else none
  | d, .tuple xs => if d.depth ≤ 100 then some (.bool (!isIn d xs)) else none
  | .str x, .str z => match x.cps.toList with | [c] => some (.bool (!decide (c ∈ z.cps.toList))) | _ => none
  | _, _ => none
def idxD2 : D → D → Option D
  | .list xs, .int i => getI xs i
  | .tuple xs, .int i => getI xs i
  | .str z, .int i => if z.length ≤ LIM then (getI z.cps.toList i).map chr else none
  | _, _ => none
def joinD2 : D → D → Option D
  | .str s, .list xs => (asStrs xs).bind fun ss => if (ss.map (·.length)).sum + ss.length * s.length ≤ LIM then some (.str (Str.join s ss)) else none
  | _, _ => none
def indexD2 : D → D → Option D
  | .list xs, d => if (PyData.list xs).depth ≤ 64 ∧ d.depth ≤ 64 then (xs.findIdx? fun z => PyData.eqv z d).map fun (i : Nat) => .int i else none
  | _, _ => none
def max2D2 : D → D → Option D
  | .int a, .int b => some (.int (if b > a then b else a))
  | _, _ => none
def min2D2 : D → D → Option D
  | .int a, .int b => some (.int (if b < a then b else a))
  | _, _ => none
def maxDD2 : D → D → Option D
  | .tuple xs, .int z => (asInts xs).map fun ns => .int ((maxI ns).getD z)
  | _, _ => none
def op2 : O2 → D → D → Option D
  | .add => addD2
  | .sub => subD2
  | .mul => mulD2
  | .fdiv => fdivD2
  | .mod => modD2
  | .pow => powD2
  | .eq => eqD2
  | .ne => neD2
  | .lt => ltD2
  | .le => leD2
  | .gt => gtD2
  | .ge => geD2
  | .inn => innD2
  | .nin => ninD2
  | .idx => idxD2
  | .join => joinD2
  | .max2 => max2D2
  | .min2 => min2D2
  | .maxD => maxDD2
def slice (d : D) (lo hi : Option Int) : Option D := match d with
  | .list xs => some (.list (cut xs lo hi))
  | .tuple xs => some (.tuple (cut xs lo hi))
  | .str z => if z.length ≤ LIM then some (.str ⟨(cut z.cps.toList lo hi).toArray⟩) else none
  | _ => none
def asLst : D → Option (List D)
  | .list xs => some xs
  | _ => none
def asInt : D → Option Int
  | .int i => some i
  | _ => none
/-- what a for walks -/
def items : D → Option (List D)
  | .list xs => some xs
  | .tuple xs => some xs
  | .str z => if z.length ≤ LIM then some (z.cps.toList.map chr) else none
  | _ => none
def enum (xs : List D) : List D := xs.zipIdx.map fun p => .tuple [.int p.2, p.1]
def zipD (xs ys : List D) : List D := (xs.zip ys).map fun p => .tuple [p.1, p.2]
def rngI (a : Int) (n : Nat) : List D := (List.range n).map fun (i : Nat) => .int (a + i)

inductive Tg where
  | nm (i : Nat) | t2 (a b : Tg) | t3 (a b c : Tg)
mutual
inductive E where
  | var (i : Nat) | ro (i : Nat) | cst (d : D) | glb (x : Str) (d : D)
  | op1 (o : O1) (a : E) | op2 (o : O2) (a b : E)
  | slL (a lo : E) | slU (a hi : E) | slB (a lo hi : E)
  | chain (o p : O2) (a b c : E)
  | tup (es : Es) | lst (es : Es)
  | and (a b : E) | or (a b : E) | not (a : E)
  | ite (c : T) (a b : E)
  | comp (vs : List Nat) (elt : E) (tg : Tg) (src : I) (cd : T)
  | call (f : Nat) (es : As)
  | cidx (i : Nat) (k : E)
  | refd (e : E)
  | index (a b : E)
inductive T where
  | yes | e (a : E) | and (a b : T) | or (a b : T) | not (a : T)
inductive Es where
  | nil | cons (e : E) (es : Es)
inductive As where
  | nil | cons (e : E) (es : As) | cel (i : Nat) (es : As)
inductive I where
  | seq (e : E) | rng1 (e : E) | rng2 (a b : E) | enum (e : E) | zip (a b : E)
end
inductive R where
  | e (a : E) | own (a : E) | cel (es : Es)
mutual
inductive S where
  | set (i : Nat) (r : R) | par (i j : Nat) (r q : R) | par3 (i j l : Nat) (r q u : R) | par4 (i j l m : Nat) (r q u v : R) | unp (tg : Tg) (e : E)
  | app (i : Nat) (e : E) | ext (i : Nat) (e : E) | six (i : Nat) (k e : E) | pop (i : Nat) | popi (i : Nat) (e : E) | apop (i j : Nat) (e : E)
  | aug (i : Nat) (e : E) | cset (i : Nat) (k e : E) | exp (e : E) | rt (e : E)
  | ifs (c : T) (a b : Ss) | fr (tg : Tg) (src : I) (b : Ss) | wh (c : T) (b : Ss)
  | rais (cls : Str) (e : E) | frz (i : Nat) | cont | brk
  | zret (i : Nat) (a b : E) (vs : List Nat) (elt : E) (tg : Tg)
inductive Ss where
  | nil | cons (s : S) (r : Ss)
end

structure Ctx where
  call : Nat → List Av → M Av
  fuel : Nat

def bind1 : Tg → D → Env → Option Env
  | .nm i, x, env => some (env.set i (some (.dat x)))
  | .t2 a b, .tuple [x, y], env => (bind1 a x env).bind (bind1 b y)
  | .t3 a b c, .tuple [x, y, z], env => ((bind1 a x env).bind (bind1 b y)).bind (bind1 c z)
  | _, _, _ => none
def wipeE (env : Env) : List Nat → Env
  | [] => env
  | v :: vs => (wipeE env vs).set v none
/-- a comprehension's turns -/
def compM (env : Env) (tg : Tg) (cd : Env → M Bool) (elt : Env → M D) : List D → M (List D)
  | [] => ret []
  | x :: xs => bnd (lift (bind1 tg x env)) fun env' => bnd (noerr (cd env')) fun b =>
    if b then bnd (noerr (elt env')) fun y => bnd (compM env tg cd elt xs) fun ys => ret (y :: ys) else compM env tg cd elt xs
inductive Fl where
  | next (env : Env) | ret (v : Av) | brk (env : Env) | cont (env : Env)
def forM (tg : Tg) (body : Env → M Fl) : List D → Env → M Fl
  | [], env => ret (.next env)
  | x :: xs, env => bnd (lift (bind1 tg x env)) fun env' => bnd (body env') fun f => match f with
    | .next e => forM tg body xs e
    | .cont e => forM tg body xs e
    | .brk e => ret (.next e)
    | .ret v => ret (.ret v)
def whileM (c : Env → M Bool) (body : Env → M Fl) : Nat → Env → M Fl
  | 0, _ => fail
  | n + 1, env => bnd (c env) fun b => if b then bnd (body env) fun f => match f with
      | .next e => whileM c body n e
      | .cont e => whileM c body n e
      | .brk e => ret (.next e)
      | .ret v => ret (.ret v)
    else ret (.next env)
def getD (env : Env) (i : Nat) : Option D := match env[i]? with
  | some (some (.dat d)) => some d
  | _ => none
def getO (env : Env) (i : Nat) : Option (List D) := match env[i]? with
  | some (some (.own d)) => some d
  | _ => none
def getC (env : Env) (i : Nat) : Option Nat := match env[i]? with
  | some (some (.cel d)) => some d
  | _ => none
def celL (r : Nat) : M (List D) := fun S => match S[r]? with
  | some (.lst xs) => some (.ok xs, S)
  | _ => none
def celSet (r : Nat) (xs : List D) : M Unit := fun S => some (.ok (), S.set r (.lst xs))
def celNew (xs : List D) : M Nat := fun S => some (.ok S.length, S ++ [.lst xs])
def asB : D → Option Bool
  | .bool b => some b
  | _ => none

mutual
def evE (Γ : Ctx) : E → Env → M D
  | .var i, env => lift (getD env i)
  | .ro i, env => lift ((getO env i).map .list)
  | .cst d, _ => ret d
  | .glb _ d, _ => ret d
  | .op1 o a, env => bnd (evE Γ a env) fun x => lift (op1 o x)
  | .op2 o a b, env => bnd (evE Γ a env) fun x => bnd (evE Γ b env) fun y => lift (op2 o x y)
  | .slL a lo, env => bnd (evE Γ a env) fun x => bnd (evE Γ lo env) fun l => lift ((asInt l).bind fun l => slice x (some l) none)
  | .slU a hi, env => bnd (evE Γ a env) fun x => bnd (evE Γ hi env) fun h => lift ((asInt h).bind fun h => slice x none (some h))
  | .slB a lo hi, env => bnd (evE Γ a env) fun x => bnd (evE Γ lo env) fun l => bnd (lift (asInt l)) fun l => bnd (evE Γ hi env) fun h => lift ((asInt h).bind fun h => slice x (some l) (some h))
  | .chain o p a b c, env => bnd (evE Γ a env) fun x => bnd (evE Γ b env) fun y => bnd (lift ((op2 o x y).bind asB)) fun r =>
      if r then bnd (evE Γ c env) fun z => lift (op2 p y z) else ret (.bool false)
  | .tup es, env => bnd (evEs Γ es env) fun xs => ret (.tuple xs)
  | .lst es, env => bnd (evEs Γ es env) fun xs => ret (.list xs)
  | .and a b, env => bnd (evE Γ a env) fun x => bnd (lift (asB x)) fun r => if r then evE Γ b env else ret (.bool false)
  | .or a b, env => bnd (evE Γ a env) fun x => bnd (lift (asB x)) fun r => if r then ret (.bool true) else evE Γ b env
  | .not a, env => bnd (evE Γ a env) fun x => bnd (lift (truth x)) fun r => ret (.bool (!r))
  | .ite c a b, env => bnd (evT Γ c env) fun r => if r then evE Γ a env else evE Γ b env
  | .comp vs elt tg src cd, env => bnd (evI Γ src env) fun xs => bnd (compM (wipeE env vs) tg (evT Γ cd) (evE Γ elt) xs) fun ys => ret (.list ys)
  | .call f es, env => bnd (evAs Γ es env) fun vs => bnd (Γ.call f vs) fun r => match r with
      | .d x => ret x
      | .c _ => fail
  | .cidx i k, env => bnd (lift (getC env i)) fun r => bnd (evE Γ k env) fun j => bnd (celL r) fun xs => lift ((asInt j).bind (getI xs))
  | .index a b, env => bnd (evE Γ a env) fun x => bnd (lift (asLst x)) fun xs => bnd (evE Γ b env) fun y => lift (indexD2 (.list xs) y)
  | .refd e, env => fun S => match evE Γ e env S with
      | some (.ok _, S') => some (.ok (.str ""), S')
      | some (.err c x, S') => if c = "BadArgument" then some (.ok x, S') else none
      | none => none
def evT (Γ : Ctx) : T → Env → M Bool
  | .yes, _ => ret true
  | .e a, env => bnd (evE Γ a env) fun x => lift (truth x)
  | .and a b, env => bnd (evT Γ a env) fun r => if r then evT Γ b env else ret false
  | .or a b, env => bnd (evT Γ a env) fun r => if r then ret true else evT Γ b env
  | .not a, env => bnd (evT Γ a env) fun r => ret (!r)
def evEs (Γ : Ctx) : Es → Env → M (List D)
  | .nil, _ => ret []
  | .cons e es, env => bnd (evE Γ e env) fun x => bnd (evEs Γ es env) fun xs => ret (x :: xs)
def evAs (Γ : Ctx) : As → Env → M (List Av)
  | .nil, _ => ret []
  | .cons e es, env => bnd (evE Γ e env) fun x => bnd (evAs Γ es env) fun xs => ret (.d x :: xs)
  | .cel i es, env => bnd (lift (getC env i)) fun r => bnd (evAs Γ es env) fun xs => ret (.c r :: xs)
def evI (Γ : Ctx) : I → Env → M (List D)
  | .seq e, env => bnd (evE Γ e env) fun x => lift (items x)
  | .rng1 e, env => bnd (evE Γ e env) fun x => lift ((asInt x).bind fun n => if n ≤ LIM ∧ -(LIM : Int) ≤ n then some (rngI 0 n.toNat) else none)
  | .rng2 a b, env => bnd (evE Γ a env) fun x => bnd (evE Γ b env) fun y => lift ((asInt x).bind fun a => (asInt y).bind fun b => if a ≤ LIM ∧ -(LIM : Int) ≤ a ∧ b ≤ LIM ∧ -(LIM : Int) ≤ b ∧ b - a ≤ LIM then some (rngI a (b - a).toNat) else none)
  | .enum e, env => bnd (evE Γ e env) fun x => lift ((items x).map enum)
  | .zip a b, env => bnd (evE Γ a env) fun x => bnd (evE Γ b env) fun y => lift ((items x).bind fun xs => (items y).map fun ys => zipD xs ys)
end
def evR (Γ : Ctx) : R → Env → M Slot
  | .e a, env => bnd (evE Γ a env) fun x => ret (.dat x)
  | .own a, env => bnd (evE Γ a env) fun x => match x with
      | .list xs => ret (.own xs)
      | _ => fail
  | .cel es, env => bnd (evEs Γ es env) fun xs => bnd (celNew xs) fun r => ret (.cel r)
mutual
def evS (Γ : Ctx) : S → Env → M Fl
  | .set i r, env => bnd (evR Γ r env) fun s => ret (.next (env.set i (some s)))
  | .par i j r q, env => bnd (evR Γ r env) fun s => bnd (evR Γ q env) fun t => ret (.next ((env.set i (some s)).set j (some t)))
  | .par3 i j l r q u, env => bnd (evR Γ r env) fun s => bnd (evR Γ q env) fun t => bnd (evR Γ u env) fun w => ret (.next (((env.set i (some s)).set j (some t)).set l (some w)))
  | .par4 i j l m r q u v, env => bnd (evR Γ r env) fun s => bnd (evR Γ q env) fun t => bnd (evR Γ u env) fun w => bnd (evR Γ v env) fun x => ret (.next ((((env.set i (some s)).set j (some t)).set l (some w)).set m (some x)))
  | .unp tg e, env => bnd (evE Γ e env) fun x => bnd (lift (bind1 tg x env)) fun env' => ret (.next env')
  | .app i e, env => bnd (lift (getO env i)) fun xs => bnd (evE Γ e env) fun x => if xs.length < LIM then ret (.next (env.set i (some (.own (xs ++ [x]))))) else fail
  | .ext i e, env => bnd (lift (getO env i)) fun xs => bnd (evE Γ e env) fun x => match x with
      | .list ys => if xs.length + ys.length ≤ LIM then ret (.next (env.set i (some (.own (xs ++ ys))))) else fail
      | _ => fail
  | .six i k e, env => bnd (evE Γ e env) fun x => bnd (lift (getO env i)) fun xs => bnd (evE Γ k env) fun j => bnd (lift ((asInt j).bind (ixI xs.length))) fun j =>
      ret (.next (env.set i (some (.own (xs.set j x)))))
  | .pop i, env => bnd (lift (getO env i)) fun xs => if xs.isEmpty then fail else ret (.next (env.set i (some (.own xs.dropLast))))
  | .popi i e, env => bnd (lift (getO env i)) fun xs => bnd (evE Γ e env) fun k => bnd (lift (if xs.length ≤ LIM then (asInt k).bind (ixI xs.length) else none)) fun k => ret (.next (env.set i (some (.own (xs.eraseIdx k)))))
  | .zret i a b vs elt tg, env => bnd (evE Γ a env) fun x => bnd (evE Γ b env) fun y => bnd (lift ((items x).bind fun xs => (items y).map fun ys => zipD xs ys)) fun zs =>
      bnd (compM (wipeE (env.set i none) vs) tg (evT Γ .yes) (evE Γ elt) zs) fun ys => ret (.ret (.d (.tuple ys)))
  | .apop i j e, env => bnd (lift (getO env i)) fun xs => bnd (lift (getO env j)) fun ys => bnd (evE Γ e env) fun k => bnd (lift (if ys.length ≤ LIM then (asInt k).bind (ixI ys.length) else none)) fun k => bnd (lift ys[k]?) fun x =>
      if i = j ∨ ¬ xs.length < LIM then fail else ret (.next ((env.set j (some (.own (ys.eraseIdx k)))).set i (some (.own (xs ++ [x])))))
  | .aug i e, env => bnd (lift (getD env i)) fun x => bnd (evE Γ e env) fun y => bnd (lift ((asInt x).bind fun a => (asInt y).map fun b => a + b)) fun z => ret (.next (env.set i (some (.dat (.int z)))))
  | .cset i k e, env => bnd (evE Γ e env) fun x => bnd (lift (getC env i)) fun r => bnd (evE Γ k env) fun j => bnd (celL r) fun xs => bnd (lift ((asInt j).bind (ixI xs.length))) fun j =>
      bnd (celSet r (xs.set j x)) fun _ => ret (.next env)
  | .exp e, env => bnd (evE Γ e env) fun _ => ret (.next env)
  | .rt e, env => bnd (evE Γ e env) fun x => ret (.ret (.d x))
  | .ifs c a b, env => bnd (evT Γ c env) fun r => if r then evSs Γ a env else evSs Γ b env
  | .fr tg src b, env => bnd (evI Γ src env) fun xs => forM tg (evSs Γ b) xs env
  | .wh c b, env => whileM (evT Γ c) (evSs Γ b) Γ.fuel env
  | .rais cls e, env => bnd (evE Γ e env) fun x => fun S => some (.err cls x, S)
  | .frz i, env => bnd (lift (getO env i)) fun xs => ret (.next (env.set i (some (.dat (.list xs)))))
  | .cont, env => ret (.cont env)
  | .brk, env => ret (.brk env)
def evSs (Γ : Ctx) : Ss → Env → M Fl
  | .nil, env => ret (.next env)
  | .cons s r, env => bnd (evS Γ s env) fun f => match f with
      | .next e => evSs Γ r e
      | .cont e => ret (.cont e)
      | .brk e => ret (.brk e)
      | .ret v => ret (.ret v)
end
structure Def where
  np : Nat
  nn : Nat
  body : Ss
def slotOf : Av → Slot
  | .d x => .dat x
  | .c r => .cel r
def env0 (d : Def) (as : List Av) : Env := as.map (fun a => some (slotOf a)) ++ List.replicate (d.nn - d.np) none
def callDef (Γ : Ctx) (d : Def) (as : List Av) : M Av := fun S =>
  if as.length = d.np then match evSs Γ d.body (env0 d as) S with
    | some (.ok (.ret (.d x)), S') => some (.ok (.d x), S'.take S.length)
    | some (.ok (.ret (.c r)), S') => some (.ok (.c r), S')
    | some (.ok (.next _), S') => some (.ok (.d .none), S'.take S.length)
    | some (.err c x, S') => some (.err c x, S'.take S.length)
    | _ => none
  else none
def run (tbl : Nat → Option Def) (fuel : Nat) : Nat → Nat → List Av → M Av
  | 0, _, _ => fail
  | k + 1, f, as => match tbl f with
    | some d => callDef ⟨run tbl fuel k, fuel⟩ d as
    | none => fail
end DL
end

section
/-! Sd1: what it means that data lies in the heap -/
namespace DL
open PySem PySem.Spec PyProof.Rows L2

/-- a list that stands for good: locked, or one of the module's own -/
def FzL (K : PySem.W.Frag) (H : Hp) (a : Addr) (xs : List V) : Prop :=
  (∃ o, H a = some (.frz o (.lst xs))) ∨
    ∃ (o : Obj) (its : Array Value) (n : Nat), K.lookup a = some o ∧ o.cls = .type "list" ∧ o.dict = none ∧ o.data = .seq its n ∧ its.size ≤ sizeLine ∧ Vals xs its.toList
theorem FzL.sq {K : PySem.W.Frag} {H : Hp} {a : Addr} {xs : List V} (h : FzL K H a xs) : SqL K H a xs := by
  rcases h with ⟨o, h⟩ | h
  · exact .inl (.inr ⟨o, h⟩)
  · exact .inr h
mutual
inductive Rp (K : PySem.W.Frag) (H : Hp) : V → D → Prop
  | non : Rp K H .non .none
  | bl (b : Bool) : Rp K H (.bl b) (.bool b)
  | int (i : Int) : Rp K H (.int i) (.int i)
  | str (x : Str) : PyData.strOk x = true → Rp K H (.str x) (.str x)
  | lst {a : Addr} {xs : List V} {ds : List D} : FzL K H a xs → RpAll K H xs ds → Rp K H (.ref a) (.list ds)
  | tup {a : Addr} {xs : List V} {ds : List D} : SqT K H a xs → RpAll K H xs ds → Rp K H (.ref a) (.tuple ds)
inductive RpAll (K : PySem.W.Frag) (H : Hp) : List V → List D → Prop
  | nil : RpAll K H [] []
  | cons {v : V} {vs : List V} {d : D} {ds : List D} : Rp K H v d → RpAll K H vs ds → RpAll K H (v :: vs) (d :: ds)
end
/-- what stands for good, stands -/
structure Per (H H' : Hp) : Prop where
  tup : ∀ b xs, H b = some (.tup xs) → H' b = some (.tup xs)
  frz : ∀ b o u, H b = some (.frz o u) → H' b = some (.frz o u)
theorem Per.refl (H : Hp) : Per H H := ⟨fun _ _ h => h, fun _ _ _ h => h⟩
theorem Per.trans {H H1 H2 : Hp} (a : Per H H1) (b : Per H1 H2) : Per H H2 := ⟨fun _ _ h => b.tup _ _ (a.tup _ _ h), fun _ _ _ h => b.frz _ _ _ (a.frz _ _ _ h)⟩
theorem Per.of {H H' : Hp} (k : ∀ b u, H b = some u → H' b = some u) : Per H H' := ⟨fun _ _ h => k _ _ h, fun _ _ _ h => k _ _ h⟩
theorem FzL.mono {K : PySem.W.Frag} {H H' : Hp} {a : Addr} {xs : List V} (p : Per H H') (h : FzL K H a xs) : FzL K H' a xs := by
  rcases h with ⟨o, h⟩ | h
  · exact .inl ⟨o, p.frz _ _ _ h⟩
  · exact .inr h
theorem SqT.mono {K : PySem.W.Frag} {H H' : Hp} {a : Addr} {xs : List V} (p : Per H H') (h : SqT K H a xs) : SqT K H' a xs := by
  rcases h with (h | ⟨o, h⟩) | h
  · exact .inl (.inl (p.tup _ _ h))
  · exact .inl (.inr ⟨o, p.frz _ _ _ h⟩)
  · exact .inr h
mutual
theorem Rp.mono {K : PySem.W.Frag} {H H' : Hp} (p : Per H H') : ∀ {v : V} {d : D}, Rp K H v d → Rp K H' v d
  | _, _, .non => .non
  | _, _, .bl b => .bl b
  | _, _, .int i => .int i
  | _, _, .str x h => .str x h
  | _, _, .lst h a => .lst (h.mono p) (RpAll.mono p a)
  | _, _, .tup h a => .tup (SqT.mono p h) (RpAll.mono p a)
theorem RpAll.mono {K : PySem.W.Frag} {H H' : Hp} (p : Per H H') : ∀ {v : List V} {d : List D}, RpAll K H v d → RpAll K H' v d
  | _, _, .nil => .nil
  | _, _, .cons a b => .cons (Rp.mono p a) (RpAll.mono p b)
end
mutual
theorem Rp.dp {K : PySem.W.Frag} {H : Hp} : ∀ {v : V} {d : D}, Rp K H v d → Dp K H v d
  | _, _, .non => .non
  | _, _, .bl b => .bl b
  | _, _, .int i => .int i
  | _, _, .str x _ => .str x
  | _, _, .lst h a => .lst h.sq (RpAll.dp a)
  | _, _, .tup h a => .tup h (RpAll.dp a)
theorem RpAll.dp {K : PySem.W.Frag} {H : Hp} : ∀ {v : List V} {d : List D}, RpAll K H v d → DpAll K H v d
  | _, _, .nil => .nil
  | _, _, .cons a b => .cons (Rp.dp a) (RpAll.dp b)
end
mutual
theorem Rp.can {K : PySem.W.Frag} {H : Hp} : ∀ {v : V} {d : D}, Rp K H v d → PyData.canLay0 d = true
  | _, _, .non => by simp [PyData.canLay0]
  | _, _, .bl b => by simp [PyData.canLay0]
  | _, _, .int i => by simp [PyData.canLay0]
  | _, _, .str x h => by simp [PyData.canLay0, h]
  | _, _, .lst h a => by simp only [PyData.canLay0]; exact RpAll.can a
  | _, _, .tup h a => by simp only [PyData.canLay0]; exact RpAll.can a
theorem RpAll.can {K : PySem.W.Frag} {H : Hp} : ∀ {v : List V} {d : List D}, RpAll K H v d → PyData.canLayAll0 d = true
  | _, _, .nil => by simp [PyData.canLayAll0]
  | _, _, .cons a b => by simp only [PyData.canLayAll0, Bool.and_eq_true]; exact ⟨Rp.can a, RpAll.can b⟩
end
section
variable {K : PySem.W.Frag} {H H' : Hp} {v : V} {vs ws : List V} {d : D} {ds es : List D}
theorem RpAll.length : ∀ {vs : List V} {ds : List D}, RpAll K H vs ds → vs.length = ds.length
  | _, _, .nil => rfl
  | _, _, .cons _ b => congrArg Nat.succ b.length
theorem RpAll.get : ∀ {vs : List V} {ds : List D} {i : Nat} {d : D}, RpAll K H vs ds → ds[i]? = some d → ∃ v, vs[i]? = some v ∧ Rp K H v d
  | _, _, _, _, .nil, e => by simp at e
  | _, _, 0, _, .cons r _, e => by simp at e; subst e; exact ⟨_, rfl, r⟩
  | _, _, i + 1, d, .cons _ t, e => by
    obtain ⟨u, h1, h2⟩ := RpAll.get (i := i) (d := d) t (by simpa using e)
    exact ⟨u, by simpa using h1, h2⟩
theorem RpAll.getV : ∀ {vs : List V} {ds : List D} {i : Nat} {v : V}, RpAll K H vs ds → vs[i]? = some v → ∃ d, ds[i]? = some d ∧ Rp K H v d
  | _, _, _, _, .nil, e => by simp at e
  | _, _, 0, _, .cons r _, e => by simp at e; subst e; exact ⟨_, rfl, r⟩
  | _, _, i + 1, d, .cons _ t, e => by
    obtain ⟨u, h1, h2⟩ := RpAll.getV (i := i) (v := d) t (by simpa using e)
    exact ⟨u, by simpa using h1, h2⟩
theorem RpAll.append : ∀ {vs : List V} {ds : List D}, RpAll K H vs ds → RpAll K H ws es → RpAll K H (vs ++ ws) (ds ++ es)
  | _, _, .nil, s => s
  | _, _, .cons r t, s => .cons r (RpAll.append t s)
theorem RpAll.take : ∀ {vs : List V} {ds : List D} (n : Nat), RpAll K H vs ds → RpAll K H (vs.take n) (ds.take n)
  | _, _, 0, _ => .nil
  | _, _, _ + 1, .nil => .nil
  | _, _, n + 1, .cons r t => .cons r (RpAll.take n t)
theorem RpAll.drop : ∀ {vs : List V} {ds : List D} (n : Nat), RpAll K H vs ds → RpAll K H (vs.drop n) (ds.drop n)
  | _, _, 0, r => r
  | _, _, _ + 1, .nil => .nil
  | _, _, n + 1, .cons _ t => RpAll.drop n t
theorem RpAll.set : ∀ {vs : List V} {ds : List D} (n : Nat), RpAll K H vs ds → Rp K H v d → RpAll K H (vs.set n v) (ds.set n d)
  | _, _, _, .nil, _ => .nil
  | _, _, 0, .cons _ t, r => .cons r t
  | _, _, n + 1, .cons q t, r => .cons q (RpAll.set n t r)
theorem RpAll.erase : ∀ {vs : List V} {ds : List D} (n : Nat), RpAll K H vs ds → RpAll K H (vs.eraseIdx n) (ds.eraseIdx n)
  | _, _, _, .nil => .nil
  | _, _, 0, .cons _ t => t
  | _, _, n + 1, .cons q t => .cons q (RpAll.erase n t)
theorem RpAll.dropLast (h : RpAll K H vs ds) : RpAll K H vs.dropLast ds.dropLast := by
  rw [List.dropLast_eq_take, List.dropLast_eq_take, h.length]
  exact h.take _
theorem RpAll.rep (h : RpAll K H vs ds) : ∀ k : Nat, RpAll K H (List.replicate k vs).flatten (List.replicate k ds).flatten
  | 0 => .nil
  | k + 1 => by
    rw [List.replicate_succ, List.replicate_succ, List.flatten_cons, List.flatten_cons]
    exact h.append (h.rep k)
theorem RpAll.snoc (h : RpAll K H vs ds) (r : Rp K H v d) : RpAll K H (vs ++ [v]) (ds ++ [d]) := h.append (.cons r .nil)
theorem Rp.asInt {i : Int} (h : Rp K H v (.int i)) : v = .int i := by cases h; rfl
theorem RpAll.ints : ∀ {vs : List V} {ns : List Int}, RpAll K H vs (ns.map .int) → vs = ns.map V.int
  | _, [], h => by cases h; rfl
  | _, n :: ns, h => by
    cases h with
    | cons a b => rw [a.asInt, RpAll.ints b]; rfl
theorem asInts_eq : ∀ {ds : List D} {ns : List Int}, asInts ds = some ns → ds = ns.map .int
  | [], _, h => by cases h; rfl
  | .int i :: r, ns, h => by
    simp only [asInts, Option.map_eq_some_iff] at h
    obtain ⟨ms, h1, rfl⟩ := h
    rw [asInts_eq h1]; rfl
  | .none :: _, _, h | .bool _ :: _, _, h | .str _ :: _, _, h | .list _ :: _, _, h | .tuple _ :: _, _, h | .dict _ :: _, _, h => by simp [asInts] at h
theorem asBools_eq : ∀ {ds : List D} {ns : List Bool}, asBools ds = some ns → ds = ns.map .bool
  | [], _, h => by cases h; rfl
  | .bool i :: r, ns, h => by
    simp only [asBools, Option.map_eq_some_iff] at h
    obtain ⟨ms, h1, rfl⟩ := h
    rw [asBools_eq h1]; rfl
  | .none :: _, _, h | .int _ :: _, _, h | .str _ :: _, _, h | .list _ :: _, _, h | .tuple _ :: _, _, h | .dict _ :: _, _, h => by simp [asBools] at h
theorem asStrs_eq : ∀ {ds : List D} {ns : List Str}, asStrs ds = some ns → ds = ns.map .str
  | [], _, h => by cases h; rfl
  | .str i :: r, ns, h => by
    simp only [asStrs, Option.map_eq_some_iff] at h
    obtain ⟨ms, h1, rfl⟩ := h
    rw [asStrs_eq h1]; rfl
  | .none :: _, _, h | .int _ :: _, _, h | .bool _ :: _, _, h | .list _ :: _, _, h | .tuple _ :: _, _, h | .dict _ :: _, _, h => by simp [asStrs] at h
theorem RpAll.bools : ∀ {vs : List V} {ns : List Bool}, RpAll K H vs (ns.map .bool) → vs = ns.map V.bl
  | _, [], h => by cases h; rfl
  | _, n :: ns, h => by
    cases h with
    | cons a b => cases a; rw [RpAll.bools b]; rfl
theorem RpAll.strs : ∀ {vs : List V} {ns : List Str}, RpAll K H vs (ns.map .str) → vs = ns.map V.str ∧ ∀ x ∈ ns, PyData.strOk x = true
  | _, [], h => by cases h; exact ⟨rfl, fun _ h => by cases h⟩
  | _, n :: ns, h => by
    cases h with
    | cons a b =>
      obtain ⟨h1, h2⟩ := RpAll.strs b
      cases a with
      | str _ ho =>
        rw [h1]
        exact ⟨rfl, fun x hx => by rcases List.mem_cons.mp hx with rfl | hx; exact ho; exact h2 x hx⟩
theorem RpAll.of_ints : ∀ ns : List Int, RpAll K H (ns.map V.int) (ns.map .int)
  | [] => .nil
  | n :: ns => .cons (.int n) (RpAll.of_ints ns)
end

/-- the program's facts, fixed for a law -/
structure Glob where
  P : Program
  w : World
  K : PySem.W.Frag
  mg : Str → Option Value
  base : Heap
  /-- an own error class: its object, its field -/
  exc : Str → Option (Addr × Str)
  T : List (Addr × Str)

/-- nothing of note lies there: nothing, or a table -/
def NoV (H : Hp) (b : Addr) : Prop := ∀ u, H b = some u → ∃ ps, u = .tbl ps
theorem NoV.of {H : Hp} {b : Addr} (h : H b = none) : NoV H b := fun u e => by rw [h] at e; cases e
theorem NoV.lst {H : Hp} {b : Addr} {vs : List V} (h : NoV H b) (e : H b = some (.lst vs)) : False := by
  obtain ⟨ps, z⟩ := h _ e
  cases z
/-- from H to H': only the cells at ρ change, new ones come -/
structure Ext (G : Glob) (ρ : List Addr) (H : Hp) (ρ' : List Addr) (H' : Hp) : Prop where
  pre : ∃ more, ρ' = ρ ++ more
  keep : ∀ b u, H b = some u → (∀ ps, u ≠ .tbl ps) → b ∉ ρ → H' b = some u
  new : ∀ b ∈ ρ', b ∉ ρ → NoV H b
  there : ∀ b, NoV H' b → NoV H b
  per : Per H H'
  tabs : LamX.Tabs G.T H → LamX.Tabs G.T H'
section
variable {G : Glob} {ρ ρ1 ρ2 ρ' : List Addr} {H H1 H2 H' : Hp}
theorem Ext.refl (G : Glob) (ρ : List Addr) (H : Hp) : Ext G ρ H ρ H := ⟨⟨[], by simp⟩, fun _ _ h _ _ => h, fun _ h1 h2 => absurd h1 h2, fun _ h => h, Per.refl H, fun h => h⟩
theorem Ext.trans (a : Ext G ρ H ρ1 H1) (b : Ext G ρ1 H1 ρ2 H2) : Ext G ρ H ρ2 H2 where
  pre := by
    obtain ⟨m, e⟩ := a.pre
    obtain ⟨m', e'⟩ := b.pre
    exact ⟨m ++ m', by rw [e', e, List.append_assoc]⟩
  keep := fun c u h n hc => by
    have h1 := a.keep c u h n hc
    refine b.keep c u h1 n fun hm => ?_
    obtain ⟨ps, z⟩ := a.new c hm hc _ h
    exact n ps z
  new := fun c hm hc => by
    by_cases h1 : c ∈ ρ1
    · exact a.new c h1 hc
    · exact a.there c (b.new c hm h1)
  there := fun c h => a.there c (b.there c h)
  per := a.per.trans b.per
  tabs := fun h => b.tabs (a.tabs h)
/-- new things alone -/
theorem Ext.grow (k : ∀ b u, H b = some u → H' b = some u) : Ext G ρ H ρ H' where
  pre := ⟨[], by simp⟩
  keep := fun b u h _ _ => k b u h
  new := fun _ h1 h2 => absurd h1 h2
  there := fun b h u q => h u (k b u q)
  per := Per.of k
  tabs := fun h => h.ext k
theorem grow_upd {a : Addr} {o : HO} (hn : H a = none) : ∀ b u, H b = some u → upd H a o b = some u := fun b u h => by
  rw [upd_ne (ne_of_none h hn)]; exact h
theorem Ext.upd {a : Addr} {o : HO} (hn : H a = none) : Ext G ρ H ρ (upd H a o) := .grow (grow_upd hn)
theorem Ext.sub (e : Ext G ρ H ρ' H') {b : Addr} (h : b ∈ ρ) : b ∈ ρ' := by
  obtain ⟨m, q⟩ := e.pre
  rw [q]; exact List.mem_append_left _ h
end

/-- the shared cells -/
structure StR (G : Glob) (ρ : List Addr) (S : Store) (H : Hp) : Prop where
  len : S.length = ρ.length
  nd : ρ.Nodup
  at_ : ∀ (i : Nat) (xs : List D), S[i]? = some (.lst xs) → ∃ a vs, ρ[i]? = some a ∧ H a = some (.lst vs) ∧ RpAll G.K H vs xs
def SlotR (G : Glob) (ρ : List Addr) (H : Hp) (x : Option V) : Slot → Prop
  | .dat d => ∃ v, x = some v ∧ Rp G.K H v d
  | .own xs => ∃ a vs, x = some (.ref a) ∧ H a = some (.lst vs) ∧ RpAll G.K H vs xs ∧ a ∉ ρ
  | .cel r => ∃ a, x = some (.ref a) ∧ ρ[r]? = some a
structure EnvR (G : Glob) (ρ : List Addr) (env : Env) (σ : L2.St) (H : Hp) : Prop where
  len : env.length = σ.length
  slot : ∀ (i : Nat) (s : Slot), env[i]? = some (some s) → ∃ x, σ[i]? = some x ∧ SlotR G ρ H x s
  own : ∀ (i j : Nat) (xs ys : List D) (a : Addr), env[i]? = some (some (.own xs)) → env[j]? = some (some (.own ys)) → σ[i]? = some (some (.ref a)) → σ[j]? = some (some (.ref a)) → i = j
structure SR (G : Glob) (ρ : List Addr) (env : Env) (S : Store) (σ : L2.St) (H : Hp) : Prop where
  env : EnvR G ρ env σ H
  st : StR G ρ S H
  tabs : LamX.Tabs G.T H
section
variable {G : Glob} {ρ ρ1 ρ2 ρ' : List Addr} {H H1 H2 H' : Hp} {env : Env} {S S' : Store} {σ : L2.St}
theorem not_tbl_lst (vs : List V) : ∀ ps, HO.lst vs ≠ .tbl ps := fun _ z => nomatch z
theorem SlotR.ext {x : Option V} {s : Slot} (e : Ext G ρ H ρ' H') (h : SlotR G ρ H x s) : SlotR G ρ' H' x s := by
  cases s with
  | dat d => obtain ⟨v, h1, h2⟩ := h; exact ⟨v, h1, h2.mono e.per⟩
  | own xs =>
    obtain ⟨a, vs, h1, h2, h3, h4⟩ := h
    refine ⟨a, vs, h1, e.keep a _ h2 (not_tbl_lst _) h4, h3.mono e.per, fun hm => ?_⟩
    exact (e.new a hm h4).lst h2
  | cel r =>
    obtain ⟨a, h1, h2⟩ := h
    obtain ⟨m, q⟩ := e.pre
    refine ⟨a, h1, ?_⟩
    have hr : r < ρ.length := (List.getElem?_eq_some_iff.mp h2).1
    rw [q, List.getElem?_append_left hr]; exact h2
theorem EnvR.ext (e : Ext G ρ H ρ' H') (h : EnvR G ρ env σ H) : EnvR G ρ' env σ H' :=
  ⟨h.len, fun i s q => by
    obtain ⟨x, h1, h2⟩ := h.slot i s q
    exact ⟨x, h1, h2.ext e⟩, h.own⟩
theorem SR.ext (e : Ext G ρ H ρ' H') (h : SR G ρ env S σ H) (st : StR G ρ' S' H') : SR G ρ' env S' σ H' := ⟨h.env.ext e, st, e.tabs h.tabs⟩
theorem StR.grow (k : ∀ b u, H b = some u → H' b = some u) (h : StR G ρ S H) : StR G ρ S H' :=
  ⟨h.len, h.nd, fun i xs q => by
    obtain ⟨a, vs, h1, h2, h3⟩ := h.at_ i xs q
    exact ⟨a, vs, h1, k _ _ h2, h3.mono (Per.of k)⟩⟩
theorem StR.mem (h : StR G ρ S H) {a : Addr} (ha : a ∈ ρ) : ∃ vs, H a = some (.lst vs) := by
  obtain ⟨i, hi, e⟩ := List.mem_iff_getElem.mp ha
  have hS : i < S.length := by rw [h.len]; exact hi
  obtain ⟨c, hc⟩ : ∃ c, S[i]? = some c := ⟨S[i], List.getElem?_eq_getElem hS⟩
  cases c with
  | lst xs =>
    obtain ⟨b, vs, h1, h2, _⟩ := h.at_ i xs hc
    rw [List.getElem?_eq_getElem hi, e] at h1
    cases h1
    exact ⟨vs, h2⟩
theorem StR.fresh (h : StR G ρ S H) {a : Addr} (ha : H a = none) : a ∉ ρ := fun hm => by
  obtain ⟨vs, q⟩ := h.mem hm
  rw [ha] at q; cases q
end
/-- data that may be read now: for good, or an own list -/
def Tr (G : Glob) (ρ : List Addr) (H : Hp) (x : V) (d : D) : Prop :=
  Rp G.K H x d ∨ ∃ a vs ds, x = .ref a ∧ d = .list ds ∧ a ∉ ρ ∧ H a = some (.lst vs) ∧ RpAll G.K H vs ds
section
variable {G : Glob} {ρ ρ' : List Addr} {H H' : Hp} {x : V} {d : D}
theorem Tr.ext (e : Ext G ρ H ρ' H') (h : Tr G ρ H x d) : Tr G ρ' H' x d := by
  rcases h with h | ⟨a, vs, ds, h1, h2, h3, h4, h5⟩
  · exact .inl (h.mono e.per)
  · refine .inr ⟨a, vs, ds, h1, h2, fun hm => ?_, e.keep a _ h4 (not_tbl_lst _) h3, h5.mono e.per⟩
    exact (e.new a hm h3).lst h4
theorem Tr.dp (h : Tr G ρ H x d) : Dp G.K H x d := by
  rcases h with h | ⟨a, vs, ds, rfl, rfl, h3, h4, h5⟩
  · exact h.dp
  · exact .lst (SqL.of h4) h5.dp
theorem Tr.can (h : Tr G ρ H x d) : PyData.canLay0 d = true := by
  rcases h with h | ⟨a, vs, ds, rfl, rfl, h3, h4, h5⟩
  · exact h.can
  · simp only [PyData.canLay0]; exact h5.can
theorem Tr.lst {ds : List D} (h : Tr G ρ H x (.list ds)) : ∃ a vs, x = .ref a ∧ SqL G.K H a vs ∧ RpAll G.K H vs ds := by
  rcases h with h | ⟨a, vs, ds', h1, h2, h3, h4, h5⟩
  · cases h with
    | lst h1 h2 => exact ⟨_, _, rfl, h1.sq, h2⟩
  · cases h2; exact ⟨a, vs, h1, SqL.of h4, h5⟩
theorem Tr.tup {ds : List D} (h : Tr G ρ H x (.tuple ds)) : ∃ a vs, x = .ref a ∧ SqT G.K H a vs ∧ RpAll G.K H vs ds := by
  rcases h with h | ⟨a, vs, ds', h1, h2, h3, h4, h5⟩
  · cases h with
    | tup h1 h2 => exact ⟨_, _, rfl, h1, h2⟩
  · cases h2
theorem Tr.int {i : Int} (h : Tr G ρ H x (.int i)) : x = .int i := by
  rcases h with h | ⟨a, vs, ds', h1, h2, h3, h4, h5⟩
  · cases h; rfl
  · cases h2
theorem Tr.bl {i : Bool} (h : Tr G ρ H x (.bool i)) : x = .bl i := by
  rcases h with h | ⟨a, vs, ds', h1, h2, h3, h4, h5⟩
  · cases h; rfl
  · cases h2
theorem Tr.non (h : Tr G ρ H x .none) : x = .non := by
  rcases h with h | ⟨a, vs, ds', h1, h2, h3, h4, h5⟩
  · cases h; rfl
  · cases h2
theorem Tr.str {i : Str} (h : Tr G ρ H x (.str i)) : x = .str i ∧ PyData.strOk i = true := by
  rcases h with h | ⟨a, vs, ds', h1, h2, h3, h4, h5⟩
  · cases h; exact ⟨rfl, by assumption⟩
  · cases h2
end
end DL
end

section
/-! Sd2: the operations on data -/
namespace DL
open PySem PySem.Spec PyProof.Rows L2

abbrev gl (X : Cx) (exc : Str → Option (Addr × Str)) (T : List (Addr × Str)) : Glob := ⟨X.prog, X.w, X.K, X.mg, X.base, exc, T⟩
def Grow (H H' : Hp) : Prop := ∀ b u, H b = some u → H' b = some u
theorem Grow.refl (H : Hp) : Grow H H := fun _ _ h => h
/-- what an operation gives: a list is new -/
def NewV (G : Glob) (H H' : Hp) (z : V) : D → Prop
  | .list ds => ∃ a vs, z = .ref a ∧ H a = none ∧ H' a = some (.lst vs) ∧ RpAll G.K H' vs ds
  | d => Rp G.K H' z d
def Nv (G : Glob) : Bool → Hp → Hp → V → D → Prop
  | true, H, H', z, r => NewV G H H' z r
  | false, _, H', z, r => Rp G.K H' z r
def rD1 (G : Glob) (nw : Bool) (f : D → Option D) : V → Hp → VK → Prop := fun x H Q => ∃ ρ d r, Tr G ρ H x d ∧ f d = some r ∧ ∀ z H', Grow H H' → Nv G nw H H' z r → Q z H'
def rD2 (G : Glob) (nw : Bool) (f : D → D → Option D) : R2 := fun x y H Q => ∃ ρ d e r, Tr G ρ H x d ∧ Tr G ρ H y e ∧ f d e = some r ∧ ∀ z H', Grow H H' → Nv G nw H H' z r → Q z H'
section
variable {G : Glob} {H : Hp} {Q : VK}
theorem nv_lst {nw : Bool} {r : D} {ys : List V} {ds : List D} (hr : r = .list ds) (hn : nw = true) (q : ∀ z H', Grow H H' → Nv G nw H H' z r → Q z H') (ha : RpAll G.K H ys ds) {p : Addr} (hp : H p = none) : Q (.ref p) (upd H p (.lst ys)) := by
  subst hr; subst hn
  refine q _ _ (grow_upd hp) ?_
  have h : NewV G H (upd H p (.lst ys)) (.ref p) (.list ds) := ⟨p, ys, rfl, hp, upd_same, ha.mono (Per.of (grow_upd hp))⟩
  exact h
theorem nv_tup {nw : Bool} {r : D} {ys : List V} {ds : List D} (hr : r = .tuple ds) (q : ∀ z H', Grow H H' → Nv G nw H H' z r → Q z H') (ha : RpAll G.K H ys ds) {p : Addr} (hp : H p = none) : Q (.ref p) (upd H p (.tup ys)) := by
  subst hr
  refine q _ _ (grow_upd hp) ?_
  have h : Rp G.K (upd H p (.tup ys)) (.ref p) (.tuple ds) := .tup (SqT.of upd_same) (ha.mono (Per.of (grow_upd hp)))
  cases nw with
  | true => exact h
  | false => exact h
theorem nv_old {nw : Bool} {r : D} {z : V} (hr : ∀ ds, r ≠ .list ds) (q : ∀ z H', Grow H H' → Nv G nw H H' z r → Q z H') (h : Rp G.K H z r) : Q z H := by
  refine q _ _ (Grow.refl H) ?_
  cases nw with
  | false => exact h
  | true => cases r with
    | list ds => exact absurd rfl (hr ds)
    | _ => exact h
theorem nv_int {nw : Bool} {i : Int} (q : ∀ z H', Grow H H' → Nv G nw H H' z (.int i) → Q z H') : Q (.int i) H := nv_old (by intro _ h; cases h) q (.int i)
theorem nv_bl {nw : Bool} {i : Bool} (q : ∀ z H', Grow H H' → Nv G nw H H' z (.bool i) → Q z H') : Q (.bl i) H := nv_old (by intro _ h; cases h) q (.bl i)
theorem nv_str {nw : Bool} {i : Str} (h : PyData.strOk i = true) (q : ∀ z H', Grow H H' → Nv G nw H H' z (.str i) → Q z H') : Q (.str i) H := nv_old (by intro _ h; cases h) q (.str i h)
end
theorem line_eq : LIM = sizeLine := by rw [sizeLine_eq]; rfl
theorem strOk_append {a b : Str} (ha : PyData.strOk a = true) (hb : PyData.strOk b = true) : PyData.strOk (a ++ b) = true := by
  show (a.cps ++ b.cps).all _ = true
  rw [Array.all_append]
  exact Bool.and_eq_true_iff.mpr ⟨ha, hb⟩
theorem strOk_iff {a : Str} : PyData.strOk a = true ↔ ∀ c ∈ a.cps.toList, c < 0x110000 := by
  unfold PyData.strOk
  rw [← Array.all_toList, List.all_eq_true]
  exact ⟨fun h c hc => by simpa using h c hc, fun h c hc => by simpa using h c hc⟩
theorem ixN_eq (n : Nat) (i : Int) : L2.ixN n i = ixI n i := by
  unfold L2.ixN ixI
  split
  · rfl
  · by_cases h : 0 ≤ i + (n : Int)
    · rw [if_pos h, if_pos (by omega)]
    · rw [if_neg h, if_neg (by omega)]
theorem atI_eq {α : Type} (xs : List α) (i : Int) : L2.atI xs i = getI xs i := by
  unfold L2.atI getI L2.ixN
  by_cases h0 : 0 ≤ i
  · rw [if_pos h0, if_pos h0]
    by_cases h1 : i < xs.length
    · rw [if_pos h1]; rfl
    · rw [if_neg h1]
      symm
      exact List.getElem?_eq_none (by omega)
  · rw [if_neg h0, if_neg h0]
    by_cases h1 : 0 ≤ i + (xs.length : Int)
    · rw [if_pos h1, if_pos (by omega)]; rfl
    · rw [if_neg h1, if_neg (by omega)]; rfl
theorem sIx_eq (n d : Nat) (o : Option Int) : HT.sIx n d o = cutIx n d o := by cases o <;> rfl
theorem RpAll.getI {K : PySem.W.Frag} {H : Hp} {vs : List V} {ds : List D} {d : D} (h : RpAll K H vs ds) {i : Int} (e : DL.getI ds i = some d) : ∃ v, L2.atI vs i = some v ∧ Rp K H v d := by
  rw [atI_eq]
  unfold DL.getI at *
  rw [h.length]
  split at e
  · rename_i h0; rw [if_pos h0]; exact h.get e
  · rename_i h0
    rw [if_neg h0]
    split at e
    · rename_i h1; rw [if_pos h1]; exact h.get e
    · cases e
theorem lexLt_dec : ∀ ns ms : List Int, HT.lexLt ns ms = decide (ns < ms)
  | [], [] => by simp [HT.lexLt_nil_nil]
  | [], m :: ms => by simp [HT.lexLt_nil_cons]
  | n :: ns, [] => by simp [HT.lexLt_cons_nil]
  | n :: ns, m :: ms => by
    rw [HT.lexLt_cons, lexLt_dec ns ms]
    by_cases h : n = m
    · subst h; simp [List.cons_lt_cons_iff]
    · rw [if_neg h]
      simp [List.cons_lt_cons_iff, h]
theorem room_min {A : Around} {a b : D} {n : Nat} (h : a.depth ≤ 100 ∨ b.depth ≤ 100) (hu : A.units + 164 < cLine) : A.units + min a.depth b.depth < cLine := by
  have h1 : min a.depth b.depth ≤ a.depth := Nat.min_le_left _ _
  have h2 : min a.depth b.depth ≤ b.depth := Nat.min_le_right _ _
  omega
section
variable {X : Cx} {exc : Str → Option (Addr × Str)} {T : List (Addr × Str)}
theorem o2_add : OpR X (binaryOp .Add) (rD2 (gl X exc T) true (op2 .add)) := by
  intro pins s σ H x y v u Q I rx ry h
  obtain ⟨ρ, d, e, r, hd, he, hr, q⟩ := h
  replace hr : addD2 d e = some r := hr
  unfold addD2 at hr
  split at hr <;> first
    | (cases hr; done)
    | skip
  · cases hr
    obtain rfl := hd.int
    obtain rfl := he.int
    exact op_add pins s σ H _ _ v u Q I rx ry ⟨_, _, rfl, rfl, nv_int q⟩
  · split at hr
    · cases hr
      obtain ⟨rfl, o1⟩ := hd.str
      obtain ⟨rfl, o2⟩ := he.str
      exact op_add_str pins s σ H _ _ v u Q I rx ry ⟨_, _, rfl, rfl, by rw [← line_eq]; assumption, nv_str (strOk_append o1 o2) q⟩
    · cases hr
  · split at hr
    · rename_i hz
      cases hr
      obtain ⟨a, vs, rfl, ha, ra⟩ := hd.tup
      obtain ⟨b, ws, rfl, hb, rb⟩ := he.tup
      refine op_catA pins s σ H _ _ v u Q I rx ry ⟨a, b, vs, ws, rfl, rfl, ha, hb, by rw [ra.length, rb.length, ← line_eq]; exact hz, fun e => ?_, fun _ e => ?_, fun _ _ p hp => ?_⟩
      · subst e; cases ra
        refine nv_old (by intro _ h; cases h) q ?_
        exact .tup hb rb
      · subst e; cases rb
        refine nv_old (by intro _ h; cases h) q ?_
        rw [List.append_nil]
        exact .tup ha ra
      · exact nv_tup rfl q (ra.append rb) hp
    · cases hr
  · split at hr
    · rename_i hz
      cases hr
      obtain ⟨a, vs, rfl, ha, ra⟩ := hd.lst
      obtain ⟨b, ws, rfl, hb, rb⟩ := he.lst
      obtain ⟨its, r1, ⟨⟨c1, d1, dt1, s1⟩, n1, ho1, hc1, hd1, hs1⟩, hz1⟩ := I.list ha
      obtain ⟨its2, r2, ⟨⟨c2, d2, dt2, s2⟩, n2, ho2, hc2, hd2, hs2⟩, hz2⟩ := I.list hb
      simp only at hc1 hs1 hc2 hs2
      subst hc1 hs1 hc2 hs2
      cases rx
      cases ry
      have l1 := r1.length
      have l2 := r2.length
      have m1 := ra.length
      have m2 := rb.length
      have hsz : its.length + its2.length ≤ sizeLine := by rw [← line_eq]; omega
      refine concat_meets ⟨_, ho1, rfl⟩ ⟨_, ho2, rfl⟩ noFill_list_add seq_list_add PySem.F.slot_list_add PySem.F.entry_list_add (PySem.F.args_list_add_2 _ _) (PyProof.Rows.list_addW a b its.toArray its2.toArray n1 n2 d1 d2 s1 s2 (by simpa using hsz)) ⟨ho1, ho2, ?_⟩
      have e : its.toArray ++ its2.toArray = (its ++ its2).toArray := by simp
      rw [e]
      refine ⟨.ref _, _, I.lnew (t' := s.toks) (r1.append r2) (by rw [List.length_append]; omega), rfl, nv_lst rfl rfl q (ra.append rb) I.fresh⟩
    · cases hr
theorem o2_sub : OpR X (binaryOp .Sub) (rD2 (gl X exc T) true (op2 .sub)) := by
  intro pins s σ H x y v u Q I rx ry h
  obtain ⟨ρ, d, e, r, hd, he, hr, q⟩ := h
  replace hr : subD2 d e = some r := hr
  unfold subD2 at hr
  split at hr <;> first
    | (cases hr; done)
    | skip
  cases hr
  obtain rfl := hd.int
  obtain rfl := he.int
  exact op_sub pins s σ H _ _ v u Q I rx ry ⟨_, _, rfl, rfl, nv_int q⟩
theorem o2_fdiv : OpR X (binaryOp .FloorDiv) (rD2 (gl X exc T) true (op2 .fdiv)) := by
  intro pins s σ H x y v u Q I rx ry h
  obtain ⟨ρ, d, e, r, hd, he, hr, q⟩ := h
  replace hr : fdivD2 d e = some r := hr
  unfold fdivD2 at hr
  split at hr <;> first
    | (cases hr; done)
    | skip
  split at hr
  · cases hr
    obtain rfl := hd.int
    obtain rfl := he.int
    exact op_fdiv pins s σ H _ _ v u Q I rx ry ⟨_, _, rfl, rfl, by assumption, nv_int q⟩
  · cases hr
theorem o2_mod : OpR X (binaryOp .Mod) (rD2 (gl X exc T) true (op2 .mod)) := by
  intro pins s σ H x y v u Q I rx ry h
  obtain ⟨ρ, d, e, r, hd, he, hr, q⟩ := h
  replace hr : modD2 d e = some r := hr
  unfold modD2 at hr
  split at hr <;> first
    | (cases hr; done)
    | skip
  split at hr
  · cases hr
    obtain rfl := hd.int
    obtain rfl := he.int
    exact op_mod pins s σ H _ _ v u Q I rx ry ⟨_, _, rfl, rfl, by assumption, nv_int q⟩
  · cases hr
theorem o2_pow : OpR X (binaryOp .Pow) (rD2 (gl X exc T) true (op2 .pow)) := by
  intro pins s σ H x y v u Q I rx ry h
  obtain ⟨ρ, d, e, r, hd, he, hr, q⟩ := h
  replace hr : powD2 d e = some r := hr
  unfold powD2 at hr
  split at hr <;> first
    | (cases hr; done)
    | skip
  split at hr
  · cases hr
    obtain rfl := hd.int
    obtain rfl := he.int
    exact op_pow pins s σ H _ _ v u Q I rx ry ⟨_, _, rfl, rfl, by assumption, nv_int q⟩
  · cases hr
theorem o2_eq (hu : X.A.units + 164 < cLine) : OpR X (compareOp .Eq) (rD2 (gl X exc T) true (op2 .eq)) := by
  intro pins s σ H x y v u Q I rx ry h
  obtain ⟨ρ, d, e, r, hd, he, hr, q⟩ := h
  replace hr : (if d.depth ≤ 100 ∨ e.depth ≤ 100 then some (PyData.bool (PyData.eqv d e)) else none) = some r := hr
  by_cases hz : d.depth ≤ 100 ∨ e.depth ≤ 100
  · rw [if_pos hz] at hr
    cases hr
    obtain ⟨as, r1⟩ := Dp.reads I _ x v hd.dp rx
    obtain ⟨bs, r2⟩ := Dp.reads I _ y u he.dp ry
    exact SeqAt.compareEq_reads r1 r2 hd.can he.can (room_min (n := 0) hz hu) ⟨.bl _, H, I, rfl, nv_bl q⟩
  · rw [if_neg hz] at hr; cases hr
theorem o2_ne (hu : X.A.units + 164 < cLine) : OpR X (compareOp .NotEq) (rD2 (gl X exc T) true (op2 .ne)) := by
  intro pins s σ H x y v u Q I rx ry h
  obtain ⟨ρ, d, e, r, hd, he, hr, q⟩ := h
  replace hr : (if d.depth ≤ 100 ∨ e.depth ≤ 100 then some (PyData.bool (!PyData.eqv d e)) else none) = some r := hr
  by_cases hz : d.depth ≤ 100 ∨ e.depth ≤ 100
  · rw [if_pos hz] at hr
    cases hr
    obtain ⟨as, r1⟩ := Dp.reads I _ x v hd.dp rx
    obtain ⟨bs, r2⟩ := Dp.reads I _ y u he.dp ry
    exact SeqAt.compareNe_reads r1 r2 hd.can he.can (room_min (n := 0) hz hu) ⟨.bl _, H, I, rfl, nv_bl q⟩
  · rw [if_neg hz] at hr; cases hr
theorem o2_lt (hu : X.A.units + 164 < cLine) : OpR X (compareOp .Lt) (rD2 (gl X exc T) true (op2 .lt)) := by
  intro pins s σ H x y v u Q I rx ry h
  obtain ⟨ρ, d, e, r, hd, he, hr, q⟩ := h
  replace hr : ltD2 d e = some r := hr
  unfold ltD2 at hr
  split at hr <;> first
    | (cases hr; done)
    | skip
  · cases hr
    obtain rfl := hd.int
    obtain rfl := he.int
    exact op_lt pins s σ H _ _ v u Q I rx ry ⟨_, _, rfl, rfl, nv_bl q⟩
  · cases hr
    obtain ⟨rfl, _⟩ := hd.str
    obtain ⟨rfl, _⟩ := he.str
    exact op_lt_str pins s σ H _ _ v u Q I rx ry ⟨_, _, rfl, rfl, nv_bl q⟩
  · simp only [Option.bind_eq_some_iff, Option.map_eq_some_iff] at hr
    obtain ⟨ns, h1, ms, h2, rfl⟩ := hr
    obtain ⟨a, vs, rfl, ha, ra⟩ := hd.tup
    obtain ⟨b, ws, rfl, hb, rb⟩ := he.tup
    have e1 := asInts_eq h1
    have e2 := asInts_eq h2
    subst e1 e2
    rw [ra.ints] at ha
    rw [rb.ints] at hb
    have el : HT.lexLt ns ms = decide (ns < ms) := lexLt_dec ns ms
    exact op_ltT (by omega) pins s σ H _ _ v u Q I rx ry ⟨a, b, ns, ms, rfl, rfl, ha, hb, by rw [el]; exact nv_bl q⟩
theorem o2_le : OpR X (compareOp .LtE) (rD2 (gl X exc T) true (op2 .le)) := by
  intro pins s σ H x y v u Q I rx ry h
  obtain ⟨ρ, d, e, r, hd, he, hr, q⟩ := h
  replace hr : leD2 d e = some r := hr
  unfold leD2 at hr
  split at hr <;> first
    | (cases hr; done)
    | skip
  · cases hr
    obtain rfl := hd.int
    obtain rfl := he.int
    exact op_le pins s σ H _ _ v u Q I rx ry ⟨_, _, rfl, rfl, nv_bl q⟩
  · cases hr
    obtain ⟨rfl, _⟩ := hd.str
    obtain ⟨rfl, _⟩ := he.str
    exact op_le_str pins s σ H _ _ v u Q I rx ry ⟨_, _, rfl, rfl, nv_bl q⟩
theorem o2_gt : OpR X (compareOp .Gt) (rD2 (gl X exc T) true (op2 .gt)) := by
  intro pins s σ H x y v u Q I rx ry h
  obtain ⟨ρ, d, e, r, hd, he, hr, q⟩ := h
  replace hr : gtD2 d e = some r := hr
  unfold gtD2 at hr
  split at hr <;> first
    | (cases hr; done)
    | skip
  cases hr
  obtain rfl := hd.int
  obtain rfl := he.int
  exact op_gt pins s σ H _ _ v u Q I rx ry ⟨_, _, rfl, rfl, nv_bl q⟩
theorem o2_ge : OpR X (compareOp .GtE) (rD2 (gl X exc T) true (op2 .ge)) := by
  intro pins s σ H x y v u Q I rx ry h
  obtain ⟨ρ, d, e, r, hd, he, hr, q⟩ := h
  replace hr : geD2 d e = some r := hr
  unfold geD2 at hr
  split at hr <;> first
    | (cases hr; done)
    | skip
  cases hr
  obtain rfl := hd.int
  obtain rfl := he.int
  exact op_ge pins s σ H _ _ v u Q I rx ry ⟨_, _, rfl, rfl, nv_bl q⟩
theorem in_room {A : Around} {a : D} {ds : List D} (h : a.depth ≤ 100) (hu : A.units + 164 < cLine) : A.units + 1 + min (PyData.depthAll ds) a.depth < cLine := by
  have h2 : min (PyData.depthAll ds) a.depth ≤ a.depth := Nat.min_le_right _ _
  omega
theorem one_sign {x : Str} {c : Nat} (h : x.cps.toList = [c]) : x = ⟨#[c]⟩ := by
  have e : x.cps = #[c] := Array.toList_inj.mp (by rw [h])
  obtain ⟨cps⟩ := x
  cases e
  rfl
theorem o2_in (hu : X.A.units + 164 < cLine) : OpR X (compareOp .In) (rD2 (gl X exc T) true (op2 .inn)) := by
  intro pins s σ H x y v u Q I rx ry h
  obtain ⟨ρ, d, e, r, hd, he, hr, q⟩ := h
  replace hr : innD2 d e = some r := hr
  unfold innD2 at hr
  split at hr <;> first
    | (cases hr; done)
    | skip
  · split at hr
    · rename_i hz
      cases hr
      obtain ⟨as, r1⟩ := Dp.reads I _ x v hd.dp rx
      obtain ⟨bs, r2⟩ := Dp.reads I _ y u he.dp ry
      exact SeqAt.in_list_reads r2 r1 he.can hd.can (in_room hz hu) ⟨.bl _, H, I, rfl, nv_bl q⟩
    · cases hr
  · split at hr
    · rename_i hz
      cases hr
      obtain ⟨as, r1⟩ := Dp.reads I _ x v hd.dp rx
      obtain ⟨bs, r2⟩ := Dp.reads I _ y u he.dp ry
      exact SeqAt.in_tuple_reads r2 r1 he.can hd.can (in_room hz hu) ⟨.bl _, H, I, rfl, nv_bl q⟩
    · cases hr
  · split at hr
    · rename_i c hc
      cases hr
      obtain ⟨rfl, _⟩ := hd.str
      obtain ⟨rfl, _⟩ := he.str
      rw [one_sign hc] at rx
      exact op_in_sign pins s σ H _ _ v u Q I rx ry ⟨_, _, rfl, rfl, nv_bl q⟩
    · cases hr
theorem o2_nin (hu : X.A.units + 164 < cLine) : OpR X (compareOp .NotIn) (rD2 (gl X exc T) true (op2 .nin)) := by
  intro pins s σ H x y v u Q I rx ry h
  obtain ⟨ρ, d, e, r, hd, he, hr, q⟩ := h
  replace hr : ninD2 d e = some r := hr
  unfold ninD2 at hr
  split at hr <;> first
    | (cases hr; done)
    | skip
  · split at hr
    · rename_i hz
      cases hr
      obtain ⟨as, r1⟩ := Dp.reads I _ x v hd.dp rx
      obtain ⟨bs, r2⟩ := Dp.reads I _ y u he.dp ry
      exact SeqAt.notIn_list_reads r2 r1 he.can hd.can (in_room hz hu) ⟨.bl _, H, I, rfl, nv_bl q⟩
    · cases hr
  · split at hr
    · rename_i hz
      cases hr
      obtain ⟨as, r1⟩ := Dp.reads I _ x v hd.dp rx
      obtain ⟨bs, r2⟩ := Dp.reads I _ y u he.dp ry
      exact SeqAt.notIn_tuple_reads r2 r1 he.can hd.can (in_room hz hu) ⟨.bl _, H, I, rfl, nv_bl q⟩
    · cases hr
  · split at hr
    · rename_i c hc
      cases hr
      obtain ⟨rfl, _⟩ := hd.str
      obtain ⟨rfl, _⟩ := he.str
      rw [one_sign hc] at rx
      exact op_notIn_sign pins s σ H _ _ v u Q I rx ry ⟨_, _, rfl, rfl, nv_bl q⟩
    · cases hr
theorem o2_idx : IxR X (rD2 (gl X exc T) false (op2 .idx)) := by
  intro value slice pins s σ H x y v u Q I rx ry h hs
  obtain ⟨ρ, d, e, r, hd, he, hr, q⟩ := h
  replace hr : idxD2 d e = some r := hr
  unfold idxD2 at hr
  split at hr <;> first
    | (cases hr; done)
    | skip
  · obtain ⟨a, vs, rfl, ha, ra⟩ := hd.lst
    obtain rfl := he.int
    obtain ⟨z, hz, rz⟩ := ra.getI hr
    exact ix_list value slice pins s σ H _ _ v u Q I rx ry ⟨a, vs, _, z, rfl, rfl, ha, hz, q _ _ (Grow.refl H) rz⟩ hs
  · obtain ⟨a, vs, rfl, ha, ra⟩ := hd.tup
    obtain rfl := he.int
    obtain ⟨z, hz, rz⟩ := ra.getI hr
    exact ix_tup value slice pins s σ H _ _ v u Q I rx ry ⟨a, vs, _, z, rfl, rfl, ha, hz, q _ _ (Grow.refl H) rz⟩ hs
  · split at hr
    · rename_i hz
      obtain ⟨rfl, ho⟩ := hd.str
      obtain rfl := he.int
      simp only [Option.map_eq_some_iff] at hr
      obtain ⟨c, hc, rfl⟩ := hr
      refine ix_str value slice pins s σ H _ _ v u Q I rx ry ⟨_, _, c, rfl, rfl, by rw [← line_eq]; exact hz, by rw [atI_eq]; exact hc, q _ _ (Grow.refl H) (.str _ ?_)⟩ hs
      refine strOk_iff.mpr fun c' h' => ?_
      have e : c' = c := by simpa using h'
      subst e
      refine strOk_iff.mp ho _ ?_
      unfold getI at hc
      split at hc
      · exact List.mem_of_getElem? hc
      · split at hc
        · exact List.mem_of_getElem? hc
        · cases hc
    · cases hr
end
end DL
end

section
/-! Ss0: sorted of a tuple: the same as of the list of its items -/
namespace DL
open PySem PySem.Spec PyProof.Rows PySem.W PySem.Calls
section
variable {prog : Program} {w : World} {A : Around} {E : Value → Shared → Prop} {s : Shared} {t : Addr} {vs : List Value}
/-- the items of a tuple in a fresh list -/
theorem gather_tup {Q : List Value → Shared → Prop} (ht : s.heap.IsTuple t vs.toArray) (hL : vs.length ≤ sizeLine)
    (h : Q vs { s with heap := (s.heap.push (seqObj "list" #[] 0)).update s.heap.objs.size (Obj.mapSeq (· ++ vs.toArray)) }) : wpAny (model prog w) A (collect (.ref t)) Q E s := by
  obtain ⟨o, ho, hc, n, hd⟩ := id ht
  have ho2 : (s.heap.push (seqObj "list" #[] 0)).get? t = some o := Heap.get?_push_of_some _ ho
  have hn : (s.heap.push (seqObj "list" #[] 0)).get? s.heap.objs.size = some (seqObj "list" #[] 0) := Heap.get?_push_size _ rfl
  have fits : ((#[] : Array Value) ++ vs.toArray).size ≤ sizeLine + 1 := by
    simp only [Array.size_append, List.size_toArray, List.length_nil]
    omega
  have back : ((#[] : Array Value) ++ vs.toArray).toList = vs := by simp
  unfold collect
  apply wpAny_bind
  apply wpAny_runValue
  refine codeAny_builtin entry_proto_collect' ?_
  show wpAny _ _ (do again (.builtin "list.__iadd__" ⟨[← newList [], .ref t], []⟩)) _ _ s
  apply wpAny_bind
  refine wpAny_newList (wpAny_pure ⟨Code.quiet_builtin _ (by decide +kernel), codeAny_builtin entry_list_iadd' ?_⟩)
  show wpAny _ _ (Builtin.List.listExtendWith (.ref s.heap.objs.size) (.ref t) (.ref s.heap.objs.size)) _ _ { s with heap := s.heap.push (seqObj "list" #[] 0) }
  unfold Builtin.List.listExtendWith
  apply wpAny_bind
  refine wpAny_typeOf (T := "tuple") ⟨o, ho2, hc⟩ ?_
  rw [if_pos (by rw [show (Value.type "tuple" == Value.type "tuple") = true from rfl]; simp)]
  apply wpAny_bind
  refine listItems_at ho2 hd ?_
  apply wpAny_bind
  refine listItems_at hn rfl ?_
  rw [if_neg (by simp)]
  apply wpAny_bind
  refine listUpdate_at hn rfl ?_ (Nat.zero_le _) fits
  refine wpAny_pure ?_
  show wpAny (model prog w) A (do
      let o ← load s.heap.objs.size
      match o.data with
      | .seq xs _ => pure xs.toList
      | _ => unsupported "internal:collect") Q E { s with heap := (s.heap.push (seqObj "list" #[] 0)).update s.heap.objs.size (Obj.mapSeq (· ++ vs.toArray)) }
  apply wpAny_bind
  refine wpAny_load (get?_update_seq hn _) ?_
  show wpAny _ _ (pure ((#[] : Array Value) ++ vs.toArray).toList) Q E _
  rw [back]
  exact wpAny_pure h
theorem sorted_tup {β : Type} {bs : List β} {enc : β → PyData} {R : Value → β → Prop} {Q : Value → Shared → Prop} (ht : s.heap.IsTuple t vs.toArray) (e : EachIs R vs bs) (er : EachIs (fun v b => ∃ as, Reads s.heap v (enc b) as) vs bs) (hal : AllAlike (bs.map enc)) (hk : Sortable (bs.map enc)) (hL : bs.length ≤ sizeLine)
    (hu : ∀ b, b ∈ bs → A.units + 2 + (enc b).depth < cLine) (h : ∀ out, out.length = bs.length → EachIs R out (bs.mergeSort (dataLe false enc)) → Q (.ref (s.heap.objs.size + 1)) { s with heap := sortedAll s.heap vs (List.toArray out) }) :
    wpAny (model prog w) A (call (.builtin "sorted") [.ref t]) Q E s := by
  have hV : vs.length ≤ sizeLine := by rw [e.length]; exact hL
  have hsz : ((s.heap.push (seqObj "list" #[] 0)).update s.heap.objs.size (Obj.mapSeq (· ++ vs.toArray))).objs.size = s.heap.objs.size + 1 := by
    rw [Heap.size_update, size_push']
  have er' : EachIs (fun v b => ∃ as, Reads (sortingHeap (copyHeap s.heap vs) (s.heap.objs.size + 1) vs) v (enc b) as) vs bs := er.mono fun _ _ ⟨as, r⟩ => ⟨as, PyProof.Rows.Reads.keeps (fun _ _ => sorting_copy_old) r⟩
  have srt : ∀ E' : Value → Shared → Prop, wpAny (model prog w) A.in1.in1 (Builtin.«list.sort» ⟨[.ref (s.heap.objs.size + 1)], []⟩) (fun f s' => f = .done (.ret .none) ∧ Q (.ref (s.heap.objs.size + 1)) s') E' { s with heap := copyHeap s.heap vs } := fun E' =>
    list_sort_vals (s := { s with heap := copyHeap s.heap vs }) (copyHeap_at s.heap vs) (SortsAt.data (s := { s with heap := sortingHeap (copyHeap s.heap vs) (s.heap.objs.size + 1) vs }) (each_map (R := fun v d => ∃ as, Reads (sortingHeap (copyHeap s.heap vs) (s.heap.objs.size + 1) vs) v d as) enc er') hal hk (bound_map hu)) hV
      ⟨rfl, h _ (by rw [sortVals_length false rfl]; exact e.length) (sortVals_data false e er' hal)⟩
  refine call_function_entry kind_sorted plain_sorted entry_sorted (args_sorted1 _) ?_
  unfold Builtin.«sorted»
  refine wpAny_bind (m := checkCount "sorted" 1 1 _) (wpAny_pure ?_)
  apply wpAny_bind
  refine gather_tup ht hV ?_
  apply wpAny_bind
  refine wpAny_newList ?_ hV
  show wpAny _ _ _ _ _ { s with heap := copyHeap s.heap vs }
  rw [hsz]
  apply wpAny_bind
  apply wpAny_holding
  refine wpAny_call_entry slot_list_sort ⟨_, copyHeap_at s.heap vs, rfl⟩ entry_list_sort (wpAny_mono (srt _) (fun f s' hf => ?_) fun _ _ e => e) (args_list_sort _)
  obtain ⟨rfl, hq⟩ := hf
  exact ⟨_, rfl, wpAny_pure ⟨_, rfl, hq⟩⟩
end
end DL
end

section
/-! Sd2b: more operations on data -/
namespace DL
open PySem PySem.Spec PyProof.Rows L2
section
open PySem.SeqAt
open PySem.AutoSeq1 (wpAny_loadPart')
theorem tuple_mul1 (l : Addr) (items : Array Value) (n : Nat) (dd : Option Addr) (sl : Array (Option Value)) (x : Int) (u : Tok) (c0 : (decide (x < -(2 ^ 63)) || decide (x ≥ 2 ^ 63)) = false) (c1 : (items.isEmpty || x == 1) = true) :
    Meets (Builtin.«tuple.__mul__» ⟨[.ref l, .int x u], []⟩) (fun _ R s => s.heap.get? l = some { cls := .type "tuple", dict := dd, data := .seq items n, slots := sl } ∧ R (.ok (.ret (Value.ref l))) s) :=
  .of_wp fun prog w A R s h => by
    obtain ⟨hp, g, d, tk, os⟩ := s
    obtain ⟨hl, h⟩ := h
    have f1 := AutoSeq1.idx_int
    wp_walk using wpAny_loadPart' hl
    repeat (first
      | (refine wpAny_ite_false (decide_eq_false (by rw [c0]; exact Bool.false_ne_true)) ?_; wp_walk using wpAny_loadPart' hl)
      | (refine wpAny_ite_true (decide_eq_true c1) ?_; wp_walk using wpAny_loadPart' hl))
    exact ⟨_, rfl, h⟩
end

section
variable {X : Cx} {exc : Str → Option (Addr × Str)} {T : List (Addr × Str)}
theorem o2_mul : OpR X (binaryOp .Mult) (rD2 (gl X exc T) true (op2 .mul)) := by
  intro pins s σ H x y v u Q I rx ry h
  obtain ⟨ρ, d, e, r, hd, he, hr, q⟩ := h
  replace hr : mulD2 d e = some r := hr
  unfold mulD2 at hr
  split at hr <;> first
    | (cases hr; done)
    | skip
  · split at hr
    · rename_i hz
      cases hr
      obtain rfl := hd.int
      obtain rfl := he.int
      exact op_mul pins s σ H _ _ v u Q I rx ry ⟨_, _, rfl, rfl, by rcases hz with hz | hz; exact .inl (by omega); exact .inr (by omega), nv_int q⟩
    · cases hr
  · rename_i a b
    obtain ⟨p, vs, rfl, hp, ra⟩ := hd.tup
    obtain rfl := he.int
    have hl := ra.length
    have one : ∀ (z : D), ((a.isEmpty = true ∧ z = .tuple []) ∨ (b = 1 ∧ z = .tuple a)) → -(2 ^ 63) ≤ b → b < 2 ^ 63 → (∀ w H', Grow H H' → Nv (gl X exc T) true H H' w z → Q w H') → wpAny (model X.prog X.w) X.A (binaryOp .Mult v u) (EP X pins σ Q) X.xe s := fun z hz hb1 hb2 q => by
      cases rx
      obtain ⟨t, rfl⟩ := ry
      obtain ⟨its, r1, ⟨⟨cls, dd, data, sl⟩, ho, hc, n, hd'⟩, hs⟩ := I.tuple hp
      simp only at hc hd'
      subst hc hd'
      have c1 : (its.toArray.isEmpty || b == 1) = true := by
        rcases hz with ⟨h1, _⟩ | ⟨h1, _⟩
        · have e1 : a = [] := by simpa using h1
          rw [e1] at hl
          have e2 : its = [] := List.eq_nil_of_length_eq_zero (by rw [← r1.length, hl]; rfl)
          rw [e2]
          rfl
        · rw [h1]; simp
      have c0 : (decide (b < -(2 ^ 63)) || decide (b ≥ 2 ^ 63)) = false := by
        rw [decide_eq_false (by omega), decide_eq_false (by omega)]
        rfl
      refine wpAny_binaryOp_repeat_ref (T := "tuple") (U := "int") (by decide) ⟨_, ho, rfl⟩ (fun s' => typeIs_int s' b t) noFill_tuple_mul F.fills_int_mul F.slot_int_rmul repeat_tuple F.slot_int_index.lookup
        (call_meets F.slot_int_rmul (typeIs_int s b t) F.entry_int_rmul (F.args_int_rmul_2 _ _) (int_rmul_tuple b t p its.toArray n dd sl)
          ⟨ho, rfl, ⟨_, ho, rfl⟩, call_meets F.slot_tuple_mul ⟨_, ho, rfl⟩ F.entry_tuple_mul (F.args_tuple_mul_2 _ _) (tuple_mul1 p its.toArray n dd sl b t c0 c1) ⟨ho, ?_⟩⟩)
      refine ⟨.ref p, H, I, rfl, ?_⟩
      rcases hz with ⟨h1, rfl⟩ | ⟨_, rfl⟩
      · have e1 : a = [] := by simpa using h1
        subst e1
        exact nv_old (by intro _ h; cases h) q (.tup hp ra)
      · exact nv_old (by intro _ h; cases h) q (.tup hp ra)
    split at hr
    · rename_i he0
      split at hr
      · rename_i hb
        cases hr
        exact one _ (.inl ⟨he0, rfl⟩) (by omega) (by omega) q
      · cases hr
    · split at hr
      · rename_i hne hz
        obtain ⟨h1, h2, h3⟩ := hz
        cases hr
        by_cases hb : b = 1
        · refine one (.tuple (List.replicate b.toNat a).flatten) (.inr ⟨hb, ?_⟩) (by omega) (by omega) q
          rw [hb]
          simp
        · have hv : vs ≠ [] := fun z => by
            subst z
            cases ra
            simp at hne
          exact op_repT pins s σ H _ _ v u Q I rx ry ⟨p, b, vs, rfl, rfl, hp, hv, by omega, h2, by omega, fun l hl => nv_tup rfl q (ra.rep _) hl⟩
      · cases hr
  · rename_i a b
    split at hr
    · rename_i hz
      obtain ⟨h1, h2, h3⟩ := hz
      cases hr
      obtain ⟨p, vs, rfl, hp, ra⟩ := hd.lst
      obtain rfl := he.int
      cases rx
      obtain ⟨t, rfl⟩ := ry
      obtain ⟨its, r1, ⟨⟨cls, dd, data, sl⟩, n, ho, hc, hdn, hdt⟩, hz1⟩ := I.list hp
      simp only at hc hdt
      subst hc hdt
      have m1 := ra.length
      have m2 := r1.length
      have hsz : its.length ≤ 1000 := by omega
      have hb : b.toNat ≤ 1000 := by omega
      have hmul : its.length * b.toNat ≤ 1000 * 1000 := Nat.mul_le_mul hsz hb
      have hmul2 : its.toArray.size * b.toNat ≤ 1000 * 1000 := by simpa using hmul
      refine wpAny_binaryOp_repeat_ref (T := "list") (U := "int") (by decide) ⟨_, ho, rfl⟩ (fun s' => typeIs_int s' b t) noFill_list_mul F.fills_int_mul F.slot_int_rmul repeat_list F.slot_int_index.lookup
        (call_meets F.slot_int_rmul (typeIs_int s b t) F.entry_int_rmul (F.args_int_rmul_2 _ _) (lm_int_rmul_list_any b t p its.toArray n dd sl)
          ⟨ho, rfl, ⟨_, ho, rfl⟩, call_meets F.slot_list_mul ⟨_, ho, rfl⟩ F.entry_list_mul (F.args_list_mul_2 _ _)
            (lm_list_mul_any p its.toArray n dd sl b t (by simp [Builtin.List.listFitsIndex]; omega) (by omega) (by simp [Builtin.List.listTooLong, sizeLine]; simp at hmul2; omega)) ⟨ho, ?_⟩⟩)
      have e : List.foldl (fun x1 x2 => x1 ++ x2) #[] (List.replicate (if its.toArray.isEmpty = true then 0 else b.toNat) its.toArray) = (List.replicate b.toNat its).flatten.toArray := by
        have f0 : ∀ m : Nat, List.foldl (fun x1 x2 => x1 ++ x2) #[] (List.replicate m its.toArray) = (List.replicate m its).flatten.toArray := fun m => size_rep its m
        rw [f0]
        cases its with
        | nil => simp
        | cons a r' => rw [if_neg (by simp)]
      rw [e]
      refine ⟨.ref _, _, I.lnew (t' := s.toks) (r1.rep b.toNat) (by rw [PyProof.Rows.lm_len_rep_flat, sizeLine_eq, m2]; have := Nat.mul_comm its.length b.toNat; omega), rfl, nv_lst rfl rfl q (ra.rep _) I.fresh⟩
    · cases hr
theorem o1_neg : UnR X (unaryOp .USub) (rD1 (gl X exc T) true (op1 .neg)) := by
  intro pins s σ H x v Q I rx h
  obtain ⟨ρ, d, r, hd, hr, q⟩ := h
  replace hr : negD1 d = some r := hr
  unfold negD1 at hr
  split at hr
  · cases hr
    obtain rfl := hd.int
    exact un_neg pins s σ H _ v Q I rx ⟨_, rfl, nv_int q⟩
  · cases hr
abbrev rC1 (G : Glob) (nw : Bool) (f : D → Option D) : List V → Hp → VK → Prop := fun xs H Q => ∃ x, xs = [x] ∧ rD1 G nw f x H Q
theorem o1_len : CallR X (.builtin "len") (rC1 (gl X exc T) true (op1 .len)) := by
  intro pins s σ H xs us Q I rx h
  obtain ⟨x, rfl, ρ, d, r, hd, hr, q⟩ := h
  replace hr : lenD1 d = some r := hr
  unfold lenD1 at hr
  split at hr
  · split at hr
    · cases hr
      obtain ⟨rfl, _⟩ := hd.str
      exact call_len pins s σ H _ us Q I rx ⟨_, _, rfl, ⟨by rw [← line_eq]; assumption, rfl⟩, nv_int q⟩
    · cases hr
  · cases hr
    obtain ⟨p, vs, rfl, hp, ra⟩ := hd.lst
    refine call_len pins s σ H _ us Q I rx ⟨_, vs.length, rfl, .inl ⟨vs, hp, rfl⟩, ?_⟩
    rw [ra.length]
    exact nv_int q
  · cases hr
    obtain ⟨p, vs, rfl, hp, ra⟩ := hd.tup
    refine call_len pins s σ H _ us Q I rx ⟨_, vs.length, rfl, .inr ⟨vs, hp, rfl⟩, ?_⟩
    rw [ra.length]
    exact nv_int q
  · cases hr
theorem o1_tuple : CallR X (.type "tuple") (rC1 (gl X exc T) true (op1 .tuple)) := by
  intro pins s σ H xs us Q I rx h
  obtain ⟨x, rfl, ρ, d, r, hd, hr, q⟩ := h
  replace hr : tupleD1 d = some r := hr
  unfold tupleD1 at hr
  split at hr
  · cases hr
    obtain ⟨p, vs, rfl, hp, ra⟩ := hd.lst
    exact call_tuple_of pins s σ H _ us Q I rx ⟨p, vs, rfl, .inl ⟨hp, fun l hl => nv_tup rfl q ra hl⟩⟩
  · cases hr
    obtain ⟨p, vs, rfl, hp, ra⟩ := hd.tup
    exact call_tuple_of pins s σ H _ us Q I rx ⟨p, vs, rfl, .inr ⟨hp, nv_old (by intro _ h; cases h) q (.tup hp ra)⟩⟩
  · cases hr
theorem o1_int : CallR X (.type "int") (rC1 (gl X exc T) true (op1 .int)) := by
  intro pins s σ H xs us Q I rx h
  obtain ⟨x, rfl, ρ, d, r, hd, hr, q⟩ := h
  replace hr : intD1 d = some r := hr
  unfold intD1 at hr
  split at hr
  · cases hr
    obtain rfl := hd.int
    exact call_int1 pins s σ H _ us Q I rx (.inl ⟨_, rfl, nv_int q⟩)
  · cases hr
    obtain rfl := hd.bl
    exact call_int1 pins s σ H _ us Q I rx (.inr ⟨_, rfl, nv_int q⟩)
  · cases hr
theorem o1_all (hc : X.calm = true) : CallR X (.builtin "all") (rC1 (gl X exc T) true (op1 .all)) := by
  intro pins s σ H xs us Q I rx h
  obtain ⟨x, rfl, ρ, d, r, hd, hr, q⟩ := h
  replace hr : allD1 d = some r := hr
  unfold allD1 at hr
  split at hr
  · simp only [Option.map_eq_some_iff] at hr
    obtain ⟨bs, hb, rfl⟩ := hr
    obtain ⟨p, vs, rfl, hp, ra⟩ := hd.lst
    have e := asBools_eq hb
    subst e
    rw [ra.bools] at hp
    exact cr_all hc pins s σ H _ us Q I rx ⟨p, bs, rfl, hp, nv_bl q⟩
  · cases hr
theorem o1_any (hc : X.calm = true) : CallR X (.builtin "any") (rC1 (gl X exc T) true (op1 .any)) := by
  intro pins s σ H xs us Q I rx h
  obtain ⟨x, rfl, ρ, d, r, hd, hr, q⟩ := h
  replace hr : anyD1 d = some r := hr
  unfold anyD1 at hr
  split at hr
  · simp only [Option.map_eq_some_iff] at hr
    obtain ⟨bs, hb, rfl⟩ := hr
    obtain ⟨p, vs, rfl, hp, ra⟩ := hd.lst
    have e := asBools_eq hb
    subst e
    rw [ra.bools] at hp
    exact cr_any hc pins s σ H _ us Q I rx ⟨p, bs, rfl, hp, nv_bl q⟩
  · cases hr
theorem maxI_foldl : ∀ (r : List Int) (x : Int), ∃ m, r.foldl (fun a b => if b > a then b else a) x = m ∧ m ∈ x :: r ∧ ∀ y ∈ x :: r, y ≤ m
  | [], x => ⟨x, rfl, by simp, fun y hy => by simp at hy; omega⟩
  | b :: r, x => by
    obtain ⟨m, h1, h2, h3⟩ := maxI_foldl r (if b > x then b else x)
    refine ⟨m, h1, ?_, fun y hy => ?_⟩
    · rcases List.mem_cons.mp h2 with e | e
      · rw [e]; split <;> simp
      · exact List.mem_cons_of_mem _ (List.mem_cons_of_mem _ e)
    · have hx := h3 _ (List.mem_cons_self ..)
      rcases List.mem_cons.mp hy with e | hy
      · subst e; split at hx <;> omega
      · rcases List.mem_cons.mp hy with e | hy
        · subst e; split at hx <;> omega
        · exact h3 y (List.mem_cons_of_mem _ hy)
theorem minI_foldl : ∀ (r : List Int) (x : Int), ∃ m, r.foldl (fun a b => if b < a then b else a) x = m ∧ m ∈ x :: r ∧ ∀ y ∈ x :: r, m ≤ y
  | [], x => ⟨x, rfl, by simp, fun y hy => by simp at hy; omega⟩
  | b :: r, x => by
    obtain ⟨m, h1, h2, h3⟩ := minI_foldl r (if b < x then b else x)
    refine ⟨m, h1, ?_, fun y hy => ?_⟩
    · rcases List.mem_cons.mp h2 with e | e
      · rw [e]; split <;> simp
      · exact List.mem_cons_of_mem _ (List.mem_cons_of_mem _ e)
    · have hx := h3 _ (List.mem_cons_self ..)
      rcases List.mem_cons.mp hy with e | hy
      · subst e; split at hx <;> omega
      · rcases List.mem_cons.mp hy with e | hy
        · subst e; split at hx <;> omega
        · exact h3 y (List.mem_cons_of_mem _ hy)
theorem maxI_spec {ns : List Int} {m : Int} (h : maxI ns = some m) : m ∈ ns ∧ ∀ y ∈ ns, y ≤ m := by
  cases ns with
  | nil => cases h
  | cons x r =>
    obtain ⟨m', h1, h2, h3⟩ := maxI_foldl r x
    cases h
    rw [h1]
    exact ⟨h2, h3⟩
theorem minI_spec {ns : List Int} {m : Int} (h : minI ns = some m) : m ∈ ns ∧ ∀ y ∈ ns, m ≤ y := by
  cases ns with
  | nil => cases h
  | cons x r =>
    obtain ⟨m', h1, h2, h3⟩ := minI_foldl r x
    cases h
    rw [h1]
    exact ⟨h2, h3⟩
theorem o2_max2 (hc : X.calm = true) : CallR X (.builtin "max") (fun xs H Q => ∃ x y, xs = [x, y] ∧ rD2 (gl X exc T) true (op2 .max2) x y H Q) := by
  intro pins s σ H xs us Q I rx h
  obtain ⟨x, y, rfl, ρ, d, e, r, hd, he, hr, q⟩ := h
  replace hr : max2D2 d e = some r := hr
  unfold max2D2 at hr
  split at hr
  · cases hr
    obtain rfl := hd.int
    obtain rfl := he.int
    exact call_max2 hc pins s σ H _ us Q I rx ⟨_, _, rfl, nv_int q⟩
  · cases hr
theorem o2_min2 (hc : X.calm = true) : CallR X (.builtin "min") (fun xs H Q => ∃ x y, xs = [x, y] ∧ rD2 (gl X exc T) true (op2 .min2) x y H Q) := by
  intro pins s σ H xs us Q I rx h
  obtain ⟨x, y, rfl, ρ, d, e, r, hd, he, hr, q⟩ := h
  replace hr : min2D2 d e = some r := hr
  unfold min2D2 at hr
  split at hr
  · cases hr
    obtain rfl := hd.int
    obtain rfl := he.int
    exact call_min2 hc pins s σ H _ us Q I rx ⟨_, _, rfl, nv_int q⟩
  · cases hr
def tyStr : Ty → String
  | .int => "int"
  | .bool => "bool"
  | .str => "str"
  | .tuple => "tuple"
/-- a datum's type -/
def tyOf : D → String
  | .none => "NoneType"
  | .bool _ => "bool"
  | .int _ => "int"
  | .str _ => "str"
  | .list _ => "list"
  | .tuple _ => "tuple"
  | .dict _ => "dict"
theorem kit_tys (t : Ty) (d : D) (hd : ∀ es, d ≠ .dict es) : kitB (tyOf d) (tyStr t) = some (isTy t d) := by
  cases d with
  | dict es => exact absurd rfl (hd es)
  | none => cases t <;> (show kitB "NoneType" _ = some false; decide +kernel)
  | bool b => cases t <;> first | (show kitB "bool" _ = some false; decide +kernel) | (show kitB "bool" _ = some true; decide +kernel)
  | int b => cases t <;> first | (show kitB "int" _ = some false; decide +kernel) | (show kitB "int" _ = some true; decide +kernel)
  | str b => cases t <;> first | (show kitB "str" _ = some false; decide +kernel) | (show kitB "str" _ = some true; decide +kernel)
  | list b => cases t <;> (show kitB "list" _ = some false; decide +kernel)
  | tuple b => cases t <;> first | (show kitB "tuple" _ = some false; decide +kernel) | (show kitB "tuple" _ = some true; decide +kernel)
theorem Tr.nodict {G : Glob} {ρ : List Addr} {H : Hp} {x : V} {es : List (D × D)} (h : Tr G ρ H x (.dict es)) : False := by
  rcases h with h | ⟨a, vs, ds, h1, h2, _⟩
  · cases h
  · cases h2
theorem o1_isI (t : Ty) : CallR X (.builtin "isinstance") (fun xs H Q => ∃ x, xs = [x, .ty (tyStr t)] ∧ rD1 (gl X exc T) true (op1 (.isI t)) x H Q) := by
  intro pins s σ H xs us Q I rx h
  obtain ⟨x, rfl, ρ, d, r, hd, hr, q⟩ := h
  replace hr : some (PyData.bool (isTy t d)) = some r := hr
  cases hr
  have nd : ∀ es, d ≠ .dict es := fun es e => by subst e; exact hd.nodict.elim
  have hk := kit_tys t d nd
  obtain ⟨u1, u2, rfl, r1, r2⟩ := vals2 rx
  cases (show u2 = Value.type (tyStr t) from r2)
  cases d with
  | dict es => exact absurd rfl (nd es)
  | none =>
    obtain rfl := hd.non
    cases (show u1 = Value.none from r1)
    exact PySem.W.kia_one PySem.W.kitx_none I.kIn True.intro hk (fun z => nomatch z) fun tk => ⟨.bl _, H, I.tok tk, rfl, nv_bl q⟩
  | bool b =>
    obtain rfl := hd.bl
    cases (show u1 = Value.bool b from r1)
    exact PySem.W.kia_one PySem.W.kitx_bool I.kIn True.intro hk (fun z => nomatch z) fun tk => ⟨.bl _, H, I.tok tk, rfl, nv_bl q⟩
  | int b =>
    obtain rfl := hd.int
    obtain ⟨t', rfl⟩ := (show ∃ t, u1 = Value.int b t from r1)
    exact PySem.W.kia_one PySem.W.kitx_int I.kIn True.intro hk (fun z => nomatch z) fun tk => ⟨.bl _, H, I.tok tk, rfl, nv_bl q⟩
  | str b =>
    obtain ⟨rfl, _⟩ := hd.str
    obtain ⟨t', rfl⟩ := (show ∃ t, u1 = Value.str b t from r1)
    exact PySem.W.kia_one PySem.W.kitx_str I.kIn True.intro hk (fun z => nomatch z) fun tk => ⟨.bl _, H, I.tok tk, rfl, nv_bl q⟩
  | list b =>
    obtain ⟨p, vs, rfl, hp, _⟩ := hd.lst
    cases (show u1 = Value.ref p from r1)
    obtain ⟨its, _, pl, _⟩ := I.list hp
    obtain ⟨o, h1, h2, _⟩ := pl.isList
    exact PySem.W.kia_one PySem.W.kitx_list I.kIn ⟨o, h1, h2⟩ hk (fun z => nomatch z) fun tk => ⟨.bl _, H, I.tok tk, rfl, nv_bl q⟩
  | tuple b =>
    obtain ⟨p, vs, rfl, hp, _⟩ := hd.tup
    cases (show u1 = Value.ref p from r1)
    obtain ⟨its, _, ⟨o, h1, h2, _⟩, _⟩ := I.tuple hp
    exact PySem.W.kia_one PySem.W.kitx_tuple I.kIn ⟨o, h1, h2⟩ hk (fun z => nomatch z) fun tk => ⟨.bl _, H, I.tok tk, rfl, nv_bl q⟩
def isN (d : D) : Bool := match d with | .none => true | _ => false
def notN (d : D) : Bool := match d with | .none => false | _ => true
theorem o1_isNone : OpR X (compareOp .Is) (fun x y H Q => y = .non ∧ rD1 (gl X exc T) true (op1 .isNone) x H Q) := by
  intro pins s σ H x y v u Q I rx ry h
  obtain ⟨rfl, ρ, d, r, hd, hr, q⟩ := h
  replace hr : some (PyData.bool (isN d)) = some r := hr
  cases hr
  refine op_isN pins s σ H x .non v u Q I rx ry ⟨rfl, ?_⟩
  have e : decide (x = V.non) = isN d := by
    cases d with
    | none => obtain rfl := hd.non; rfl
    | bool b => obtain rfl := hd.bl; rfl
    | int b => obtain rfl := hd.int; rfl
    | str b => obtain ⟨rfl, _⟩ := hd.str; rfl
    | list b => obtain ⟨p, vs, rfl, _⟩ := hd.lst; rfl
    | tuple b => obtain ⟨p, vs, rfl, _⟩ := hd.tup; rfl
    | dict b => exact hd.nodict.elim
  rw [e]
  exact nv_bl q
theorem o1_notNone : OpR X (compareOp .IsNot) (fun x y H Q => y = .non ∧ rD1 (gl X exc T) true (op1 .notNone) x H Q) := by
  intro pins s σ H x y v u Q I rx ry h
  obtain ⟨rfl, ρ, d, r, hd, hr, q⟩ := h
  replace hr : some (PyData.bool (notN d)) = some r := hr
  cases hr
  refine op_notN pins s σ H x .non v u Q I rx ry ⟨rfl, ?_⟩
  have e : (!decide (x = V.non)) = notN d := by
    cases d with
    | none => obtain rfl := hd.non; rfl
    | bool b => obtain rfl := hd.bl; rfl
    | int b => obtain rfl := hd.int; rfl
    | str b => obtain ⟨rfl, _⟩ := hd.str; rfl
    | list b => obtain ⟨p, vs, rfl, _⟩ := hd.lst; rfl
    | tuple b => obtain ⟨p, vs, rfl, _⟩ := hd.tup; rfl
    | dict b => exact hd.nodict.elim
  rw [e]
  exact nv_bl q
end
/-- a slice by values -/
def rSlD (G : Glob) : V → Option Int → Option Int → Hp → VK → Prop := fun x lo hi H Q => ∃ ρ d r, Tr G ρ H x d ∧ slice d lo hi = some r ∧ ∀ z H', Grow H H' → Nv G true H H' z r → Q z H'
theorem RpAll.cut {K : PySem.W.Frag} {H : Hp} {vs : List V} {ds : List D} (h : RpAll K H vs ds) (lo hi : Option Int) : RpAll K H (cutV vs lo hi) (DL.cut ds lo hi) := by
  unfold cutV DL.cut
  rw [sIx_eq, sIx_eq, h.length]
  exact (h.drop _).take _
theorem cut_all {ds : List D} {lo hi : Option Int} (h1 : cutIx ds.length 0 lo = 0) (h2 : cutIx ds.length ds.length hi = ds.length) : DL.cut ds lo hi = ds := by
  unfold DL.cut
  rw [h1, h2]; simp
section
variable {X : Cx} {exc : Str → Option (Addr × Str)} {T : List (Addr × Str)}
theorem sl_any : SlR X (rSlD (gl X exc T)) := by
  intro pins s σ H x v vl vu lo hi sl Q I rx hs pl pu h
  obtain ⟨ρ, d, r, hd, hr, q⟩ := h
  unfold slice at hr
  split at hr
  · cases hr
    obtain ⟨p, vs, rfl, hp, ra⟩ := hd.lst
    exact sl_list pins s σ H _ v vl vu lo hi sl Q I rx hs pl pu ⟨p, vs, rfl, hp, fun l hl => nv_lst rfl rfl q (ra.cut lo hi) hl⟩
  · rename_i ds
    cases hr
    obtain ⟨p, vs, rfl, hp, ra⟩ := hd.tup
    refine sl_tupA pins s σ H _ v vl vu lo hi sl Q I rx hs pl pu ⟨p, vs, rfl, hp, fun hw => ?_, fun _ l hl => nv_tup rfl q (ra.cut lo hi) hl⟩
    rw [sIx_eq, sIx_eq, ra.length] at hw
    refine nv_old (by intro _ h; cases h) q ?_
    rw [cut_all hw.1 hw.2]
    exact .tup hp ra
  · split at hr
    · rename_i z hz
      cases hr
      obtain ⟨rfl, ho⟩ := hd.str
      refine sl_str pins s σ H _ v vl vu lo hi sl Q I rx hs pl pu ⟨_, rfl, by rw [← line_eq]; exact hz, ?_⟩
      have e : cutS z lo hi = ⟨(DL.cut z.cps.toList lo hi).toArray⟩ := by
        show (⟨((z.cps.toList.drop (HT.sIx z.length 0 lo)).take (HT.sIx z.length z.length hi - HT.sIx z.length 0 lo)).toArray⟩ : Str) = _
        unfold DL.cut
        rw [sIx_eq, sIx_eq]
        have el : z.cps.toList.length = z.length := by simp [Str.length]
        rw [el]
      rw [e]
      refine nv_str (strOk_iff.mpr fun c hc => strOk_iff.mp ho c ?_) q
      have hc : c ∈ DL.cut z.cps.toList lo hi := by simpa using hc
      unfold DL.cut at hc
      exact List.mem_of_mem_drop (List.mem_of_mem_take hc)
    · cases hr
  · cases hr
theorem strOk_join (a : Str) (ha : PyData.strOk a = true) : ∀ ys : List Str, (∀ y ∈ ys, PyData.strOk y = true) → PyData.strOk (Str.join a ys) = true
  | [], _ => by
    exact strOk_iff.mpr (fun c hc => by have hc : c ∈ (#[] : Array Nat).toList := hc; simp at hc)
  | [x], h => h x (List.mem_cons_self ..)
  | x :: y :: r, h => by
    show PyData.strOk (x ++ a ++ Str.join a (y :: r)) = true
    exact strOk_append (strOk_append (h x (List.mem_cons_self ..)) ha) (strOk_join a ha (y :: r) fun z hz => h z (List.mem_cons_of_mem _ hz))
theorem o2_join : MtR X "str.join" (fun x xs H Q => ∃ y, xs = [y] ∧ rD2 (gl X exc T) true (op2 .join) x y H Q) := by
  intro pins s σ H x xs v us Q I rx rxs h
  obtain ⟨y, rfl, ρ, d, e, r, hd, he, hr, q⟩ := h
  replace hr : joinD2 d e = some r := hr
  unfold joinD2 at hr
  split at hr
  · simp only [Option.bind_eq_some_iff] at hr
    obtain ⟨ss, h1, h2⟩ := hr
    split at h2
    · rename_i hz
      cases h2
      obtain ⟨rfl, ho⟩ := hd.str
      obtain ⟨p, vs, rfl, hp, ra⟩ := he.lst
      have e1 := asStrs_eq h1
      subst e1
      obtain ⟨e2, e3⟩ := ra.strs
      rw [e2] at hp
      refine mt_join pins s σ H _ _ v us Q I rx rxs ⟨_, p, ss, rfl, rfl, .inl hp, hz, ?_⟩
      rw [TL.join_eq]
      exact nv_str (strOk_join _ ho _ e3) q
    · cases h2
  · cases hr
theorem each_of : ∀ {vs : List V} {us : List Value} {ds : List D} {pins : List (Addr × Obj)} {s : Shared} {σ : L2.St} {H : Hp}, Inv X pins σ H s → RpAll X.K H vs ds → Vals vs us →
    PySem.W.EachIs (fun u d => ∃ v, RelV v u ∧ Rp X.K H v d) us ds ∧ PySem.W.EachIs (fun u d => ∃ as, Reads s.heap u (id d) as) us ds
  | _, _, _, _, _, _, _, _, .nil, .nil => ⟨.nil, .nil⟩
  | _, _, _, _, _, _, _, I, .cons a b, .cons c d => by
    obtain ⟨h1, h2⟩ := each_of I b d
    exact ⟨.cons ⟨_, c, a⟩ h1, .cons (Dp.reads I _ _ _ a.dp c) h2⟩
theorem vals_of_each {K : PySem.W.Frag} {H : Hp} : ∀ {us : List Value} {ds : List D}, PySem.W.EachIs (fun u d => ∃ v, RelV v u ∧ Rp K H v d) us ds → ∃ vs, Vals vs us ∧ RpAll K H vs ds
  | _, _, .nil => ⟨[], .nil, .nil⟩
  | _, _, .cons ⟨v, h1, h2⟩ b => by
    obtain ⟨vs, h3, h4⟩ := vals_of_each b
    exact ⟨v :: vs, .cons h1 h3, .cons h2 h4⟩
theorem dle_eq : dle = PySem.W.dataLe false (id : D → D) := by
  funext a b
  rw [PySem.W.dataLe_eq]
  rfl
theorem sort_hyps {ds es : List D} (h : sortD ds = some es) : PySem.W.AllAlike (ds.map id) ∧ PySem.W.Sortable (ds.map id) ∧ (∀ d ∈ ds, d.depth ≤ 100) ∧ es = ds.mergeSort dle := by
  unfold sortD at h
  split at h
  · rename_i hso
    cases h
    unfold sortable at hso
    simp only [Bool.and_eq_true, Bool.or_eq_true, List.all_eq_true, decide_eq_true_eq] at hso
    obtain ⟨⟨ha, hk⟩, hdp⟩ := hso
    rw [List.map_id]
    refine ⟨fun d hd d' hd' => ha d hd d' hd', ?_, hdp, rfl⟩
    rcases hk with hk | hk
    · refine .inl fun d hd => ?_
      have z := hk d hd
      split at z
      · exact ⟨_, _, rfl⟩
      · cases z
    · refine .inr fun d hd => ?_
      have z := hk d hd
      split at z
      · cases z
      · cases z
      · rename_i n1 n2
        exact ⟨fun e => n1 e, fun xs e => n2 xs e⟩
  · cases h
theorem o1_sorted (hu : X.A.units + 164 < cLine) : CallR X (.builtin "sorted") (rC1 (gl X exc T) true (op1 .sorted)) := by
  intro pins s σ H xs us Q I rx h
  obtain ⟨x, rfl, ρ, d, r, hd, hr, q⟩ := h
  replace hr : sortedD1 d = some r := hr
  have fin : ∀ {ds es : List D} {vs : List V} {its : List Value}, RpAll X.K H vs ds → Vals vs its → its.length ≤ sizeLine → sortD ds = some es → r = .list es → ∀ out : List Value, out.length = ds.length → PySem.W.EachIs (fun u d => ∃ v, RelV v u ∧ Rp X.K H v d) out (ds.mergeSort (PySem.W.dataLe false id)) →
      EP X pins σ Q (.ref (s.heap.objs.size + 1)) { s with heap := PyProof.Rows.sortedAll s.heap its out.toArray } := by
    intro ds es vs its ra rv hz hsd hre out h1 h2
    obtain ⟨_, _, _, rfl⟩ := sort_hyps hsd
    subst hre
    obtain ⟨ws, w1, w2⟩ := vals_of_each h2
    obtain ⟨ep, he'⟩ := PyProof.Rows.sortedAll_at s.heap its out.toArray
    have hlen : ws.length ≤ sizeLine := by rw [w1.length, h1, ← ra.length, rv.length]; exact hz
    have hf : H (s.heap.objs.size + 1) = none := I.hok.fresh (Nat.le_succ _)
    refine ⟨.ref (s.heap.objs.size + 1), upd H (s.heap.objs.size + 1) (.lst ws), I.laid (t' := s.toks) (fun _ _ => PyProof.Rows.sortedAll_old) (Nat.le_succ _) ⟨hlen, out, ep, w1, he'⟩, rfl, nv_lst ?_ rfl q w2 hf⟩
    rw [dle_eq]
  unfold sortedD1 at hr
  split at hr
  · rename_i ds
    simp only [Option.map_eq_some_iff] at hr
    obtain ⟨es, he, rfl⟩ := hr
    obtain ⟨hal, hso, hdp, _⟩ := sort_hyps he
    obtain ⟨p, vs, rfl, hp, ra⟩ := hd.lst
    obtain ⟨its, rv, pl, hz⟩ := I.list hp
    rw [Vals.ref1 rx]
    obtain ⟨e1, e2⟩ := each_of I ra rv
    exact PySem.W.sorted_data (enc := id) pl.isList e1 e2 hal hso (by rw [← ra.length]; exact hz) (fun b hb => by have := hdp b hb; show X.A.units + 2 + b.depth < cLine; omega) (fin ra rv (by rw [← rv.length]; exact hz) he rfl)
  · rename_i ds
    simp only [Option.map_eq_some_iff] at hr
    obtain ⟨es, he, rfl⟩ := hr
    obtain ⟨hal, hso, hdp, _⟩ := sort_hyps he
    obtain ⟨p, vs, rfl, hp, ra⟩ := hd.tup
    obtain ⟨its, rv, pl, hz⟩ := I.tuple hp
    rw [Vals.ref1 rx]
    obtain ⟨e1, e2⟩ := each_of I ra rv
    exact sorted_tup (enc := id) pl e1 e2 hal hso (by rw [← ra.length]; exact hz) (fun b hb => by have := hdp b hb; show X.A.units + 2 + b.depth < cLine; omega) (fin ra rv (by rw [← rv.length]; exact hz) he rfl)
  · cases hr
end
end DL
end

section
/-! Sd2c: more operations on data: list(..), max, min of more kinds, index, is of bools -/
namespace DL
open PySem PySem.Spec PyProof.Rows L2
section
variable {X : Cx} {exc : Str → Option (Addr × Str)} {T : List (Addr × Str)}
theorem signs_vals {K : PySem.W.Frag} {H : Hp} {z : Str} (ho : PyData.strOk z = true) {acc : Array Value} (h : ItemsOf (SignAt z) acc z.cps.size) :
    Vals (z.cps.toList.map fun c => V.str ⟨#[c]⟩) acc.toList ∧ RpAll K H (z.cps.toList.map fun c => V.str ⟨#[c]⟩) (z.cps.toList.map chr) := by
  obtain ⟨h1, h2⟩ := h
  refine ⟨?_, ?_⟩
  · have key : ∀ (cs : List Nat) (us : List Value), us.length = cs.length → (∀ (i : Nat) (u : Value), us[i]? = some u → ∃ (c : Nat) (t : Tok), cs[i]? = some c ∧ u = .str ⟨#[c]⟩ t) → Vals (cs.map fun c => V.str ⟨#[c]⟩) us := by
      intro cs
      induction cs with
      | nil => intro us hl _; rw [List.eq_nil_of_length_eq_zero hl]; exact .nil
      | cons c cs ih =>
        intro us hl hu
        cases us with
        | nil => cases hl
        | cons u us =>
          obtain ⟨c', t, e1, e2⟩ := hu 0 u rfl
          cases e1
          exact .cons ⟨t, e2⟩ (ih us (by simpa using hl) fun i v hv => hu (i + 1) v (by simpa using hv))
    refine key _ _ (by simp [h1]) fun i u hu => ?_
    obtain ⟨c, t, e1, e2⟩ := h2 i u (by simpa using hu)
    exact ⟨c, t, by simpa using e1, e2⟩
  · have key : ∀ cs : List Nat, (∀ c ∈ cs, c < 0x110000) → RpAll K H (cs.map fun c => V.str ⟨#[c]⟩) (cs.map chr) := by
      intro cs
      induction cs with
      | nil => intro _; exact .nil
      | cons c cs ih =>
        intro hc
        refine .cons (.str _ (strOk_iff.mpr fun c' hc' => ?_)) (ih fun x hx => hc x (List.mem_cons_of_mem _ hx))
        have e : c' = c := by simpa using hc'
        rw [e]
        exact hc c List.mem_cons_self
    exact key _ (strOk_iff.mp ho)
theorem o1_list (hc : X.calm = true) : CallR X (.type "list") (rC1 (gl X exc T) true (op1 .list)) := by
  intro pins s σ H xs us Q I rx h
  obtain ⟨x, rfl, ρ, d, r, hd, hr, q⟩ := h
  replace hr : listD1 d = some r := hr
  unfold listD1 at hr
  split at hr
  · cases hr
    obtain ⟨p, vs, rfl, hp, ra⟩ := hd.lst
    exact call_list_of pins s σ H _ us Q I rx ⟨p, vs, rfl, .inl hp, fun l hl => nv_lst rfl rfl q ra hl⟩
  · cases hr
    obtain ⟨p, vs, rfl, hp, ra⟩ := hd.tup
    exact call_list_of pins s σ H _ us Q I rx ⟨p, vs, rfl, .inr hp, fun l hl => nv_lst rfl rfl q ra hl⟩
  · split at hr
    · rename_i z hz
      cases hr
      obtain ⟨rfl, ho⟩ := hd.str
      obtain ⟨u, rfl, t, rfl⟩ : ∃ u, us = [u] ∧ ∃ t, u = Value.str z t := by
        cases rx with
        | cons a b => cases b; exact ⟨_, rfl, a⟩
      have hz2 : z.cps.size ≤ sizeLine := by rw [← line_eq]; exact hz
      refine call_list_str (I.ok.hd hc) z t (hn := hz2) fun h' tk acc' c' k hS hacc => ?_
      obtain ⟨w1, w2⟩ := signs_vals (K := X.K) (H := H) ho hacc
      have hf : H s.heap.objs.size = none := I.hok.fresh (Nat.le_refl _)
      have hlen : (z.cps.toList.map fun c => V.str ⟨#[c]⟩).length ≤ sizeLine := by simpa using hz2
      exact ⟨.ref s.heap.objs.size, _, I.laid (t' := tk) (o := .lst (z.cps.toList.map fun c => V.str ⟨#[c]⟩)) k (Nat.le_refl _) ⟨hlen, acc'.toList, c', w1, by simpa using hS⟩, rfl, nv_lst rfl rfl q w2 hf⟩
    · cases hr
  · cases hr
theorem alike_ints (ns : List Int) : PySem.W.AlikeAll (ns.map PyData.int) := ⟨fun x hx y hy => by
  obtain ⟨n, _, rfl⟩ := List.mem_map.mp hx
  obtain ⟨m, _, rfl⟩ := List.mem_map.mp hy
  simp [PySem.W.alike], fun x hx => by
  obtain ⟨n, _, rfl⟩ := List.mem_map.mp hx
  exact fun e => (nomatch e)⟩
theorem maxI_eq {n : Int} {r : List Int} : maxI (n :: r) = some (r.foldl max n) := by
  have key : ∀ (r : List Int) (a : Int), r.foldl (fun a b => if b > a then b else a) a = r.foldl max a := by
    intro r
    induction r with
    | nil => intro a; rfl
    | cons b r ih =>
      intro a
      rw [List.foldl_cons, List.foldl_cons, ih]
      congr 1
      by_cases h : b > a
      · rw [if_pos h]; omega
      · rw [if_neg h]; omega
  show some _ = some _
  rw [key r n]
theorem dep_ints : ∀ ns : List Int, PyData.depthAll (ns.map PyData.int) = 0
  | [] => by simp [PyData.depthAll]
  | n :: ns => by simp [PyData.depthAll, PyData.depth, dep_ints ns]
theorem reads_int {h : Heap} {v : Value} {m : Int} {as : List Addr} (r : Reads h v (.int m) as) : ∃ t, v = .int m t := by
  cases r
  exact ⟨_, rfl⟩
theorem o1_max (hc : X.calm = true) (hu : X.A.units + 164 < cLine) : CallR X (.builtin "max") (rC1 (gl X exc T) true (op1 .max)) := by
  intro pins s σ H xs us Q I rx h
  obtain ⟨x, rfl, ρ, d, r, hd, hr, q⟩ := h
  replace hr : maxD1 d = some r := hr
  unfold maxD1 at hr
  split at hr
  · rename_i xs
    simp only [Option.bind_eq_some_iff, Option.map_eq_some_iff] at hr
    obtain ⟨ns, hb, m, hm, rfl⟩ := hr
    obtain ⟨p, vs, rfl, hp, ra⟩ := hd.lst
    have e := asInts_eq hb
    subst e
    rw [ra.ints] at hp
    obtain ⟨h1, h2⟩ := maxI_spec hm
    refine cr_max hc pins s σ H _ us Q I rx ⟨p, ns, rfl, hp, List.length_pos_of_mem h1, fun m' h3 h4 => ?_⟩
    have e : m' = m := Int.le_antisymm (h2 m' h3) (h4 m h1)
    subst e
    exact nv_int q
  · rename_i xs
    simp only [Option.bind_eq_some_iff, Option.map_eq_some_iff] at hr
    obtain ⟨ns, hb, m, hm, rfl⟩ := hr
    obtain ⟨p, vs, rfl, hp, ra⟩ := hd.tup
    have e := asInts_eq hb
    subst e
    cases ns with
    | nil => cases hm
    | cons n ns =>
      rw [maxI_eq] at hm
      cases hm
      rw [Vals.ref1 rx]
      obtain ⟨its, rv, pl, hz⟩ := I.tuple hp
      obtain ⟨as, rd⟩ := Dp.readsAll I _ vs its ra.dp rv
      have al := alike_ints (n :: ns)
      refine PySem.W.max_tuple_data (x := .int n) (xs := ns.map .int) (I.ok.hd hc) pl (by simpa using rd) al (by
        have e := dep_ints (n :: ns)
        rw [List.map_cons] at e
        rw [e]; omega) fun i v h' tk bs hv rd' k => ?_
      rw [PySem.W.maxD_ints] at rd'
      obtain ⟨t, rfl⟩ := reads_int rd'
      exact ⟨.int _, H, I.kept (t' := tk) k, ⟨t, rfl⟩, nv_int q⟩
  · cases hr
theorem asPrs_eq : ∀ {ds : List D} {ps : List (Int × Int)}, asPrs ds = some ps → ds = ps.map fun p => .tuple [.int p.1, .int p.2]
  | [], ps, h => by cases h; rfl
  | d :: ds, ps, h => by
    unfold asPrs at h
    split at h
    · rename_i e; cases e
    · rename_i a b r e
      cases e
      rw [Option.map_eq_some_iff] at h
      obtain ⟨qs, h1, rfl⟩ := h
      rw [List.map_cons, ← asPrs_eq h1]
    · cases h
theorem alike_prs (ps : List (Int × Int)) : PySem.W.AlikeAll (ps.map fun p => PyData.tuple [.int p.1, .int p.2]) := ⟨fun x hx y hy => by
  obtain ⟨n, _, rfl⟩ := List.mem_map.mp hx
  obtain ⟨m, _, rfl⟩ := List.mem_map.mp hy
  simp [PySem.W.alike, PySem.W.alikeAll], fun x hx => by
  obtain ⟨n, _, rfl⟩ := List.mem_map.mp hx
  exact fun e => (nomatch e)⟩
theorem prLt_eq (p q : Int × Int) : PySem.W.dataLt (.tuple [.int p.1, .int p.2]) (.tuple [.int q.1, .int q.2]) = prLt p q := by
  unfold PySem.W.dataLt prLt
  simp [PySem.W.keyToks, PySem.W.keyToksAll, PyProof.Rows.lexLt, PyProof.Rows.itemOrd, PyProof.Rows.itemLt]
  rw [Bool.eq_iff_iff]
  simp
  omega
theorem minD_prs : ∀ (r : List (Int × Int)) (p : Int × Int), PySem.W.minD (.tuple [.int p.1, .int p.2]) (r.map fun p => .tuple [.int p.1, .int p.2]) = .tuple [.int (r.foldl (fun a b => if prLt b a = true then b else a) p).1, .int (r.foldl (fun a b => if prLt b a = true then b else a) p).2]
  | [], p => rfl
  | q :: r, p => by
    unfold PySem.W.minD
    rw [List.map_cons, List.foldl_cons, List.foldl_cons, prLt_eq]
    by_cases h : prLt q p = true
    · rw [if_pos h, if_pos h]; exact minD_prs r q
    · rw [if_neg h, if_neg h]; exact minD_prs r p
theorem dep_prs : ∀ ps : List (Int × Int), PyData.depthAll (ps.map fun p => PyData.tuple [.int p.1, .int p.2]) ≤ 1
  | [] => by simp [PyData.depthAll]
  | n :: ns => by
    have := dep_prs ns
    simp [PyData.depthAll, PyData.depth]
    omega
theorem o1_min (hc : X.calm = true) (hu : X.A.units + 164 < cLine) : CallR X (.builtin "min") (rC1 (gl X exc T) true (op1 .min)) := by
  intro pins s σ H xs us Q I rx h
  obtain ⟨x, rfl, ρ, d, r, hd, hr, q⟩ := h
  replace hr : minD1 d = some r := hr
  unfold minD1 at hr
  split at hr
  · rename_i xs
    obtain ⟨p, vs, rfl, hp, ra⟩ := hd.lst
    split at hr
    · rename_i ns hb
      rw [Option.map_eq_some_iff] at hr
      obtain ⟨m, hm, rfl⟩ := hr
      have e := asInts_eq hb
      subst e
      rw [ra.ints] at hp
      obtain ⟨h1, h2⟩ := minI_spec hm
      refine cr_min hc pins s σ H _ us Q I rx ⟨p, ns, rfl, hp, List.length_pos_of_mem h1, fun m' h3 h4 => ?_⟩
      have e : m' = m := Int.le_antisymm (h4 m h1) (h2 m' h3)
      subst e
      exact nv_int q
    · simp only [Option.bind_eq_some_iff, Option.map_eq_some_iff] at hr
      obtain ⟨ps, hb, m, hm, rfl⟩ := hr
      have e := asPrs_eq hb
      subst e
      cases ps with
      | nil => cases hm
      | cons a ps =>
        cases hm
        rw [Vals.ref1 rx]
        obtain ⟨its, rv, pl, hz⟩ := I.list hp
        obtain ⟨as, rd⟩ := Dp.readsAll I _ vs its ra.dp rv
        have al := alike_prs (a :: ps)
        refine PySem.W.min_list_data (x := .tuple [.int a.1, .int a.2]) (xs := ps.map fun (p : Int × Int) => .tuple [.int p.1, .int p.2]) (I.ok.hd hc) pl.isList (by simpa using rd) al (by
          have e := dep_prs (a :: ps)
          rw [List.map_cons] at e
          omega) fun i v h' tk bs hv rd' k => ?_
        rw [minD_prs] at rd'
        have hv' : its[i]? = some v := by simpa using hv
        have hi : i < vs.length := by rw [rv.length]; exact (List.getElem?_eq_some_iff.mp hv').1
        obtain ⟨u', g1, g2⟩ := rv.get (List.getElem?_eq_getElem hi)
        rw [hv'] at g1
        cases g1
        obtain ⟨di, g3, g4⟩ := ra.getV (List.getElem?_eq_getElem hi)
        obtain ⟨bs2, rd2⟩ := Dp.reads I _ _ _ g4.dp g2
        have mi : di ∈ (a :: ps).map fun p => PyData.tuple [.int p.1, .int p.2] := List.mem_of_getElem? g3
        obtain ⟨pi, _, e⟩ := List.mem_map.mp mi
        subst e
        have un := PySem.W.alike_unique _ _ _ _ _ (by simp [PySem.W.alike, PySem.W.alikeAll]) (Reads.keeps k rd2) rd'
        refine ⟨vs[i], H, I.kept (t' := tk) k, g2, nv_old (by intro _ h; cases h) q ?_⟩
        rw [← un]
        exact g4
  · cases hr
theorem o1_isB (b : Bool) : OpR X (compareOp .Is) (fun x y H Q => y = .bl b ∧ rD1 (gl X exc T) true (op1 (.isB b)) x H Q) := by
  intro pins s σ H x y v u Q I rx ry h
  obtain ⟨rfl, ρ, d, r, hd, hr, q⟩ := h
  replace hr : isBD1 b d = some r := hr
  unfold isBD1 at hr
  split at hr
  · cases hr
    obtain rfl := hd.bl
    exact op_isBl pins s σ H _ _ v u Q I rx ry ⟨_, _, rfl, rfl, nv_bl q⟩
  · cases hr
theorem o1_notB (b : Bool) : OpR X (compareOp .IsNot) (fun x y H Q => y = .bl b ∧ rD1 (gl X exc T) true (op1 (.notB b)) x H Q) := by
  intro pins s σ H x y v u Q I rx ry h
  obtain ⟨rfl, ρ, d, r, hd, hr, q⟩ := h
  replace hr : notBD1 b d = some r := hr
  unfold notBD1 at hr
  split at hr
  · cases hr
    obtain rfl := hd.bl
    exact op_notBl pins s σ H _ _ v u Q I rx ry ⟨_, _, rfl, rfl, nv_bl q⟩
  · cases hr
/-- xs.index(y) of a list -/
theorem o2_index (hu : X.A.units + 164 < cLine) : MtR X "list.index" (fun x xs H Q => ∃ y, xs = [y] ∧ rD2 (gl X exc T) true indexD2 x y H Q) := by
  intro pins s σ H x xs v us Q I rx rxs h
  obtain ⟨y, rfl, ρ, d, e, r, hd, he, hr, q⟩ := h
  unfold indexD2 at hr
  split at hr
  · rename_i xs
    split at hr
    · rename_i hdp
      rw [Option.map_eq_some_iff] at hr
      obtain ⟨j, hj, rfl⟩ := hr
      obtain ⟨hj1, hj2, hj3⟩ := List.findIdx?_eq_some_iff_getElem.mp hj
      have s1 : SeqAt.shaped (.list xs) = true := Bool.and_eq_true_iff.mpr ⟨hd.can, decide_eq_true hdp.1⟩
      have s2 : SeqAt.shaped e = true := Bool.and_eq_true_iff.mpr ⟨he.can, decide_eq_true hdp.2⟩
      have hdd := hd.dp
      obtain ⟨p, vs, rfl, hp, ra⟩ := hd.lst
      refine mt_indexD (by omega) pins s σ H _ _ v us Q I rx rxs ⟨p, y, e, xs, j, xs[j], rfl, rfl, hdd, he.dp, s1, s2, List.getElem?_eq_getElem hj1, hj2, fun m z' hm hz => ?_, nv_int q⟩
      obtain ⟨g1, g2⟩ := List.getElem?_eq_some_iff.mp hz
      rw [← g2]
      simpa using hj3 m hm
    · cases hr
  · cases hr
theorem RpAll.reverse {K : PySem.W.Frag} {H : Hp} : ∀ {vs : List V} {ds : List D}, RpAll K H vs ds → RpAll K H vs.reverse ds.reverse
  | _, _, .nil => .nil
  | _, _, .cons r t => by
    rw [List.reverse_cons, List.reverse_cons]
    exact (RpAll.reverse t).append (.cons r .nil)
/-- max(x, default=z) -/
theorem o2_maxD (hc : X.calm = true) (hu : X.A.units + 164 < cLine) : CallRK X (.builtin "max") [Str.ofString "default"] (fun xs zs H Q => ∃ x z, xs = [x] ∧ zs = [z] ∧ rD2 (gl X exc T) true (op2 .maxD) x z H Q) := by
  intro pins s σ H xs zs us ws Q I rx rz h
  obtain ⟨x, z, rfl, rfl, ρ, d, e, r, hd, he, hr, q⟩ := h
  replace hr : maxDD2 d e = some r := hr
  unfold maxDD2 at hr
  split at hr
  · rename_i xs m
    rw [Option.map_eq_some_iff] at hr
    obtain ⟨ns, hb, rfl⟩ := hr
    have e := asInts_eq hb
    subst e
    obtain rfl := he.int
    obtain ⟨p, vs, rfl, hp, ra⟩ := hd.tup
    rw [Vals.ref1 rx]
    obtain ⟨u, rfl, t, rfl⟩ : ∃ u, ws = [u] ∧ ∃ t, u = Value.int m t := by
      cases rz with
      | cons a b => cases b; exact ⟨_, rfl, a⟩
    obtain ⟨its, rv, pl, hz⟩ := I.tuple hp
    obtain ⟨as, rd⟩ := Dp.readsAll I _ vs its ra.dp rv
    refine PySem.W.max_tuple_default (xs := ns.map .int) (d := .int m t) (I.ok.hd hc) pl (by simpa using rd) (alike_ints ns) (by rw [dep_ints]; omega) (fun e0 h' tk k => ?_) fun y ys i v h' tk bs e0 hv rd' k => ?_
    · have e1 : ns = [] := by simpa using e0
      subst e1
      exact ⟨.int m, H, I.kept (t' := tk) k, ⟨t, rfl⟩, nv_int q⟩
    · cases ns with
      | nil => cases e0
      | cons n ns =>
        cases e0
        rw [PySem.W.maxD_ints] at rd'
        obtain ⟨t', rfl⟩ := reads_int rd'
        have e2 : (maxI (n :: ns)).getD m = ns.foldl max n := by rw [maxI_eq]; rfl
        refine ⟨.int (ns.foldl max n), H, I.kept (t' := tk) k, ⟨t', rfl⟩, ?_⟩
        rw [e2] at q
        exact nv_int q
  · cases hr
end
end DL
end

section
/-! Sd3: the judgement, expressions -/
namespace DL
open PySem PySem.Spec PyProof.Rows L2

abbrev RelT (β α : Type) := Hp → List Addr → Hp → β → α → Prop
inductive Md where
  | pers | new | tran
def NewR (G : Glob) (H : Hp) (ρ' : List Addr) (H' : Hp) (x : V) : D → Prop
  | .list ds => ∃ a vs, x = .ref a ∧ NoV H a ∧ a ∉ ρ' ∧ H' a = some (.lst vs) ∧ RpAll G.K H' vs ds
  | d => Rp G.K H' x d
def RR (G : Glob) : Md → RelT V D
  | .pers, _, _, H', x, d => Rp G.K H' x d
  | .tran, _, ρ', H', x, d => Tr G ρ' H' x d
  | .new, H, ρ', H', x, d => NewR G H ρ' H' x d
def Anti {β α : Type} (Rel : RelT β α) : Prop := ∀ H H1 ρ' H' x d, (∀ b, NoV H1 b → NoV H b) → Rel H1 ρ' H' x d → Rel H ρ' H' x d
theorem NewR.tr {G : Glob} {H H' : Hp} {ρ' : List Addr} {x : V} {d : D} (h : NewR G H ρ' H' x d) : Tr G ρ' H' x d := by
  cases d with
  | list ds => obtain ⟨a, vs, h1, h2, h3, h4, h5⟩ := h; exact .inr ⟨a, vs, ds, h1, rfl, h3, h4, h5⟩
  | _ => exact .inl h
theorem anti_RR (G : Glob) (md : Md) : Anti (RR G md) := by
  intro H H1 ρ' H' x d k h
  cases md with
  | pers => exact h
  | tran => exact h
  | new =>
    have h : NewR G H1 ρ' H' x d := h
    show NewR G H ρ' H' x d
    cases d with
    | list ds =>
      obtain ⟨a, vs, h1, h2, h3, h4, h5⟩ := h
      exact ⟨a, vs, h1, k a h2, h3, h4, h5⟩
    | _ => exact h
/-- the end of a reading -/
def Fin {β α : Type} (G : Glob) (W : WX) (Rel : RelT β α) (ρ : List Addr) (σ : L2.St) (H : Hp) (r : Res α) (S' : Store) (Q : β → Hp → Prop) : Prop :=
  match r with
  | .ok d => ∀ x ρ' H', Ext G ρ H ρ' H' → StR G ρ' S' H' → Rel H ρ' H' x d → Q x H'
  | .err cls y => ∃ C fld, G.exc cls = some (C, fld) ∧ ∀ b v ρ' H', Ext G ρ H ρ' H' → StR G ρ' S' H' → H' b = some (.xd [(fld, v)]) → Rp G.K H' v y → W (.ref C) (some b) σ H'
def At {β α : Type} (G : Glob) (W : WX) (Rel : RelT β α) (ρ : List Addr) (env : Env) (S : Store) (σ : L2.St) (H : Hp) (m : M α) (Q : β → Hp → Prop) : Prop :=
  SR G ρ env S σ H ∧ ∃ r S', m S = some (r, S') ∧ Fin G W Rel ρ σ H r S' Q
def tM {β α : Type} (G : Glob) (W : WX) (Rel : RelT β α) (c : Env → M α) : L2.St → Hp → (β → Hp → Prop) → Prop := fun σ H Q => ∃ ρ env S, At G W Rel ρ env S σ H (c env) Q
section
variable {G : Glob} {W : WX} {α β γ δ : Type} {Rel : RelT β α} {Rel1 : RelT δ γ} {ρ : List Addr} {env : Env} {S : Store} {σ : L2.St} {H : Hp} {Q Q' : β → Hp → Prop}
theorem At.tm {c : Env → M α} (h : At G W Rel ρ env S σ H (c env) Q) : tM G W Rel c σ H Q := ⟨ρ, env, S, h⟩
theorem At.mono {m : M α} (h : At G W Rel ρ env S σ H m Q) (k : ∀ x H', Q x H' → Q' x H') : At G W Rel ρ env S σ H m Q' := by
  obtain ⟨sr, r, S', e, f⟩ := h
  refine ⟨sr, r, S', e, ?_⟩
  cases r with
  | ok d => exact fun x ρ' H' e1 s1 r1 => k _ _ (f x ρ' H' e1 s1 r1)
  | err c y => exact f
theorem At.bnd (hR : Anti Rel) {m : M γ} {f : γ → M α} (h : At G W Rel ρ env S σ H (bnd m f) Q) :
    At G W Rel1 ρ env S σ H m (fun x H1 => ∃ ρ1 d S1, Ext G ρ H ρ1 H1 ∧ Rel1 H ρ1 H1 x d ∧ At G W Rel ρ1 env S1 σ H1 (f d) Q) := by
  obtain ⟨sr, r, S', e, fin⟩ := h
  refine ⟨sr, ?_⟩
  unfold DL.bnd at e
  cases q : m S with
  | none => rw [q] at e; cases e
  | some p =>
    obtain ⟨r1, S1⟩ := p
    rw [q] at e
    cases r1 with
    | ok d =>
      refine ⟨.ok d, S1, rfl, fun x ρ1 H1 ex st rel => ⟨ρ1, d, S1, ex, rel, sr.ext ex st, r, S', e, ?_⟩⟩
      cases r with
      | ok y => exact fun z ρ2 H2 ex2 st2 rel2 => fin z ρ2 H2 (ex.trans ex2) st2 (hR _ _ _ _ _ _ ex.there rel2)
      | err c y =>
        obtain ⟨C, fld, hc, g⟩ := fin
        exact ⟨C, fld, hc, fun b v ρ2 H2 ex2 st2 hb hv => g b v ρ2 H2 (ex.trans ex2) st2 hb hv⟩
    | err c y =>
      cases e
      obtain ⟨C, fld, hc, g⟩ := fin
      exact ⟨.err c y, _, rfl, C, fld, hc, g⟩
theorem At.lift {o : Option α} (h : At G W Rel ρ env S σ H (lift o) Q) : ∃ d, o = some d ∧ ∀ x ρ' H', Ext G ρ H ρ' H' → StR G ρ' S H' → Rel H ρ' H' x d → Q x H' := by
  obtain ⟨sr, r, S', e, fin⟩ := h
  cases o with
  | none => cases e
  | some d => cases e; exact ⟨d, rfl, fin⟩
theorem At.bndLift {o : Option γ} {f : γ → M α} (h : At G W Rel ρ env S σ H (DL.bnd (DL.lift o) f) Q) : ∃ d, o = some d ∧ At G W Rel ρ env S σ H (f d) Q := by
  obtain ⟨sr, r, S', e, fin⟩ := h
  cases o with
  | none => cases e
  | some d => exact ⟨d, rfl, sr, r, S', e, fin⟩
theorem At.ret {d : α} (h : At G W Rel ρ env S σ H (DL.ret d) Q) : ∀ x ρ' H', Ext G ρ H ρ' H' → StR G ρ' S H' → Rel H ρ' H' x d → Q x H' := by
  obtain ⟨sr, r, S', e, fin⟩ := h
  cases e
  exact fin
theorem At.retNow {d : α} (h : At G W Rel ρ env S σ H (DL.ret d) Q) {x : β} (r : Rel H ρ H x d) : Q x H := h.ret x ρ H (Ext.refl G ρ H) h.1.st r
theorem NewV.newR {H' : Hp} {z : V} {d : D} (st : StR G ρ S H) (h : NewV G H H' z d) : NewR G H ρ H' z d := by
  cases d with
  | list ds => obtain ⟨a, vs, h1, h2, h3, h4⟩ := h; exact ⟨a, vs, h1, NoV.of h2, st.fresh h2, h3, h4⟩
  | _ => exact h
theorem At.fin {Q : VK} {o : Option D} (h : At G W (RR G .new) ρ env S σ H (DL.lift o) Q) : ∃ r, o = some r ∧ ∀ z H', Grow H H' → Nv G true H H' z r → Q z H' := by
  obtain ⟨r, e, k⟩ := h.lift
  exact ⟨r, e, fun z H' g n => k z ρ H' (Ext.grow g) (h.1.st.grow g) (NewV.newR h.1.st n)⟩
theorem At.finP {Q : VK} {o : Option D} (h : At G W (RR G .pers) ρ env S σ H (DL.lift o) Q) : ∃ r, o = some r ∧ ∀ z H', Grow H H' → Nv G false H H' z r → Q z H' := by
  obtain ⟨r, e, k⟩ := h.lift
  exact ⟨r, e, fun z H' g n => k z ρ H' (Ext.grow g) (h.1.st.grow g) n⟩
theorem At.imp {Rel' : RelT β α} {m : M α} (h : At G W Rel ρ env S σ H m Q) (k : ∀ ρ' H' x d, Rel' H ρ' H' x d → Rel H ρ' H' x d) : At G W Rel' ρ env S σ H m Q := by
  obtain ⟨sr, r, S', e, f⟩ := h
  refine ⟨sr, r, S', e, ?_⟩
  cases r with
  | ok d => exact fun x ρ' H' e1 s1 r1 => f x ρ' H' e1 s1 (k _ _ _ _ r1)
  | err c y => exact f
end
abbrev tE (G : Glob) (W : WX) (md : Md) (Γ : Ctx) (e : E) : TE := tM G W (RR G md) (evE Γ e)
def EqR : RelT Bool Bool := fun _ _ _ x d => x = d
theorem anti_Eq : Anti EqR := fun _ _ _ _ _ _ _ h => h
abbrev tT (G : Glob) (W : WX) (Γ : Ctx) (e : T) : TT := tM G W EqR (evT Γ e)
def AllR (G : Glob) : RelT (List V) (List D) := fun _ _ H' xs ds => RpAll G.K H' xs ds
theorem anti_All (G : Glob) : Anti (AllR G) := fun _ _ _ _ _ _ _ h => h
abbrev tEs (G : Glob) (W : WX) (Γ : Ctx) (e : Es) : TA := tM G W (AllR G) (evEs Γ e)
def AvR (G : Glob) (ρ : List Addr) (H : Hp) (x : V) : Av → Prop
  | .d d => Rp G.K H x d
  | .c r => ∃ a, x = .ref a ∧ ρ[r]? = some a
def AvsR (G : Glob) (ρ : List Addr) (H : Hp) : List V → List Av → Prop
  | [], [] => True
  | x :: xs, a :: as => AvR G ρ H x a ∧ AvsR G ρ H xs as
  | _, _ => False
def AvsRel (G : Glob) : RelT (List V) (List Av) := fun _ ρ' H' xs ds => AvsR G ρ' H' xs ds
theorem anti_Avs (G : Glob) : Anti (AvsRel G) := fun _ _ _ _ _ _ _ h => h
abbrev tAs (G : Glob) (W : WX) (Γ : Ctx) (e : As) : TA := tM G W (AvsRel G) (evAs Γ e)
theorem AvR.ext {G : Glob} {ρ ρ' : List Addr} {H H' : Hp} {x : V} (e : Ext G ρ H ρ' H') : ∀ {a : Av}, AvR G ρ H x a → AvR G ρ' H' x a
  | .d d, h => Rp.mono e.per h
  | .c r, h => by
    obtain ⟨a, h1, h2⟩ := h
    obtain ⟨m, q⟩ := e.pre
    refine ⟨a, h1, ?_⟩
    rw [q, List.getElem?_append_left (List.getElem?_eq_some_iff.mp h2).1]; exact h2
theorem AvsR.ext {G : Glob} {ρ ρ' : List Addr} {H H' : Hp} (e : Ext G ρ H ρ' H') : ∀ {xs : List V} {as : List Av}, AvsR G ρ H xs as → AvsR G ρ' H' xs as
  | [], [], _ => trivial
  | _ :: _, _ :: _, h => ⟨h.1.ext e, AvsR.ext e h.2⟩
  | [], _ :: _, h => h.elim
  | _ :: _, [], h => h.elim
theorem AvsR.length {G : Glob} {ρ : List Addr} {H : Hp} : ∀ {xs : List V} {as : List Av}, AvsR G ρ H xs as → xs.length = as.length
  | [], [], _ => rfl
  | _ :: _, _ :: _, h => congrArg Nat.succ (AvsR.length h.2)
  | [], _ :: _, h => h.elim
  | _ :: _, [], h => h.elim

theorem PE.imp {X : Cx} {p : Expr} {t t' : TE} (h : PE X p t) (k : ∀ σ H Q, t' σ H Q → t σ H Q) : PE X p t' := ⟨fun pins s σ H Q I q => h.run pins s σ H Q I (k σ H Q q)⟩
theorem PT.imp {X : Cx} {p : Expr} {t t' : TT} (h : PT X p t) (k : ∀ σ H Q, t' σ H Q → t σ H Q) : PT X p t' := ⟨fun pins s σ H Q I q => h.run pins s σ H Q I (k σ H Q q)⟩
theorem PW.imp {X : Cx} {p : Expr} {t t' : TT} (h : PW X p t) (k : ∀ σ H Q, t' σ H Q → t σ H Q) : PW X p t' := ⟨fun w pins s σ H Q I q => h.run w pins s σ H Q I (k σ H Q q)⟩
theorem PA.imp {X : Cx} {p : List Expr} {t t' : TA} (h : PA X p t) (k : ∀ σ H Q, t' σ H Q → t σ H Q) : PA X p t' := ⟨fun pos pins s σ H Q I q => h.run pos pins s σ H Q I (k σ H Q q)⟩

section
variable {X : Cx} {exc : Str → Option (Addr × Str)} {T : List (Addr × Str)} {W : WX} {Γ : Ctx} {p a b : Expr} {e ea eb : E} {pos : Pos}
abbrev SE (X : Cx) (exc : Str → Option (Addr × Str)) (T : List (Addr × Str)) (W : WX) (Γ : Ctx) (md : Md) (p : Expr) (e : E) : Prop := PE X p (tE (gl X exc T) W md Γ e)
abbrev ST (X : Cx) (exc : Str → Option (Addr × Str)) (T : List (Addr × Str)) (W : WX) (Γ : Ctx) (p : Expr) (e : DL.T) : Prop := PT X p (tT (gl X exc T) W Γ e)
theorem SE.new_tran (h : SE X exc T W Γ .new p e) : SE X exc T W Γ .tran p e := PE.imp h fun σ H Q ⟨ρ, env, S, q⟩ => ⟨ρ, env, S, q.imp fun _ _ _ _ r => NewR.tr r⟩
theorem SE.pers_tran (h : SE X exc T W Γ .pers p e) : SE X exc T W Γ .tran p e := PE.imp h fun σ H Q ⟨ρ, env, S, q⟩ => ⟨ρ, env, S, q.imp fun _ _ _ _ r => .inl r⟩
/-- a new list is locked for good -/
theorem tabs_frz {T : List (Addr × Str)} {H : Hp} {a : Addr} {vs : List V} {o : HO} (h : H a = some (.lst vs)) (t : LamX.Tabs T H) : LamX.Tabs T (upd H a o) := fun p hp => by
  obtain ⟨ps, h1, h2, h3⟩ := t p hp
  have n1 : p.1 ≠ a := fun z => by rw [z, h] at h1; cases h1
  refine ⟨ps, by rw [upd_ne n1]; exact h1, h2, fun pos cv hc => ?_⟩
  obtain ⟨c, e1, e2⟩ := h3 pos cv hc
  have n2 : c ≠ a := fun z => by rw [z, h] at e2; unfold LamX.CodeO at e2; cases e2
  exact ⟨c, e1, by rw [upd_ne n2]; exact e2⟩
theorem Ext.mut {G : Glob} {ρ0 ρ : List Addr} {H0 H : Hp} {a : Addr} {vs : List V} {o : HO} (e : Ext G ρ0 H0 ρ H) (h : H a = some (.lst vs)) (hn : NoV H0 a ∨ a ∈ ρ0) (ho : ∀ ps, o ≠ .tbl ps) : Ext G ρ0 H0 ρ (L2.upd H a o) where
  pre := e.pre
  keep := fun b u hb n nb => by
    have z := e.keep b u hb n nb
    rw [upd_ne (fun q => ?_)]
    · exact z
    · subst q
      rcases hn with hn | hn
      · obtain ⟨ps, z⟩ := hn _ hb
        exact n ps z
      · exact nb hn
  new := e.new
  there := fun b hb => by
    by_cases q : b = a
    · rw [q] at hb
      obtain ⟨ps, z⟩ := hb o upd_same
      exact absurd z (ho ps)
    · exact e.there b fun u hu => hb u (by rw [upd_ne q]; exact hu)
  per := by
    refine ⟨fun b xs hb => ?_, fun b o' u hb => ?_⟩
    · have z := e.per.tup b xs hb
      rw [upd_ne (fun q => by rw [q, h] at z; cases z)]; exact z
    · have z := e.per.frz b o' u hb
      rw [upd_ne (fun q => by rw [q, h] at z; cases z)]; exact z
  tabs := fun t => tabs_frz h (e.tabs t)
theorem StR.mut {G : Glob} {ρ : List Addr} {S : Store} {H : Hp} {a : Addr} {vs : List V} {o : HO} (st : StR G ρ S H) (h : H a = some (.lst vs)) (ha : a ∉ ρ) : StR G ρ S (upd H a o) :=
  ⟨st.len, st.nd, fun i xs q => by
    obtain ⟨b, ws, h1, h2, h3⟩ := st.at_ i xs q
    have nb : b ≠ a := fun z => ha (z ▸ List.mem_of_getElem? h1)
    refine ⟨b, ws, h1, by rw [upd_ne nb]; exact h2, h3.mono ?_⟩
    refine ⟨fun c xs hb => ?_, fun c o' u hb => ?_⟩
    · rw [upd_ne (fun q => by rw [q, h] at hb; cases hb)]; exact hb
    · rw [upd_ne (fun q => by rw [q, h] at hb; cases hb)]; exact hb⟩
theorem per_mut {H : Hp} {a : Addr} {vs : List V} {o : HO} (h : H a = some (.lst vs)) : Per H (upd H a o) := by
  refine ⟨fun c xs hb => ?_, fun c o' u hb => ?_⟩
  · rw [upd_ne (fun q => by rw [q, h] at hb; cases hb)]; exact hb
  · rw [upd_ne (fun q => by rw [q, h] at hb; cases hb)]; exact hb
theorem SE.new_pers (h : SE X exc T W Γ .new p e) : SE X exc T W Γ .pers p e := by
  refine ⟨fun pins s σ H Q I q => ?_⟩
  obtain ⟨ρ, env, S, sr, r, S', ev, fin⟩ := q
  refine thn (h.run pins s σ H (fun x H1 => ∃ ρ1 d, Ext (gl X exc T) ρ H ρ1 H1 ∧ StR (gl X exc T) ρ1 S' H1 ∧ NewR (gl X exc T) H ρ1 H1 x d ∧ ∀ x' ρ' H', Ext (gl X exc T) ρ H ρ' H' → StR (gl X exc T) ρ' S' H' → Rp X.K H' x' d → Q x' H') I ⟨ρ, env, S, sr, r, S', ev, ?_⟩) fun u s1 hu => ?_
  · cases r with
    | ok d => exact fun x ρ' H' e1 s1 r1 => ⟨ρ', d, e1, s1, r1, fin⟩
    | err c y => exact fin
  · obtain ⟨x, H1, I1, rx, ρ1, d, e1, s1', nr, k⟩ := hu
    cases d with
    | list ds =>
      obtain ⟨a, vs, rfl, h2, h3, h4, h5⟩ := nr
      obtain ⟨od, I2⟩ := I1.lock h4 trivial
      have ra : RpAll X.K (upd H1 a (.frz od (.lst vs))) vs ds := h5.mono (per_mut h4)
      exact ⟨.ref a, _, I2, rx, k _ ρ1 _ (e1.mut h4 (.inl h2) (fun _ z => nomatch z)) (s1'.mut h4 h3) (.lst (.inl ⟨od, upd_same⟩) ra)⟩
    | _ => exact ⟨x, H1, I1, rx, k x ρ1 H1 e1 s1' nr⟩
/-- from one's own mode to the one that is asked -/
def Md.le : Md → Md → Bool
  | _, .tran => true
  | .pers, .pers => true
  | .new, _ => true
  | _, _ => false
theorem SE.le {m md : Md} (h : SE X exc T W Γ m p e) (l : m.le md = true) : SE X exc T W Γ md p e := by
  cases m <;> cases md <;> first
    | exact h
    | exact SE.new_pers h
    | exact SE.new_tran h
    | exact SE.pers_tran h
    | cases l

/-! ### names, constants -/
theorem se_var {i : Nat} {x : Str} (hN : X.N[i]? = some x) (hv : Vis X.env.scope x) (hd : (x == ("__debug__" : Str)) = false) (hcd : (x == ("__classdict__" : Str)) = false) : SE X exc T W Γ .pers (.Name x pos) (.var i) := by
  refine PE.imp (pe_var hN hv hd hcd) fun σ H Q ⟨ρ, env, S, h⟩ => ?_
  obtain ⟨d, e, k⟩ := At.lift (o := getD env i) h
  unfold getD at e
  split at e
  · rename_i z
    cases e
    obtain ⟨x', h1, v, h2, h3⟩ := h.1.env.slot i _ z
    subst h2
    exact ⟨v, h1, k v ρ H (Ext.refl _ _ _) h.1.st h3⟩
  · cases e
theorem se_ro {i : Nat} {x : Str} (hN : X.N[i]? = some x) (hv : Vis X.env.scope x) (hd : (x == ("__debug__" : Str)) = false) (hcd : (x == ("__classdict__" : Str)) = false) : SE X exc T W Γ .tran (.Name x pos) (.ro i) := by
  refine PE.imp (pe_var hN hv hd hcd) fun σ H Q ⟨ρ, env, S, h⟩ => ?_
  obtain ⟨d, e, k⟩ := At.lift (o := (getO env i).map PyData.list) h
  unfold getO at e
  split at e
  · rename_i z
    cases e
    obtain ⟨x', h1, a, vs, h2, h3, h4, h5⟩ := h.1.env.slot i _ z
    subst h2
    exact ⟨.ref a, h1, k _ ρ H (Ext.refl _ _ _) h.1.st (.inr ⟨a, vs, _, rfl, rfl, h5, h3, h4⟩)⟩
  · cases e
theorem se_val {v : V} {d : D} (h : PE X p (tC v)) (hr : ∀ H, Rp X.K H v d) (he : evE Γ e = fun _ => DL.ret d) : SE X exc T W Γ .pers p e := by
  refine PE.imp h fun σ H Q ⟨ρ, env, S, h⟩ => ?_
  rw [he] at h
  exact h.retNow (hr H)
/-- a written constant -/
def cstC : Const → D → Bool
  | .none, .none => true
  | .bool b, .bool c => b == c
  | .int b, .int c => b == c
  | .str b, .str c => b == c && PyData.strOk b
  | _, _ => false
theorem se_cst {c : Const} {k : Nat} {d : D} (h : cstC c d = true) : SE X exc T W Γ .pers (.Constant c k pos) (.cst d) := by
  unfold cstC at h
  split at h
  · exact se_val pe_non (fun _ => .non) rfl
  · cases eq_of_beq h; exact se_val pe_bl (fun _ => .bl _) rfl
  · cases eq_of_beq h; exact se_val pe_int (fun _ => .int _) rfl
  · rw [Bool.and_eq_true] at h
    cases eq_of_beq h.1; exact se_val pe_str (fun _ => .str _ h.2) rfl
  · cases h
theorem se_glb {x : Str} {u : Value} {v : V} {d : D} (hg : Gl X x) (hm : X.mg x = some u) (r : RelV v u) (hr : ∀ H, Rp X.K H v d) (hd : (x == ("__debug__" : Str)) = false) : SE X exc T W Γ .pers (.Name x pos) (.glb x d) :=
  se_val (pe_glob hg hm r hd) hr rfl

/-! ### operations -/
theorem two_at {σ : L2.St} {H : Hp} {Q : VK} {G : Glob} {md : Md} {f : D → D → Option D} {nw : Bool} (hm : ∀ ρ env S σ H (o : Option D) (Q : VK), At G W (RR G md) ρ env S σ H (DL.lift o) Q → ∃ r, o = some r ∧ ∀ z H', Grow H H' → Nv G nw H H' z r → Q z H')
    (he : evE Γ e = fun env => DL.bnd (evE Γ ea env) fun x => DL.bnd (evE Γ eb env) fun y => DL.lift (f x y)) (h : tE G W md Γ e σ H Q) : tOp (rD2 G nw f) (tE G W .tran Γ ea) (tE G W .tran Γ eb) σ H Q := by
  obtain ⟨ρ, env, S, h⟩ := h
  rw [he] at h
  refine At.tm (c := evE Γ ea) (At.mono (At.bnd (anti_RR G md) (Rel1 := RR G .tran) h) fun x H1 q => ?_)
  obtain ⟨ρ1, d, S1, e1, r1, h1⟩ := q
  refine At.tm (c := evE Γ eb) (At.mono (At.bnd (anti_RR G md) (Rel1 := RR G .tran) h1) fun y H2 q2 => ?_)
  obtain ⟨ρ2, d2, S2, e2, r2, h2⟩ := q2
  obtain ⟨r, e3, k⟩ := hm _ _ _ _ _ _ _ h2
  exact ⟨ρ2, d, d2, r, Tr.ext e2 r1, r2, e3, k⟩
theorem se_bin {op : Operator} {o : O2} (ho : OpR X (binaryOp op) (rD2 (gl X exc T) true (op2 o))) (ha : SE X exc T W Γ .tran a ea) (hb : SE X exc T W Γ .tran b eb) : SE X exc T W Γ .new (.BinOp a op b pos) (.op2 o ea eb) :=
  PE.imp (pe_op ho ha hb) fun σ H Q h => two_at (nw := true) (fun _ _ _ _ _ _ _ h => h.fin) rfl h
theorem se_cmp {op : CmpOp} {o : O2} (ho : OpR X (compareOp op) (rD2 (gl X exc T) true (op2 o))) (ha : SE X exc T W Γ .tran a ea) (hb : SE X exc T W Γ .tran b eb) (hm : behindInMarks op b = false) : SE X exc T W Γ .new (.Compare a [op] [b] pos) (.op2 o ea eb) :=
  PE.imp (pe_cmpR ho ha hb hm) fun σ H Q h => two_at (nw := true) (fun _ _ _ _ _ _ _ h => h.fin) rfl h
theorem se_idx (ha : SE X exc T W Γ .tran a ea) (hb : SE X exc T W Γ .tran b eb) (hs : PlainIx b) : SE X exc T W Γ .pers (.Subscript a b pos) (.op2 .idx ea eb) :=
  PE.imp (pe_ix o2_idx ha hb hs) fun σ H Q h => two_at (nw := false) (fun _ _ _ _ _ _ _ h => h.finP) rfl h
theorem one_at {σ : L2.St} {H : Hp} {Q : VK} {G : Glob} {f : D → Option D} (he : evE Γ e = fun env => DL.bnd (evE Γ ea env) fun x => DL.lift (f x)) (h : tE G W .new Γ e σ H Q) :
    tE G W .tran Γ ea σ H fun x H1 => rD1 G true f x H1 Q := by
  obtain ⟨ρ, env, S, h⟩ := h
  rw [he] at h
  refine At.tm (c := evE Γ ea) (At.mono (At.bnd (anti_RR G .new) (Rel1 := RR G .tran) h) fun x H1 q => ?_)
  obtain ⟨ρ1, d, S1, e1, r1, h1⟩ := q
  obtain ⟨r, e3, k⟩ := h1.fin
  exact ⟨ρ1, d, r, r1, e3, k⟩
theorem se_un {op : UnaryOp} {o : O1} (ho : UnR X (unaryOp op) (rD1 (gl X exc T) true (op1 o))) (ha : SE X exc T W Γ .tran a ea) : SE X exc T W Γ .new (.UnaryOp op a pos) (.op1 o ea) :=
  PE.imp (pe_un ho ha) fun σ H Q h => one_at rfl h
theorem se_is {o : O1} {op : CmpOp} {j pos'} (ho : OpR X (compareOp op) (fun x y H Q => y = .non ∧ rD1 (gl X exc T) true (op1 o) x H Q)) (ha : SE X exc T W Γ .tran a ea) (hm : behindInMarks op (.Constant .none j pos') = false) :
    SE X exc T W Γ .new (.Compare a [op] [.Constant .none j pos'] pos) (.op1 o ea) :=
  PE.imp (pe_cmpR ho ha pe_non hm) fun σ H Q h => by
    have q := one_at (f := op1 o) rfl h
    obtain ⟨ρ, env, S, q⟩ := q
    exact ⟨ρ, env, S, q.mono fun x H1 r => ⟨rfl, r⟩⟩
/-- an expression is not starred -/
def nost : Expr → Bool
  | .Starred .. => false
  | _ => true
theorem star_cons (h : nost a = true) (es : List Expr) (env : PySem.Env) : starEach (a :: es) env = (false, eval a env) :: starEach es env := by
  cases a <;> first | rfl | cases h
theorem star_any (pos : Pos) (env : PySem.Env) : ∀ {es : List Expr}, es.all nost = true → (backTo pos (starEach es env)).any (·.1) = false
  | [], _ => rfl
  | e :: es, h => by
    rw [List.all_cons, Bool.and_eq_true] at h
    rw [star_cons h.1]
    exact star_any pos env h.2
theorem se_callB {id : String} {x : Str} {o : O1} {px : Pos} (hc : CallR X (.builtin id) (rC1 (gl X exc T) true (op1 o))) (hg : Gl X x) (hm : X.mg x = none) (hv : bootBuiltins x = some (.builtin id)) (ha : SE X exc T W Γ .tran a ea) (hs : nost a = true)
    (hn : x ≠ "__name__" := by decide) (hdb : (x == ("__debug__" : Str)) = false := by decide) : SE X exc T W Γ .new (.Call (.Name x px) [a] [] pos) (.op1 o ea) :=
  PE.imp (pe_callB hc hg hm hv (pa_cons ha pa_nil (star_cons hs _ _)) hn hdb (star_cons hs _ _) rfl) fun σ H Q h => by
    obtain ⟨ρ, env, S, q⟩ := one_at (f := op1 o) rfl h
    exact ⟨ρ, env, S, q.mono fun x H1 r => ⟨x, rfl, r⟩⟩
theorem se_callTy {id : String} {x : Str} {o : O1} {px : Pos} (hc : CallR X (.type id) (rC1 (gl X exc T) true (op1 o))) (hg : Gl X x) (hm : X.mg x = none) (hv : bootBuiltins x = some (.type id)) (ha : SE X exc T W Γ .tran a ea) (hs : nost a = true)
    (hn : x ≠ "__name__" := by decide) (hdb : (x == ("__debug__" : Str)) = false := by decide) : SE X exc T W Γ .new (.Call (.Name x px) [a] [] pos) (.op1 o ea) :=
  PE.imp (pe_callTy hc hg hm hv (pa_cons ha pa_nil (star_cons hs _ _)) hn hdb (star_cons hs _ _) rfl) fun σ H Q h => by
    obtain ⟨ρ, env, S, q⟩ := one_at (f := op1 o) rfl h
    exact ⟨ρ, env, S, q.mono fun x H1 r => ⟨x, rfl, r⟩⟩
theorem se_isI {t : Ty} {px py : Pos} (hg : Gl X "isinstance") (hm : X.mg "isinstance" = none) (hg2 : Gl X (Str.ofString (tyStr t))) (hm2 : X.mg (Str.ofString (tyStr t)) = none) (ha : SE X exc T W Γ .tran a ea) (hs : nost a = true) :
    SE X exc T W Γ .new (.Call (.Name "isinstance" px) [a, .Name (Str.ofString (tyStr t)) py] [] pos) (.op1 (.isI t) ea) := by
  have hb : PE X (.Name (Str.ofString (tyStr t)) py) (tC (.ty (tyStr t))) := by
    cases t <;> exact pe_bltn hg2 hm2 (u := .type _) (by rfl) rfl (by decide) (by decide)
  refine PE.imp (pe_callB (o1_isI (exc := exc) (T := T) t) hg hm (by rfl) (pa_cons ha (pa_cons hb pa_nil) (star_cons hs _ _)) (by decide) (by decide) (star_cons hs _ _) rfl) fun σ H Q h => ?_
  obtain ⟨ρ, env, S, q⟩ := one_at (f := op1 (.isI t)) rfl h
  exact ⟨ρ, env, S, q.mono fun x H1 r => ⟨x, rfl, r⟩⟩
theorem se_call2 {id : String} {x : Str} {o : O2} {px : Pos} (hc : CallR X (.builtin id) (fun xs H Q => ∃ x y, xs = [x, y] ∧ rD2 (gl X exc T) true (op2 o) x y H Q)) (hg : Gl X x) (hm : X.mg x = none) (hv : bootBuiltins x = some (.builtin id)) (ha : SE X exc T W Γ .tran a ea) (hb : SE X exc T W Γ .tran b eb) (hs : nost a = true) (hs2 : nost b = true)
    (hn : x ≠ "__name__" := by decide) (hdb : (x == ("__debug__" : Str)) = false := by decide) : SE X exc T W Γ .new (.Call (.Name x px) [a, b] [] pos) (.op2 o ea eb) :=
  PE.imp (pe_callB hc hg hm hv (pa_cons ha (pa_cons hb pa_nil (star_cons hs2 _ _)) (star_cons hs _ _)) hn hdb (star_cons hs _ _) (star_any _ _ (by simp [hs2]))) fun σ H Q h => by
    have q := two_at (nw := true) (f := op2 o) (fun _ _ _ _ _ _ _ h => h.fin) rfl h
    obtain ⟨ρ, env, S, q⟩ := q
    refine ⟨ρ, env, S, q.mono fun x H1 r => ?_⟩
    obtain ⟨ρ1, env1, S1, r⟩ := r
    exact ⟨ρ1, env1, S1, r.mono fun y H2 r2 => ⟨x, y, rfl, r2⟩⟩
theorem se_join {apos pa : Pos} {z : Str} {k : Nat} (hz : PyData.strOk z = true) (hb : SE X exc T W Γ .tran b eb) (hs2 : nost b = true) (hline : (apos.endLine == pos.line) = true) :
    SE X exc T W Γ .new (.Call (.Attribute (.Constant (.str z) k pa) "join" apos) [b] [] pos) (.op2 .join (.cst (.str z)) eb) := by
  refine PE.imp (pe_m1 F.slot_str_join F.type_str_join (o2_join (exc := exc) (T := T)) pe_str hb (by rw [star_cons hs2]; rfl) rfl hline) fun σ H Q h => ?_
  obtain ⟨ρ, env, S, q⟩ := h
  refine ⟨⟨z, rfl⟩, ?_⟩
  have q : At (gl X exc T) W (RR (gl X exc T) .new) ρ env S σ H (DL.bnd (evE Γ eb env) fun y => DL.lift (op2 .join (.str z) y)) Q := q
  refine At.tm (c := evE Γ eb) (At.mono (At.bnd (anti_RR _ .new) (Rel1 := RR _ .tran) q) fun x H1 q1 => ?_)
  obtain ⟨ρ1, d, S1, e1, r1, h1⟩ := q1
  obtain ⟨r, e3, k⟩ := h1.fin
  exact ⟨x, rfl, ρ1, .str z, d, r, .inl (.str z hz), r1, e3, k⟩
end
end DL
end

section
/-! Ss1: sorted(set(..)) of ints, of texts -/
namespace DL
open PySem PySem.Spec PyProof.Rows L2

/-! ### what an entry's key is -/
def kvO : Value → Key
  | .int i _ => .inl i
  | .str x _ => .inr x
  | _ => .inl 0
def kE (e : Int × Value) : Key := kvO e.2
theorem kvO_kV {k : Key} {u : Value} (h : RelV (kV k) u) : kvO u = k := by
  cases k with
  | inl i => obtain ⟨t, rfl⟩ := h; rfl
  | inr x => obtain ⟨t, rfl⟩ := h; rfl
def GoodM (w : World) (e : Int × Value) : Prop := ∃ k : Key, RelV (kV k) e.2 ∧ e.1 = keyH w k
theorem scan_kV {k : Key} {u : Value} (h : RelV (kV k) u) : u.scannable = true := by
  cases k with
  | inl i => obtain ⟨t, rfl⟩ := h; rfl
  | inr x => obtain ⟨t, rfl⟩ := h; rfl
section
variable {P : Program} {w : World}
theorem goodM_elems {l : List (Int × Value)} (g : ∀ e ∈ l, GoodM w e) : ElemsOf (mixKind P w) l := fun e he => by
  obtain ⟨k, h1, h2⟩ := g e he
  exact ⟨⟨k, kV_is h1, h2⟩, scan_kV h1⟩
theorem goodM_is {e : Int × Value} (g : GoodM w e) (k : Key) : (mixKind P w).is k e.2 = true ↔ kE e = k := by
  obtain ⟨k0, h1, _⟩ := g
  have e0 : kE e = k0 := kvO_kV h1
  rw [e0]
  constructor
  · intro h
    exact ((mixKind P w).inj _ _ _ h (kV_is h1)).symm
  · rintro rfl
    exact kV_is h1
theorem goodM_mem {l : List (Int × Value)} (g : ∀ e ∈ l, GoodM w e) (k : Key) : k ∈ l.map kE ↔ ∃ e ∈ l, (mixKind P w).is k e.2 = true := by
  rw [List.mem_map]
  constructor
  · rintro ⟨e, he, q⟩
    exact ⟨e, he, (goodM_is (g e he) k).mpr q⟩
  · rintro ⟨e, he, q⟩
    exact ⟨e, he, (goodM_is (g e he) k).mp q⟩
end
/-- the set at a holds just the keys of L, each once; it can be walked -/
structure SetMI (w : World) (L : List Key) (es : Array (Int × Value)) (t : SetTable) : Prop where
  good : ∀ e ∈ es.toList, GoodM w e
  nd : (es.toList.map kE).Nodup
  mem : ∀ k, k ∈ L ↔ k ∈ es.toList.map kE
  few : es.size < scanBound
  fits : t.fits es.size = true
  ris : Ris t.place.toList
  led : w.params.followText "set-order" = true ∨ t.led = true
def SetM (w : World) (h : Heap) (a : Addr) (L : List Key) (n : Nat) : Prop :=
  ∃ (o : Obj) (es : Array (Int × Value)) (ep : Nat) (t : SetTable), h.get? a = some o ∧ o.ExactSet ∧ o.data = .set es ep t ∧ SetMI w L es t ∧ es.size = n
section
variable {P : Program} {w : World} {h h' : Heap} {a : Addr} {L L' : List Key} {n : Nat}
theorem SetM.at (R : SetM w h a L n) (k : ∀ o, h.get? a = some o → h'.get? a = some o) : SetM w h' a L n := by
  obtain ⟨o, es, ep, t, ho, r⟩ := R
  exact ⟨o, es, ep, t, k o ho, r⟩
theorem SetM.congr (R : SetM w h a L n) (e : ∀ k, k ∈ L' ↔ k ∈ L) : SetM w h a L' n := by
  obtain ⟨o, es, ep, t, ho, h1, h2, h3, h4⟩ := R
  exact ⟨o, es, ep, t, ho, h1, h2, { h3 with mem := fun k => (e k).trans (h3.mem k) }, h4⟩
end
section
variable {P : Program} {w : World} {A : Around} {E : Value → Shared → Prop} {s : Shared} {a : Addr} {L : List Key} {n : Nat}
/-- what follows the laying of a new entry -/
theorem setM_tail {g : Bool → Sem Unit} (hg : ∀ (b : Bool) (s₁ : Shared) (Q' : Unit → Shared → Prop), Q' () s₁ → wpAny (model P w) A (g b) Q' E s₁)
    {o : Obj} {es : Array (Int × Value)} {ep : Nat} {t : SetTable} (ho : s.heap.get? a = some o) (hex : o.ExactSet) (hd : o.data = .set es ep t)
    {es1 : Array (Int × Value)} {t2 : SetTable} {L' : List Key} (M : SetMI w L' es1 t2) {wasDummy : Bool} {R : Option Bool → Shared → Prop}
    (hR : ∀ h', Heap.SameBut a s.heap h' → SetM w h' a L' es1.size → R (some true) { s with heap := h' }) :
    wpAny (model P w) A (do
        storeSet a es1 t2
        if (!wasDummy && t2.tooFull) = true then do
            g (relayAll t2 es1 (SetTable.grown es1.size)).2.2
            storeSet a (relayAll t2 es1 (SetTable.grown es1.size)).1 (relayAll t2 es1 (SetTable.grown es1.size)).2.1
            pure (some true)
          else pure (some true)) R E s := by
  have hz := fits_of_scanBound M.few
  refine wpAny_bind (wpAny_storeSet_of ho hd ?_ hz)
  have at1 := store_at (es' := es1) (t' := t2) ho hd
  have same1 := Heap.SameBut.update s.heap a (Obj.putSet es1 t2)
  split
  · have q1 := relayAll_perm t2 es1 (SetTable.grown es1.size)
    have q2 := relayAll_fits t2 es1 (SetTable.grown es1.size)
    have q3 := relayAll_ris t2 es1 (SetTable.grown es1.size)
    have q4 := relayAll_led t2 es1 (SetTable.grown es1.size)
    generalize relayAll t2 es1 (SetTable.grown es1.size) = Z at q1 q2 q3 q4 ⊢
    obtain ⟨es2, t3, gave⟩ := Z
    dsimp only at q1 q2 q3 q4 ⊢
    have sz : es2.size = es1.size := by rw [← Array.length_toList, q1.length_eq, Array.length_toList]
    have M2 : SetMI w L' es2 t3 :=
      ⟨fun e he => M.good e (q1.mem_iff.mp he), (q1.map kE).nodup_iff.mpr M.nd, fun k => (M.mem k).trans (q1.map kE).mem_iff.symm, by rw [sz]; exact M.few, q2, q3, M.led.imp id fun z => by rw [q4]; exact z⟩
    refine wpAny_bind (hg _ _ _ ?_)
    refine wpAny_bind (wpAny_storeSet_of at1 rfl ?_ (fits_of_scanBound M2.few))
    have at2 := store_at (es' := es2) (t' := t3) at1 rfl
    exact wpAny_pure (hR _ (same1.trans (Heap.SameBut.update _ a _)) ⟨_, es2, _, t3, at2, hex, rfl, M2, sz⟩)
  · exact wpAny_pure (hR _ same1 ⟨_, es1, _, t2, at1, hex, rfl, M, rfl⟩)
theorem setM_add {k : Key} {u : Value} {Q : Bool → Shared → Prop} (hu : RelV (kV k) u) (R : SetM w s.heap a L n) (room : n + 1 < scanBound)
    (hQ : ∀ b h' m, Heap.SameBut a s.heap h' → SetM w h' a (k :: L) m → m ≤ n + 1 → Q b { s with heap := h' }) :
    wpAny (model P w) A (setAddHashed a u ((mixKind P w).hash k)) Q E s := by
  obtain ⟨o, es, ep, t, ho, hex, hd, M, hn⟩ := R
  have hkey : (mixKind P w).is k u = true := kV_is hu
  have hel : ElemsOf (mixKind P w) es.toList := goodM_elems M.good
  unfold setAddHashed setAddHashedIn
  refine wpAny_holding (wpAny_bind (wpAny_setState_of ho hd M.fits ?_))
  dsimp only
  rw [byScan_of (scan_kV hu) M.few hel]
  simp only [↓reduceIte]
  unfold setAddByScan
  refine wpAny_bind ?_
  refine wpAny_bind (wpAny_rule ?_)
  refine wpAny_bind (wpAny_setScan_of hkey ho hd M.fits hel ?_)
  cases hf : List.findIdx? (fun e => (mixKind P w).is k e.2) es.toList with
  | some j =>
    dsimp only
    obtain ⟨hj, pj, _⟩ := List.findIdx?_eq_some_iff_getElem.mp hf
    have hk : k ∈ L := (M.mem k).mpr ((goodM_mem (P := P) (w := w) M.good k).mpr ⟨es.toList[j], List.getElem_mem hj, pj⟩)
    refine wpAny_pure (wpAny_pure ?_)
    have e0 : s = { s with heap := s.heap } := by cases s; rfl
    have M' : SetMI w (k :: L) es t := ⟨M.good, M.nd, fun i => by
      rw [← M.mem i, List.mem_cons]
      exact ⟨fun z => z.elim (fun e => e ▸ hk) id, .inr⟩, M.few, M.fits, M.ris, M.led⟩
    have q := hQ false s.heap n (Heap.SameBut.refl a s.heap) ⟨o, es, ep, t, ho, hex, hd, M', hn⟩ (Nat.le_succ n)
    exact q
  | none =>
    dsimp only
    have hk : k ∉ es.toList.map kE := fun z => by
      obtain ⟨e, he, q⟩ := (goodM_mem (P := P) (w := w) M.good k).mp z
      have c := List.findIdx?_eq_none_iff.mp hf e he
      rw [q] at c
      cases c
    have told : ∀ (b : Bool) {s₁ : Shared} {Q' : Unit → Shared → Prop}, Q' () s₁ → wpAny (model P w) A (match b with | true => rule "set.scan.the-table-gave-way" | false => pure ()) Q' E s₁ :=
      fun b s₁ Q' q => by cases b <;> first | exact wpAny_pure q | exact wpAny_rule q
    have q1 := layNew_perm t es ((mixKind P w).hash k) u
    have q2 := layNew_fits t es ((mixKind P w).hash k) u
    have q3 := layNew_ris t es ((mixKind P w).hash k) u M.ris
    have q4 := layNew_led t es ((mixKind P w).hash k) u
    generalize layNew t es ((mixKind P w).hash k) u = Z at q1 q2 q3 q4 ⊢
    obtain ⟨es1, t1, wasDummy, gave⟩ := Z
    dsimp only at q1 q2 q3 q4 ⊢
    rw [Array.toList_push] at q1
    have pc : es1.toList.Perm (((mixKind P w).hash k, u) :: es.toList) := q1.trans (List.perm_append_singleton _ _)
    have ek : kE ((mixKind P w).hash k, u) = k := kvO_kV hu
    have pk : (es1.toList.map kE).Perm (k :: es.toList.map kE) := by
      have z := pc.map kE
      rw [List.map_cons, ek] at z
      exact z
    have sz : es1.size = n + 1 := by rw [← Array.length_toList, pc.length_eq, List.length_cons, Array.length_toList, hn]
    have M1 : ∀ t', t'.fits es1.size = true → Ris t'.place.toList → t'.led = t.led → SetMI w (k :: L) es1 t' := fun t' f1 f2 f3 =>
      ⟨fun e he => by
        rcases List.mem_cons.mp (pc.mem_iff.mp he) with z | z
        · rw [z]; exact ⟨k, hu, rfl⟩
        · exact M.good e z, pk.nodup_iff.mpr (List.nodup_cons.mpr ⟨hk, M.nd⟩), fun i => by
        rw [pk.mem_iff, List.mem_cons, List.mem_cons, M.mem i], by rw [sz]; exact room, f1, f2, M.led.imp id fun z => by rw [f3]; exact z⟩
    have fin : ∀ h', Heap.SameBut a s.heap h' → SetM w h' a (k :: L) es1.size → Q true { s with heap := h' } := fun h' sb r => hQ true h' _ sb r (by omega)
    refine wpAny_bind (told _ ?_)
    split
    · refine wpAny_bind ?_
      rw [hashByValue_scannable 8 (scan_kV hu)]
      refine wpAny_pure ?_
      refine setM_tail (L' := k :: L) ?_ ho hex hd ?_ ?_
      · intro b s₁ Q' q; cases b <;> first | exact wpAny_pure q | exact wpAny_rule q
      · split
        · exact M1 _ q2 q3 q4
        · exact M1 _ (SetTable.fits_plain_off q2) q3 q4
      · intro h' sb r; dsimp only; exact wpAny_pure (fin h' sb r)
    · refine wpAny_bind (wpAny_pure ?_)
      simp only [↓reduceIte]
      refine setM_tail (L' := k :: L) ?_ ho hex hd (M1 _ q2 q3 q4) ?_
      · intro b s₁ Q' q; cases b <;> first | exact wpAny_pure q | exact wpAny_rule q
      · intro h' sb r; dsimp only; exact wpAny_pure (fin h' sb r)
end
abbrev setO0 (w : World) : Obj := { cls := .type "set", dict := none, data := .set #[] 0 (.fresh 0 0 (!w.params.followText "set-order")) }
theorem setM_fresh {w : World} {h : Heap} {a : Addr} (ho : h.get? a = some (setO0 w)) : SetM w h a [] 0 :=
  ⟨_, #[], 0, _, ho, ⟨rfl, rfl, rfl⟩, rfl, ⟨fun e he => by simp at he, by simp, fun k => by simp, by decide, by rfl, List.Pairwise.nil, by
    show _ ∨ (!w.params.followText "set-order") = true
    cases w.params.followText "set-order"
    · exact .inr rfl
    · exact .inl rfl⟩, rfl⟩
/-- the value is the key -/
def KeyV (k : Key) (u : Value) : Prop := RelV (kV k) u
section
variable {P : Program} {w : World} {A : Around} {E : Value → Shared → Prop} {s : Shared}
/-- set.update's loop over keys -/
theorem setM_update {I : Addr} {fp wr : List Addr} {G : Array GenState → Array GenState → Prop} {n : Nat} {Pv : Nat → Value → Prop} {St : Nat → Shared → Prop} {R : Result → Shared → Prop}
    (W : WalksS P w A.in1 I fp wr G n Pv St) (S : Addr) (hSf : S ∉ fp) (ks : List Key) (hn : n = ks.length) (hb : ks.length + 1 < scanBound) (hval : ∀ i v, Pv i v → ∃ k, ks[i]? = some k ∧ KeyV k v) :
    ∀ (j i : Nat) (s : Shared), n - i = j → i ≤ n → St i s → (∃ c, c ≤ i ∧ SetM w s.heap S (ks.take i) c) →
      (∀ s' c, Moved (S :: wr) G s s' → SetM w s'.heap S ks c → R (.ok (.ret .none)) s') →
      codeAny (model P w) A (.builtin "set.update.loop" ⟨[.ref S, .ref I], []⟩) R s := by
  have out : S ∉ wr := fun h => hSf (W.sub _ h)
  have into : ∀ b ∈ wr, b ∈ S :: wr := fun b hb => List.mem_cons_of_mem _ hb
  intro j
  induction j with
  | zero =>
    intro i s hj hi hst ⟨c, hc, hS⟩ hR
    obtain rfl : i = n := by omega
    refine codeAny_builtin F.entry_set_update_loop ?_
    rw [Around.under_plainId F.plain_set_update_loop _]
    show wpAny _ A.in1 (pyNext (.ref I) >>= _) _ _ s
    refine wpAny_bind (W.done s _ _ hst fun s' hm => ?_)
    show wpAny _ A.in1 (PySem.ret Value.none) _ _ s'
    rw [List.take_of_length_le (by omega)] at hS
    exact wpAny_pure (hR s' c (hm.mono into) (hS.at fun o e => hm.heap S o out e))
  | succ j ih =>
    intro i s hj hi hst ⟨c, hc, hS⟩ hR
    have hlt : i < n := by omega
    refine codeAny_builtin F.entry_set_update_loop ?_
    rw [Around.under_plainId F.plain_set_update_loop _]
    show wpAny _ A.in1 (pyNext (.ref I) >>= _) _ _ s
    refine wpAny_bind (W.item i s _ _ hlt hst fun v s' hP hst' hm => ?_)
    obtain ⟨k, hk, hv⟩ := hval i v hP
    have hS' : SetM w s'.heap S (ks.take i) c := hS.at fun o e => hm.heap S o out e
    show wpAny _ A.in1 (holding [v] (setAdd S v) >>= _) _ _ s'
    refine wpAny_bind (wpAny_holding ?_)
    unfold setAdd
    refine wpAny_holding ?_
    refine wpAny_bind ((mixKind P w).pyHash (k := k) (kV_is hv) ?_)
    refine setM_add (s := { s' with toks := s'.toks + 1 }) hv hS' (by omega) fun b h' m hsb hS2 hm2 => ?_
    have hS3 : SetM w h' S (ks.take (i + 1)) m := hS2.congr fun q => by
      rw [List.take_add_one, hk]
      simp [List.mem_append, or_comm]
    refine wpAny_pure ⟨plainId_quiet F.plain_set_update_loop _, ih (i + 1) _ (by omega) hlt (W.frame _ s' _ _ hst' (Nat.le_succ _) fun b hb o e => ?_) ⟨m, by omega, hS3⟩ fun s'' c2 hm'' hS'' => ?_⟩
    · rw [hsb.2 b (fun h : b = S => hSf (by rw [← h]; exact hb))]; exact e
    · refine hR s'' c2 (Moved.trans W.gtrans ((hm.mono into).then_heap (Nat.le_succ _) fun b o hb e => ?_) hm'') hS''
      rw [hsb.2 b (fun h : b = S => hb (by rw [h]; exact List.mem_cons_self))]; exact e
end
end DL
end

section
/-! Ss2: set(xs) of keys, sorted of it -/
namespace DL
open PySem PySem.Spec PyProof.Rows L2
section
variable {P : Program} {w : World} {A : Around} {E : Value → Shared → Prop} {s : Shared}
/-- set(xs), the list's items keys -/
theorem call_setM {l : Addr} {items : Array Value} (ks : List Key) {Q : Value → Shared → Prop} (hh : A.handled = none) (hl : s.heap.IsList l items) (hn : items.size = ks.length) (hit : ∀ (i : Nat) (v : Value), items[i]? = some v → ∃ k, ks[i]? = some k ∧ KeyV k v) (hb : ks.length + 1 < scanBound)
    (h : ∀ (h' : Heap) (tk c : Nat), SetM w h' s.heap.objs.size ks c → (∀ b o, s.heap.get? b = some o → h'.get? b = some o) → Q (.ref s.heap.objs.size) { s with heap := h', toks := tk }) :
    wpAny (model P w) A (call (.type "set") [.ref l]) Q E s := by
  obtain ⟨c0, tl, hmro⟩ := F.called_set.mro
  have hmade := F.called_set.made
  have hsub := F.called_set.sub
  refine wpAny_call (codeAny_of_tree ?_)
  show wpAny _ _ (callAny (.type "set") _) _ _ _
  refine wpAny_pure ⟨Code.quiet_builtin _ (by decide +kernel), codeAny_builtin F.entry_type_call ?_⟩
  rw [Around.under_plain (weight_type_call_type "set" [.ref l] []) rfl]
  have n1 := F.called_set.notType
  have n2 := F.called_set.canCreate
  have n3 := F.typeCall_set_1 (.ref l)
  repeat (any_goals (first | assumption | wp_step))
  refine codeAny_mono (code_set_led1 (.ref l) (E := E) (Q₁ := fun obj s₁ => obj = .ref s.heap.objs.size ∧ s₁ = { s with heap := s.heap.push (setO0 w) }) ⟨rfl, rfl⟩) fun r s₁ hr => ?_
  cases r with
  | error e => exact hr
  | ok fl =>
    cases fl with
    | ret obj =>
      obtain ⟨rfl, rfl⟩ := hr
      have hS : (s.heap.push (setO0 w)).get? s.heap.objs.size = some (setO0 w) := Heap.get?_push_size _ rfl
      have hT : Shared.TypeIs { s with heap := s.heap.push (setO0 w) } (.ref s.heap.objs.size) "set" := ⟨_, hS, rfl⟩
      have m1 := F.called_set.init.lookup
      have m2 := F.called_set.init.bind (.ref s.heap.objs.size)
      repeat (any_goals (first | assumption | wp_step))
      refine codeAny_mono (codeAny_call_builtin (R := wants (fun r s₂ => r = .none ∧ ∃ h' tk c, s₂ = { s with heap := h', toks := tk } ∧ SetM w h' s.heap.objs.size ks c ∧ (∀ b o, s.heap.get? b = some o → h'.get? b = some o)) E) F.called_set.init.plain F.entry_set_init (check_set_init_1 hT ?_)) fun r₂ s₂ hr₂ => ?_
      · obtain ⟨ol, hol, hcl, nl, hdl⟩ := hl
        obtain ⟨ocls, odict, odata, oslots⟩ := ol
        simp only at hcl hdl
        subst hcl; subst hdl
        have hol' : (s.heap.push (setO0 w)).get? l = some { cls := .type "list", dict := odict, data := .seq items nl, slots := oslots } := Heap.get?_push_of_some _ hol
        have k1 := F.sub_list_set
        have k2 := F.sub_list_frozenset
        have k3 : (Value.type "list" == Value.type "dict") = false := by decide
        have hl1 : (s.heap.push (setO0 w)).IsList l items := ⟨_, hol', rfl, nl, rfl⟩
        unfold Builtin.«set.__init__» noKeywords Builtin.Frozenset.updateFrom
        generalize hPI : pyIter = PI
        wp_walk
        subst hPI
        refine wpAny_pyIter_list hl1 ?_
        refine wpAny_bind (wpAny_runValue ?_)
        have hlS : l < s.heap.objs.size := Heap.lt_size hol
        have hh3 : A.in1.in1.in1.handled = none := by simp [hh]
        have hz1 : (s.heap.push (setO0 w)).objs.size = s.heap.objs.size + 1 := Heap.size_push ..
        have hneI : l ≠ (s.heap.push (setO0 w)).objs.size := by
          rw [Heap.size_push]; exact Nat.ne_of_lt (Nat.lt_succ_of_lt hlS)
        have hSf : s.heap.objs.size ∉ [(s.heap.push (setO0 w)).objs.size, l] := by
          rw [Heap.size_push]; simp only [List.mem_cons, List.mem_singleton, List.not_mem_nil, or_false, not_or]
          exact ⟨Nat.ne_of_lt (Nat.lt_succ_self _), Nat.ne_of_gt hlS⟩
        refine setM_update ((Walks.list hh3 _ l hneI items).toS) s.heap.objs.size hSf ks hn hb hit (items.size - 0) 0 _ (by omega) (Nat.zero_le _)
          ⟨⟨_, Heap.get?_push_size _ rfl, rfl, rfl⟩, (hl1.push _)⟩ ?hS0 ?hR
        case hS0 =>
          have hget : ((s.heap.push (setO0 w)).push { cls := .type "list_iterator", data := .fields #[.ref l, .int 0 0] }).get? s.heap.objs.size = some (setO0 w) := Heap.get?_push_of_some _ hS
          exact ⟨0, Nat.le_refl 0, setM_fresh hget⟩
        case hR =>
          intro s' c' hm hS'
          obtain ⟨h', g2, d', tk', os'⟩ := s'
          have eg : g2 = s.gens := hm.gens
          have ed : d' = s.drawn := hm.drawn
          have eo : os' = s.os := hm.os
          subst eg; subst ed; subst eo
          show wpAny _ _ _ _ _ _
          refine wpAny_pure ?_
          show wpAny _ _ (PySem.ret Value.none) _ _ _
          refine wpAny_pure ⟨rfl, h', tk', c', rfl, hS', fun b o e => ?_⟩
          have hb0 : b < s.heap.objs.size := Heap.lt_size e
          have hb1 : b ≠ s.heap.objs.size := Nat.ne_of_lt hb0
          have hb2 : b ≠ (s.heap.push (setO0 w)).objs.size := by
            rw [Heap.size_push]; exact Nat.ne_of_lt (Nat.lt_succ_of_lt hb0)
          exact hm.heap b o (by simp only [List.mem_cons, List.mem_singleton, List.not_mem_nil, or_false, not_or]; exact ⟨hb1, hb2⟩) (Heap.get?_push_of_some _ (Heap.get?_push_of_some _ e))
      · cases r₂ with
        | error e => exact hr₂
        | ok fl₂ =>
          cases fl₂ with
          | ret r =>
            obtain ⟨rfl, h', tk, c', rfl, hS', hk'⟩ := hr₂
            repeat (any_goals (first | assumption | wp_step))
            exact h _ _ _ hS' hk'
          | _ => exact hr₂.elim
    | _ => exact hr.elim
end
end DL
end

section
/-! Ss3: sorted(set(..)), as an expression -/
namespace DL
open PySem PySem.Spec PyProof.Rows L2
/-- keys as data -/
def kD : Key → D
  | .inl i => .int i
  | .inr x => .str x
def KeyR (u : Value) (d : D) : Prop := ∃ k : Key, RelV (kV k) u ∧ d = kD k
theorem keyR_reads {h : Heap} : ∀ {us : List Value} {ds : List D}, PySem.W.EachIs KeyR us ds → PySem.W.EachIs (fun u d => ∃ as, Reads h u (id d) as) us ds
  | _, _, .nil => .nil
  | _, _, .cons ⟨k, h1, h2⟩ b => by
    refine .cons ?_ (keyR_reads b)
    subst h2
    cases k with
    | inl i => obtain ⟨t, rfl⟩ := h1; exact ⟨_, .int i t⟩
    | inr x => obtain ⟨t, rfl⟩ := h1; exact ⟨_, .str x t⟩
theorem keyR_each : ∀ (us : List Value), (∀ u ∈ us, ∃ k, RelV (kV k) u) → PySem.W.EachIs KeyR us (us.map fun u => kD (kvO u))
  | [], _ => .nil
  | u :: us, h => by
    obtain ⟨k, hk⟩ := h u List.mem_cons_self
    exact .cons ⟨k, hk, by show kD (kvO u) = kD k; rw [kvO_kV hk]⟩ (keyR_each us fun v hv => h v (List.mem_cons_of_mem _ hv))
def allK (ds : List D) : Prop := (∃ ns : List Int, ds = ns.map .int) ∨ (∃ ss : List Str, ds = ss.map .str)
theorem allK_alike {ds : List D} (h : allK ds) : PySem.W.AllAlike (ds.map id) ∧ PySem.W.Sortable (ds.map id) := by
  rw [List.map_id]
  rcases h with ⟨ns, rfl⟩ | ⟨ns, rfl⟩
  · refine ⟨fun d hd d' hd' => ?_, .inr fun d hd => ?_⟩
    · obtain ⟨n, _, rfl⟩ := List.mem_map.mp hd
      obtain ⟨m, _, rfl⟩ := List.mem_map.mp hd'
      simp [PySem.W.alike]
    · obtain ⟨n, _, rfl⟩ := List.mem_map.mp hd
      exact ⟨fun e => (nomatch e), fun xs e => (nomatch e)⟩
  · refine ⟨fun d hd d' hd' => ?_, .inr fun d hd => ?_⟩
    · obtain ⟨n, _, rfl⟩ := List.mem_map.mp hd
      obtain ⟨m, _, rfl⟩ := List.mem_map.mp hd'
      simp [PySem.W.alike]
    · obtain ⟨n, _, rfl⟩ := List.mem_map.mp hd
      exact ⟨fun e => (nomatch e), fun xs e => (nomatch e)⟩
section
variable {P : Program} {w : World} {A : Around} {E : Value → Shared → Prop} {s : Shared} {a : Addr} {L : List Key} {n : Nat}
theorem sorted_setM {Q : Value → Shared → Prop} (R : SetM w s.heap a L n) (hh : A.handled = none) (hu : A.units + 10 < cLine) (hL : allK (L.map kD))
    (hQ : ∀ s' p (out : List Value) (c : Nat) (ds : List D), (∀ b o, s.heap.get? b = some o → s'.heap.get? b = some o) → s'.gens = s.gens → s'.os = s.os → s.heap.objs.size ≤ p →
      s'.heap.get? p = some (seqObj "list" out.toArray c) → PySem.W.EachIs KeyR out (ds.mergeSort dle) → ds.Nodup → (∀ d, d ∈ ds ↔ d ∈ L.map kD) → out.length < scanBound → Q (.ref p) s') :
    wpAny (model P w) A (call (.builtin "sorted") [.ref a]) Q E s := by
  obtain ⟨o, es, ep, t, ho, hex, hd, M, hn⟩ := R
  refine Calls.call_function_entry kind_sorted plain_sorted entry_sorted (args_sorted1 _) ?_
  unfold Builtin.«sorted»
  refine wpAny_bind (m := checkCount "sorted" 1 1 _) (wpAny_pure ?_)
  refine wpAny_bind (collect_set (A := A.in1) hh ⟨o, ho, hex.1, hd⟩ M.fits M.few M.ris M.led fun s1 vs k1 hz g1 o1 pm => ?_)
  have hvl : vs.length = n := by rw [pm.length_eq, List.length_map, Array.length_toList]; exact hn
  have hfew : vs.length < scanBound := by rw [hvl, ← hn]; exact M.few
  have hkv : ∀ u ∈ vs, ∃ k, RelV (kV k) u := fun u hu => by
    obtain ⟨e, he, q⟩ := List.mem_map.mp (pm.mem_iff.mp hu)
    obtain ⟨k, h1, _⟩ := M.good e he
    exact ⟨k, by rw [← q]; exact h1⟩
  have pk : (vs.map kvO).Perm (es.toList.map kE) := by
    have q := pm.map kvO
    rw [List.map_map] at q
    exact q
  have inj : ∀ a b : Key, kD a = kD b → a = b := fun a b e => by
    cases a <;> cases b <;> first | (cases e; rfl) | cases e
  generalize hds : (vs.map fun u => kD (kvO u)) = ds
  have e1 : PySem.W.EachIs KeyR vs ds := by rw [← hds]; exact keyR_each vs hkv
  have eds : ds = (vs.map kvO).map kD := by rw [← hds, List.map_map]; rfl
  have mds : ∀ d, d ∈ ds ↔ d ∈ L.map kD := fun d => by
    rw [eds, List.mem_map, List.mem_map]
    constructor
    · rintro ⟨k, hk, rfl⟩
      exact ⟨k, (M.mem k).mpr (pk.mem_iff.mp hk), rfl⟩
    · rintro ⟨k, hk, rfl⟩
      exact ⟨k, pk.mem_iff.mpr ((M.mem k).mp hk), rfl⟩
  have nds : ds.Nodup := by
    rw [eds]
    refine List.Pairwise.map _ (fun a b hab e => hab (inj _ _ e)) (pk.nodup_iff.mpr M.nd)
  have hK : allK ds := by
    rcases hL with ⟨ns, e⟩ | ⟨ss, e⟩
    · refine .inl ⟨ds.map (fun d => match d with | .int i => i | _ => 0), ?_⟩
      rw [List.map_map]
      have : ∀ d ∈ ds, (PyData.int ∘ fun d => match d with | .int i => i | _ => 0) d = d := fun d hd => by
        have q := (mds d).mp hd
        rw [e] at q
        obtain ⟨i, _, rfl⟩ := List.mem_map.mp q
        rfl
      exact ((List.map_congr_left this).trans (List.map_id' ds)).symm
    · refine .inr ⟨ds.map (fun d => match d with | .str i => i | _ => Str.empty), ?_⟩
      rw [List.map_map]
      have : ∀ d ∈ ds, (PyData.str ∘ fun d => match d with | .str i => i | _ => Str.empty) d = d := fun d hd => by
        have q := (mds d).mp hd
        rw [e] at q
        obtain ⟨i, _, rfl⟩ := List.mem_map.mp q
        rfl
      exact ((List.map_congr_left this).trans (List.map_id' ds)).symm
  obtain ⟨al, so⟩ := allK_alike hK
  have hdep : ∀ d ∈ ds, (id d : D).depth = 0 := fun d hd => by
    rcases hK with ⟨ns, e⟩ | ⟨ns, e⟩
    · rw [e] at hd; obtain ⟨i, _, rfl⟩ := List.mem_map.mp hd; simp [PyData.depth]
    · rw [e] at hd; obtain ⟨i, _, rfl⟩ := List.mem_map.mp hd; simp [PyData.depth]
  have hlen : ds.length = vs.length := by rw [← hds, List.length_map]
  have hsz := fits_of_scanBound hfew
  refine wpAny_bind (wpAny_newList ?_ hsz)
  have hoL : (s1.heap.push (seqObj "list" vs.toArray 0)).get? s1.heap.objs.size = some (seqObj "list" vs.toArray 0) := Heap.get?_push_size _ rfl
  have noA : ∀ {us : List Value} {ds : List D}, PySem.W.EachIs KeyR us ds → PySem.W.EachIs (fun u d => ∃ as, Reads (s1.heap.push (seqObj "list" vs.toArray 0)) u (id d) as ∧ s1.heap.objs.size ∉ as) us ds := by
    intro us ds h
    induction h with
    | nil => exact .nil
    | cons q b ih =>
      obtain ⟨k, h1, h2⟩ := q
      refine .cons ?_ ih
      subst h2
      cases k with
      | inl i => obtain ⟨t, rfl⟩ := h1; exact ⟨_, .int i t, by simp⟩
      | inr x => obtain ⟨t, rfl⟩ := h1; exact ⟨_, .str x t, by simp⟩
  refine wpAny_bind (wpAny_holding (PySem.W.list_sort_data (s := { s1 with heap := s1.heap.push (seqObj "list" vs.toArray 0) }) (enc := id) hoL e1 (noA e1) al so (by rw [hlen]; exact hsz) (fun b hb => by rw [hdep b hb]; show A.in1.units + 1 + 0 < cLine; simp; omega) fun out a1 a2 => ?_))
  obtain ⟨c, hc⟩ := sortedHeap_at (vs := vs) (out := out.toArray) hoL
  refine wpAny_pure ⟨_, rfl, hQ { s1 with heap := sortedHeap (s1.heap.push (seqObj "list" vs.toArray 0)) s1.heap.objs.size vs out.toArray } s1.heap.objs.size out c ds (fun b u e => ?_) g1 o1 hz hc ?_ nds mds (by rw [a1, hlen]; exact hfew)⟩
  · have q := k1 b u e
    have hlt := Heap.lt_size q
    show (sortedHeap (s1.heap.push (seqObj "list" vs.toArray 0)) s1.heap.objs.size vs out.toArray).get? b = some u
    rw [sortedHeap_old (Nat.ne_of_lt hlt) (by rw [size_push']; exact Nat.lt_succ_of_lt hlt)]
    exact Heap.get?_push_of_some _ q
  · rw [dle_eq]; exact a2
end
/-! ### what sorted(set(..)) gives -/
theorem ks_of_each : ∀ {us : List Value} {ds : List D}, PySem.W.EachIs KeyR us ds → ∃ xs : List V, Vals xs us ∧ Paired (fun v d => ∃ k : Key, v = kV k ∧ d = kD k) xs ds
  | _, _, .nil => ⟨[], .nil, .nil⟩
  | _, _, .cons ⟨k, h1, h2⟩ b => by
    obtain ⟨xs, h3, h4⟩ := ks_of_each b
    exact ⟨kV k :: xs, .cons h1 h3, .cons ⟨k, rfl, h2⟩ h4⟩
abbrev DpKs : List V → List D → Prop := Paired fun v d => ∃ k : Key, v = kV k ∧ d = kD k
theorem DpKs.rp {K : PySem.W.Frag} {H : Hp} : ∀ {xs : List V} {ds : List D}, DpKs xs ds → (∀ x, .str x ∈ ds → PyData.strOk x = true) → RpAll K H xs ds
  | _, _, .nil, _ => .nil
  | _, _, .cons ⟨k, h1, h2⟩ b, h => by
    subst h1 h2
    refine .cons ?_ (DpKs.rp b fun x hx => h x (List.mem_cons_of_mem _ hx))
    cases k with
    | inl i => exact .int i
    | inr x => exact .str x (h x List.mem_cons_self)
theorem perm_nd {α : Type} [DecidableEq α] {l m : List α} (h1 : l.Nodup) (h2 : m.Nodup) (h : ∀ a, a ∈ l ↔ a ∈ m) : l.Perm m := by
  rw [List.perm_iff_count]
  intro a
  rw [h1.count, h2.count]
  by_cases ha : a ∈ l
  · rw [if_pos ha, if_pos ((h a).mp ha)]
  · rw [if_neg ha, if_neg fun z => ha ((h a).mpr z)]
theorem ddp_mem {α : Type} [DecidableEq α] : ∀ (l : List α) (a : α), a ∈ ddp l ↔ a ∈ l
  | [], a => by simp [ddp]
  | x :: r, a => by
    by_cases h : a = x
    · simp [ddp, h]
    · simp [ddp, List.mem_filter, ddp_mem r a, h]
theorem ddp_nd {α : Type} [DecidableEq α] : ∀ (l : List α), (ddp l).Nodup
  | [] => List.nodup_nil
  | x :: r => by
    unfold ddp
    rw [List.nodup_cons]
    refine ⟨fun h => ?_, (ddp_nd r).filter _⟩
    have z := (List.mem_filter.mp h).2
    simp at z
theorem sort_perm {α : Type} {le : α → α → Bool} (tr : ∀ a b c, le a b = true → le b c = true → le a c = true) (to : ∀ a b, (le a b || le b a) = true) (an : ∀ a b, le a b = true → le b a = true → a = b) {l m : List α} (p : l.Perm m) : l.mergeSort le = m.mergeSort le :=
  List.Perm.eq_of_pairwise (le := fun a b => le a b = true) (fun a b _ _ h1 h2 => an a b h1 h2) (List.pairwise_mergeSort tr to _) (List.pairwise_mergeSort tr to _) ((List.mergeSort_perm _ _).trans (p.trans (List.mergeSort_perm _ _).symm))
theorem intLe_tr (a b c : Int) (h1 : decide (a ≤ b) = true) (h2 : decide (b ≤ c) = true) : decide (a ≤ c) = true := by simp at *; omega
theorem intLe_to (a b : Int) : (decide (a ≤ b) || decide (b ≤ a)) = true := by simp; omega
theorem intLe_an (a b : Int) (h1 : decide (a ≤ b) = true) (h2 : decide (b ≤ a) = true) : a = b := by simp at *; omega
theorem strLe_iff (a b : Str) : strLe a b = true ↔ a.cps.toList ≤ b.cps.toList := by
  unfold strLe
  simp [List.not_lt]
theorem strLe_tr (a b c : Str) (h1 : strLe a b = true) (h2 : strLe b c = true) : strLe a c = true := by
  rw [strLe_iff] at *
  exact List.le_trans h1 h2
theorem strLe_to (a b : Str) : (strLe a b || strLe b a) = true := by
  rw [Bool.or_eq_true, strLe_iff, strLe_iff]
  exact List.le_total _ _
theorem strLe_an (a b : Str) (h1 : strLe a b = true) (h2 : strLe b a = true) : a = b := by
  rw [strLe_iff] at *
  have e := List.le_antisymm h1 h2
  cases a
  cases b
  simp only [Str.mk.injEq]
  exact Array.toList_inj.mp e
theorem dle_int (a b : Int) : dle (.int a) (.int b) = decide (a ≤ b) := by
  unfold dle
  rw [PySem.W.dataLt_int]
  by_cases h : b < a
  · have h' : ¬ a ≤ b := by omega
    simp [h, h']
  · have h' : a ≤ b := by omega
    simp [h, h']
theorem dle_str (a b : Str) : dle (.str a) (.str b) = strLe a b := by
  unfold dle strLe
  rw [PySem.W.dataLt_str]
theorem ints_of_mem {ds : List D} {ns : List Int} (h : ∀ d, d ∈ ds → d ∈ ns.map PyData.int) : ∃ ms : List Int, ds = ms.map .int := by
  induction ds with
  | nil => exact ⟨[], rfl⟩
  | cons d ds ih =>
    obtain ⟨ms, e⟩ := ih fun x hx => h x (List.mem_cons_of_mem _ hx)
    obtain ⟨n, _, e2⟩ := List.mem_map.mp (h d List.mem_cons_self)
    exact ⟨n :: ms, by rw [e, ← e2]; rfl⟩
theorem strs_of_mem {ds : List D} {ns : List Str} (h : ∀ d, d ∈ ds → d ∈ ns.map PyData.str) : ∃ ms : List Str, ds = ms.map .str := by
  induction ds with
  | nil => exact ⟨[], rfl⟩
  | cons d ds ih =>
    obtain ⟨ms, e⟩ := ih fun x hx => h x (List.mem_cons_of_mem _ hx)
    obtain ⟨n, _, e2⟩ := List.mem_map.mp (h d List.mem_cons_self)
    exact ⟨n :: ms, by rw [e, ← e2]; rfl⟩
theorem sset_ints {ds : List D} {ns : List Int} (hn : ds.Nodup) (h : ∀ d, d ∈ ds ↔ d ∈ ns.map PyData.int) : ds.mergeSort dle = (ssetI ns).map .int := by
  obtain ⟨ms, rfl⟩ := ints_of_mem fun d hd => (h d).mp hd
  have nm : ms.Nodup := List.Pairwise.of_map _ (fun a b hab e => hab (by rw [e])) hn
  have mm : ∀ a, a ∈ ms ↔ a ∈ ddp ns := fun a => by
    rw [ddp_mem]
    have z := h (.int a)
    simpa using z
  rw [← List.map_mergeSort (r := fun a b => decide (a ≤ b)) (fun a _ b _ => (dle_int a b).symm)]
  congr 1
  exact sort_perm intLe_tr intLe_to intLe_an (perm_nd nm (ddp_nd ns) mm)
theorem sset_strs {ds : List D} {ns : List Str} (hn : ds.Nodup) (h : ∀ d, d ∈ ds ↔ d ∈ ns.map PyData.str) : ds.mergeSort dle = (ssetS ns).map .str := by
  obtain ⟨ms, rfl⟩ := strs_of_mem fun d hd => (h d).mp hd
  have nm : ms.Nodup := List.Pairwise.of_map _ (fun a b hab e => hab (by rw [e])) hn
  have mm : ∀ a, a ∈ ms ↔ a ∈ ddp ns := fun a => by
    rw [ddp_mem]
    have z := h (.str a)
    simpa using z
  rw [← List.map_mergeSort (r := strLe) (fun a _ b _ => (dle_str a b).symm)]
  congr 1
  exact sort_perm strLe_tr strLe_to strLe_an (perm_nd nm (ddp_nd ns) mm)
/-! ### in the hand layer -/
def SetHO (w : World) (p : Addr) (ks : List Key) : HO := .ext fun h => ∃ c, SetM w h p ks c
theorem setHO_new {w : World} {P : Program} {H : Hp} {h : Heap} {a : Addr} {ks : List Key} {c : Nat} (R : SetM w h a ks c) : ObjOk P w H h a (SetHO w a ks) := by
  have R' := R
  obtain ⟨o, _, _, _, ho, _⟩ := R'
  exact ⟨⟨c, R⟩, ⟨o, ho⟩, fun h1 h2 p k => by obtain ⟨c, p⟩ := p; exact ⟨c, p.at k⟩⟩
section
variable {X : Cx} {exc : Str → Option (Addr × Str)} {T : List (Addr × Str)} {W : WX} {Γ : Ctx} {a : Expr} {ea : E} {pos p1 p2 q : Pos}
def rSetM (K : PySem.W.Frag) (w : World) : List V → Hp → VK → Prop := fun xs H Q => ∃ (l : Addr) (ks : List Key), xs = [.ref l] ∧ SqL K H l (ks.map kV) ∧ ks.length + 1 < scanBound ∧ ∀ p, H p = none → Q (.ref p) (upd H p (SetHO w p ks))
theorem cr_setM (hc : X.calm = true) : CallR X (.type "set") (rSetM X.K X.w) := by
  intro pins s σ H xs us Q I r h
  obtain ⟨l, ks, rfl, hl, hb, q⟩ := h
  rw [Vals.ref1 r]
  obtain ⟨its, rv, pl, hz⟩ := I.list hl
  have hn : H s.heap.objs.size = none := I.hok.fresh (Nat.le_refl _)
  have hlen := rv.length
  rw [List.length_map] at hlen
  refine call_setM (P := X.prog) (w := X.w) ks (I.ok.hd hc) pl.isList (by rw [List.size_toArray]; exact hlen.symm) (fun i v hv => ?_) hb fun h' tk c R k => ?_
  · have hv : its[i]? = some v := by simpa using hv
    have hi : i < ks.length := by rw [hlen]; exact (List.getElem?_eq_some_iff.mp hv).1
    refine ⟨ks[i], List.getElem?_eq_getElem hi, ?_⟩
    obtain ⟨u, g1, g2⟩ := rv.get (i := i) (x := kV ks[i]) (by rw [List.getElem?_map, List.getElem?_eq_getElem hi]; rfl)
    rw [hv] at g1
    cases g1
    exact g2
  · exact ⟨.ref s.heap.objs.size, upd H s.heap.objs.size (SetHO X.w s.heap.objs.size ks), I.laid (t' := tk) k (Nat.le_refl _) (setHO_new R), rfl, q _ hn⟩
def rSortM (K : PySem.W.Frag) (w : World) : List V → Hp → VK → Prop := fun vs H Q => ∃ (a : Addr) (ks : List Key), vs = [.ref a] ∧ H a = some (SetHO w a ks) ∧ allK (ks.map kD) ∧
  ∀ (ds : List D) (xs : List V) (p : Addr), ds.Nodup → (∀ d, d ∈ ds ↔ d ∈ ks.map kD) → DpKs xs (ds.mergeSort dle) → H p = none → Q (.ref p) (upd H p (.lst xs))
theorem cr_sortM (hc : X.calm = true) (hu : X.A.units + 10 < cLine) : CallR X (.builtin "sorted") (rSortM X.K X.w) := by
  intro pins s σ H vs us Q I r h
  obtain ⟨a, ks, rfl, ha, hK, q⟩ := h
  obtain ⟨c, R⟩ := (I.hok a _ ha).1
  rw [Vals.ref1 r]
  refine sorted_setM R (I.ok.hd hc) hu hK fun s' p out c ds k g o hp hg he hnd hm hfew => ?_
  obtain ⟨xs, hv, hx⟩ := ks_of_each he
  have hlen : xs.length ≤ sizeLine := by rw [hv.length]; exact fits_of_scanBound hfew
  have hn : H p = none := I.hok.fresh hp
  have J : Inv X pins σ (upd H p (.lst xs)) { s with heap := s'.heap, gens := s'.gens, drawn := s'.drawn, toks := s'.toks } :=
    I.call (ch := []) (Un.laid k hp hn) (I.hok.laid k hp ⟨hlen, out, c, hv, hg⟩) (by rw [g]; exact I.bare) (fun _ z => nomatch z)
  have e : s' = { s with heap := s'.heap, gens := s'.gens, drawn := s'.drawn, toks := s'.toks } := by
    cases s'
    cases s
    cases o
    rfl
  rw [e]
  exact ⟨.ref p, _, J, rfl, q ds xs p hnd hm hx hn⟩
theorem scanB : scanBound = 4096 := rfl
/-- sorted(set(e)) -/
theorem se_sset (hc : X.calm = true) (hu : X.A.units + 10 < cLine) (hg : Gl X "sorted") (hm : X.mg "sorted" = none) (hg2 : Gl X "set") (hm2 : X.mg "set" = none) (ha : SE X exc T W Γ .tran a ea) (hs : nost a = true) :
    SE X exc T W Γ .new (.Call (.Name "sorted" p1) [.Call (.Name "set" p2) [a] [] q] [] pos) (.op1 .sset ea) :=
  PE.imp (pe_callB (cr_sortM hc hu) hg hm (by with_unfolding_all rfl) (pa_cons (pe_callTy (cr_setM hc) hg2 hm2 (by with_unfolding_all rfl) (pa_cons ha pa_nil (star_cons hs _ _)) (by decide) (by decide) (star_cons hs _ _) rfl) pa_nil (star_cons rfl _ _)) (by decide) (by decide) (star_cons rfl _ _) rfl) fun σ H Q h => by
    obtain ⟨ρ, env, S, h⟩ := one_at (f := op1 .sset) rfl h
    refine ⟨ρ, env, S, h.mono fun x H1 r => ?_⟩
    obtain ⟨ρ', d, r, hd, hr, k⟩ := r
    replace hr : ssetD1 d = some r := hr
    unfold ssetD1 at hr
    split at hr
    · rename_i ds
      rw [Option.map_eq_some_iff] at hr
      obtain ⟨es, he, rfl⟩ := hr
      unfold ssetL at he
      split at he
      · rename_i hlen
        obtain ⟨l, vs, rfl, hl, ra⟩ := hd.lst
        have hl2 := ra.length
        have go : ∀ ks : List Key, vs = ks.map kV → ds = ks.map kD → allK (ks.map kD) → (∀ x, PyData.str x ∈ ks.map kD → PyData.strOk x = true) → (∀ ds' : List D, ds'.Nodup → (∀ d, d ∈ ds' ↔ d ∈ ks.map kD) → ds'.mergeSort dle = es) →
            ∀ p, H1 p = none → ∀ p2, upd H1 p (SetHO X.w p ks) p2 = none → ∀ (ds' : List D) (xs : List V), ds'.Nodup → (∀ d, d ∈ ds' ↔ d ∈ ks.map kD) → DpKs xs (ds'.mergeSort dle) → Q (.ref p2) (upd (upd H1 p (SetHO X.w p ks)) p2 (.lst xs)) := fun ks e1 e2 hK ok hes p hp p2 hp2 ds' xs hn hm' hx => by
          have hne : p2 ≠ p := fun z => by rw [z, upd_same] at hp2; cases hp2
          have hp3 : H1 p2 = none := by rw [upd_ne hne] at hp2; exact hp2
          refine k _ _ (fun b u hb => grow_upd hp2 b u (grow_upd hp b u hb)) ?_
          have rp : RpAll X.K (upd (upd H1 p (SetHO X.w p ks)) p2 (.lst xs)) xs (ds'.mergeSort dle) := hx.rp fun x hx => ok x ((hm' _).mp (List.mem_mergeSort.mp hx))
          rw [hes ds' hn hm'] at rp
          exact ⟨p2, xs, rfl, hp3, upd_same, rp⟩
        split at he
        · rename_i ns hns
          cases he
          have e := asInts_eq hns
          subst e
          have e2 := ra.ints
          have em : (ns.map (Sum.inl : Int → Key)).map kD = ns.map PyData.int := by rw [List.map_map]; rfl
          have ev : (ns.map (Sum.inl : Int → Key)).map kV = ns.map V.int := by rw [List.map_map]; rfl
          refine ⟨l, ns.map Sum.inl, rfl, by rw [ev, ← e2]; exact hl, ?_, fun p hp => ⟨p, ns.map Sum.inl, rfl, upd_same, by rw [em]; exact .inl ⟨ns, rfl⟩, fun ds' xs p2 hn hm' hx hp2 => ?_⟩⟩
          · rw [List.length_map] at hlen ⊢
            rw [scanB]; omega
          · exact go (ns.map Sum.inl) (by rw [ev]; exact e2) em.symm (by rw [em]; exact .inl ⟨ns, rfl⟩) (fun x hx => by rw [em] at hx; obtain ⟨_, _, z⟩ := List.mem_map.mp hx; cases z) (fun ds' h1 h2 => sset_ints h1 (by rw [em] at h2; exact h2)) p hp p2 hp2 ds' xs hn hm' hx
        · rw [Option.map_eq_some_iff] at he
          obtain ⟨ns, hns, rfl⟩ := he
          have e := asStrs_eq hns
          subst e
          obtain ⟨e2, e3⟩ := ra.strs
          have em : (ns.map (Sum.inr : Str → Key)).map kD = ns.map PyData.str := by rw [List.map_map]; rfl
          have ev : (ns.map (Sum.inr : Str → Key)).map kV = ns.map V.str := by rw [List.map_map]; rfl
          refine ⟨l, ns.map Sum.inr, rfl, by rw [ev, ← e2]; exact hl, ?_, fun p hp => ⟨p, ns.map Sum.inr, rfl, upd_same, by rw [em]; exact .inr ⟨ns, rfl⟩, fun ds' xs p2 hn hm' hx hp2 => ?_⟩⟩
          · rw [List.length_map] at hlen ⊢
            rw [scanB]; omega
          · exact go (ns.map Sum.inr) (by rw [ev]; exact e2) em.symm (by rw [em]; exact .inr ⟨ns, rfl⟩) (fun x hx => by rw [em] at hx; obtain ⟨y, hy, z⟩ := List.mem_map.mp hx; cases z; exact e3 _ hy) (fun ds' h1 h2 => sset_strs h1 (by rw [em] at h2; exact h2)) p hp p2 hp2 ds' xs hn hm' hx
      · cases he
    · cases hr
end
end DL
end

section
/-! Sd4: more expressions, tests, arguments -/
namespace DL
open PySem PySem.Spec PyProof.Rows L2

section
variable {G : Glob} {W : WX} {α β : Type} {Rel : RelT β α} {ρ ρ' : List Addr} {env : Env} {S S' : Store} {σ : L2.St} {H H' : Hp} {Q : β → Hp → Prop}
theorem At.move (hR : Anti Rel) {m : M α} (h : At G W Rel ρ env S σ H m Q) (ex : Ext G ρ H ρ' H') (st : StR G ρ' S H') : At G W Rel ρ' env S σ H' m Q := by
  obtain ⟨sr, r, S1, e, fin⟩ := h
  refine ⟨sr.ext ex st, r, S1, e, ?_⟩
  cases r with
  | ok d => exact fun x ρ2 H2 e2 s2 r2 => fin x ρ2 H2 (ex.trans e2) s2 (hR _ _ _ _ _ _ ex.there r2)
  | err c y =>
    obtain ⟨C, fld, hc, g⟩ := fin
    exact ⟨C, fld, hc, fun b v ρ2 H2 ex2 st2 hb hv => g b v ρ2 H2 (ex.trans ex2) st2 hb hv⟩
theorem At.grow (hR : Anti Rel) {m : M α} (h : At G W Rel ρ env S σ H m Q) (g : Grow H H') : At G W Rel ρ env S σ H' m Q := h.move hR (.grow g) (h.1.st.grow g)
end
theorem RR_bl (G : Glob) (md : Md) (H : Hp) (ρ : List Addr) (H' : Hp) (b : Bool) : RR G md H ρ H' (.bl b) (.bool b) := by
  cases md with
  | pers => exact .bl b
  | tran => exact .inl (.bl b)
  | new => exact (show Rp G.K H' (.bl b) (.bool b) from .bl b)
theorem nv_is_bl {G : Glob} {nw : Bool} {H H' : Hp} {z : V} {b : Bool} (h : Nv G nw H H' z (.bool b)) : z = .bl b := by
  have h : Rp G.K H' z (.bool b) := by cases nw <;> exact h
  cases h; rfl
theorem asB_eq {d : D} {b : Bool} (h : asB d = some b) : d = .bool b := by
  cases d <;> cases h <;> rfl
theorem Tr.tru {G : Glob} {ρ : List Addr} {H : Hp} {x : V} {d : D} {k : Bool} (h : Tr G ρ H x d) (e : truth d = some k) : TruV G.K x H k := by
  cases d with
  | none => obtain rfl := h.non; cases e; exact rfl
  | bool b => obtain rfl := h.bl; cases e; exact rfl
  | int b => obtain rfl := h.int; cases e; exact rfl
  | str b =>
    obtain ⟨rfl, _⟩ := h.str
    replace e : (if b.length ≤ LIM then some (b.length != 0) else none) = some k := e
    split at e
    · rename_i hz
      cases e
      refine ⟨by rw [← line_eq]; exact hz, ?_⟩
      cases q : b.length <;> simp
      omega
    · cases e
  | list b =>
    obtain ⟨p, vs, rfl, hp, ra⟩ := h.lst
    cases e
    refine .inl ⟨vs, hp, ?_⟩
    have := ra.length
    cases vs <;> cases b <;> simp_all
  | tuple b =>
    obtain ⟨p, vs, rfl, hp, ra⟩ := h.tup
    cases e
    refine .inr (.inl ⟨vs, hp, ?_⟩)
    have := ra.length
    cases vs <;> cases b <;> simp_all
  | dict b => cases e
def notSl : Expr → Bool
  | .Slice .. => false
  | _ => true
theorem plainIx {b : Expr} (h : notSl b = true) : PlainIx b := by
  intro o i
  cases b <;> first | rfl | cases h
def plainT : Expr → Bool
  | .UnaryOp .Not _ _ => false
  | .BoolOp .. => false
  | .IfExp .. => false
  | .Compare .. => false
  | _ => true
theorem isTrue_of {p : Expr} {env : PySem.Env} (h : plainT p = true) : ∀ whole, isTrue p env whole = (do let v ← whole; standAt p.pos; holding [v] (truthy v)) := by
  intro whole
  cases p <;> first
    | rfl
    | (cases h; done)
    | skip
  rename_i op x pos
  cases op <;> first | rfl | cases h
def boolO2 : O2 → Bool
  | .eq | .ne | .lt | .le | .gt | .ge | .inn | .nin => true
  | _ => false
theorem bool_op2 {o : O2} (h : boolO2 o = true) {x y r : D} (e : op2 o x y = some r) : ∃ k, r = .bool k := by
  cases o <;> first
    | (cases h; done)
    | skip
  · replace e : (if x.depth ≤ 100 ∨ y.depth ≤ 100 then some (PyData.bool (PyData.eqv x y)) else none) = some r := e
    split at e <;> cases e; exact ⟨_, rfl⟩
  · replace e : (if x.depth ≤ 100 ∨ y.depth ≤ 100 then some (PyData.bool (!PyData.eqv x y)) else none) = some r := e
    split at e <;> cases e; exact ⟨_, rfl⟩
  · replace e : ltD2 x y = some r := e
    unfold ltD2 at e
    split at e
    · cases e; exact ⟨_, rfl⟩
    · cases e; exact ⟨_, rfl⟩
    · simp only [Option.bind_eq_some_iff, Option.map_eq_some_iff] at e
      obtain ⟨_, _, _, _, rfl⟩ := e; exact ⟨_, rfl⟩
    · cases e
  · replace e : leD2 x y = some r := e
    unfold leD2 at e
    split at e <;> first | (cases e; exact ⟨_, rfl⟩) | cases e
  · replace e : gtD2 x y = some r := e
    unfold gtD2 at e
    split at e <;> first | (cases e; exact ⟨_, rfl⟩) | cases e
  · replace e : geD2 x y = some r := e
    unfold geD2 at e
    split at e <;> first | (cases e; exact ⟨_, rfl⟩) | cases e
  · replace e : innD2 x y = some r := e
    unfold innD2 at e
    split at e
    · split at e <;> first | (cases e; exact ⟨_, rfl⟩) | cases e
    · split at e <;> first | (cases e; exact ⟨_, rfl⟩) | cases e
    · split at e <;> first | (cases e; exact ⟨_, rfl⟩) | cases e
    · cases e
  · replace e : ninD2 x y = some r := e
    unfold ninD2 at e
    split at e
    · split at e <;> first | (cases e; exact ⟨_, rfl⟩) | cases e
    · split at e <;> first | (cases e; exact ⟨_, rfl⟩) | cases e
    · split at e <;> first | (cases e; exact ⟨_, rfl⟩) | cases e
    · cases e
section
variable {X : Cx} {exc : Str → Option (Addr × Str)} {T : List (Addr × Str)} {W : WX} {Γ : Ctx} {p a b c : Expr} {e ea eb ec : E} {pos : Pos} {md : Md}
theorem se_slL {lo : Expr} {p2 : Pos} {el : E} (ha : SE X exc T W Γ .tran a ea) (hl : SE X exc T W Γ .tran lo el) : SE X exc T W Γ .new (.Subscript a (.Slice (some lo) none none p2) pos) (.slL ea el) :=
  PE.imp (pe_slice (sl_any (exc := exc) (T := T)) ha (po_some hl) po_none) fun σ H Q h => by
    obtain ⟨ρ, env, S, h⟩ := h
    have h : At (gl X exc T) W (RR _ .new) ρ env S σ H (DL.bnd (evE Γ ea env) fun x => DL.bnd (evE Γ el env) fun l => DL.lift ((asInt l).bind fun l => slice x (some l) none)) Q := h
    refine At.tm (c := evE Γ ea) (At.mono (At.bnd (anti_RR _ .new) (Rel1 := RR _ .tran) h) fun x H1 q => ?_)
    obtain ⟨ρ1, d, S1, e1, r1, h1⟩ := q
    refine At.tm (c := evE Γ el) (At.mono (At.bnd (anti_RR _ .new) (Rel1 := RR _ .tran) h1) fun y H2 q => ?_)
    obtain ⟨ρ2, d2, S2, e2, r2, h2⟩ := q
    obtain ⟨r, e3, k⟩ := h2.fin
    rw [Option.bind_eq_some_iff] at e3
    obtain ⟨i, h3, h4⟩ := e3
    have : d2 = .int i := by cases d2 <;> cases h3 <;> rfl
    subst this
    exact ⟨i, Tr.int r2, ρ2, d, r, Tr.ext e2 r1, h4, k⟩
theorem se_slU {lo : Expr} {p2 : Pos} {el : E} (ha : SE X exc T W Γ .tran a ea) (hl : SE X exc T W Γ .tran lo el) : SE X exc T W Γ .new (.Subscript a (.Slice none (some lo) none p2) pos) (.slU ea el) :=
  PE.imp (pe_slice (sl_any (exc := exc) (T := T)) ha po_none (po_some hl)) fun σ H Q h => by
    obtain ⟨ρ, env, S, h⟩ := h
    have h : At (gl X exc T) W (RR _ .new) ρ env S σ H (DL.bnd (evE Γ ea env) fun x => DL.bnd (evE Γ el env) fun l => DL.lift ((asInt l).bind fun l => slice x none (some l))) Q := h
    refine At.tm (c := evE Γ ea) (At.mono (At.bnd (anti_RR _ .new) (Rel1 := RR _ .tran) h) fun x H1 q => ?_)
    obtain ⟨ρ1, d, S1, e1, r1, h1⟩ := q
    refine At.tm (c := evE Γ el) (At.mono (At.bnd (anti_RR _ .new) (Rel1 := RR _ .tran) h1) fun y H2 q => ?_)
    obtain ⟨ρ2, d2, S2, e2, r2, h2⟩ := q
    obtain ⟨r, e3, k⟩ := h2.fin
    rw [Option.bind_eq_some_iff] at e3
    obtain ⟨i, h3, h4⟩ := e3
    have : d2 = .int i := by cases d2 <;> cases h3 <;> rfl
    subst this
    exact ⟨i, Tr.int r2, ρ2, d, r, Tr.ext e2 r1, h4, k⟩
theorem asInt_eq {d : D} {i : Int} (h : asInt d = some i) : d = .int i := by
  cases d <;> cases h <;> rfl
theorem se_slB {lo hi : Expr} {p2 : Pos} {el eh : E} (ha : SE X exc T W Γ .tran a ea) (hl : SE X exc T W Γ .tran lo el) (hh : SE X exc T W Γ .tran hi eh) : SE X exc T W Γ .new (.Subscript a (.Slice (some lo) (some hi) none p2) pos) (.slB ea el eh) :=
  PE.imp (pe_slice (sl_any (exc := exc) (T := T)) ha (po_some hl) (po_some hh)) fun σ H Q h => by
    obtain ⟨ρ, env, S, h⟩ := h
    have h : At (gl X exc T) W (RR _ .new) ρ env S σ H (DL.bnd (evE Γ ea env) fun x => DL.bnd (evE Γ el env) fun l => DL.bnd (DL.lift (asInt l)) fun l => DL.bnd (evE Γ eh env) fun h => DL.lift ((asInt h).bind fun h => slice x (some l) (some h))) Q := h
    refine At.tm (c := evE Γ ea) (At.mono (At.bnd (anti_RR _ .new) (Rel1 := RR _ .tran) h) fun x H1 q => ?_)
    obtain ⟨ρ1, d, S1, e1, r1, h1⟩ := q
    refine At.tm (c := evE Γ el) (At.mono (At.bnd (anti_RR _ .new) (Rel1 := RR _ .tran) h1) fun y H2 q => ?_)
    obtain ⟨ρ2, d2, S2, e2, r2, h2⟩ := q
    obtain ⟨i, hi, h2⟩ := h2.bndLift
    cases asInt_eq hi
    refine ⟨i, Tr.int r2, ?_⟩
    refine At.tm (c := evE Γ eh) (At.mono (At.bnd (anti_RR _ .new) (Rel1 := RR _ .tran) h2) fun z H3 q => ?_)
    obtain ⟨ρ3, d3, S3, e3, r3, h3⟩ := q
    obtain ⟨r, e4, k⟩ := h3.fin
    rw [Option.bind_eq_some_iff] at e4
    obtain ⟨j, h3, h4⟩ := e4
    cases asInt_eq h3
    exact ⟨j, Tr.int r3, ρ3, d, r, Tr.ext (e2.trans e3) r1, h4, k⟩
theorem chain_at {G : Glob} {o o' : O2} {σ : L2.St} {H : Hp} {Q : VK} (hb2 : boolO2 o = true) (h : tE G W .new Γ (.chain o o' ea eb ec) σ H Q) :
    tChain (rD2 G true (op2 o)) (rD2 G true (op2 o')) (tE G W .tran Γ ea) (tE G W .tran Γ eb) (tE G W .tran Γ ec) σ H Q := by
  obtain ⟨ρ, env, S, h⟩ := h
  have h : At G W (RR _ .new) ρ env S σ H (DL.bnd (evE Γ ea env) fun x => DL.bnd (evE Γ eb env) fun y => DL.bnd (DL.lift ((op2 o x y).bind asB)) fun r =>
    if r then DL.bnd (evE Γ ec env) fun z => DL.lift (op2 o' y z) else DL.ret (.bool false)) Q := h
  refine At.tm (c := evE Γ ea) (At.mono (At.bnd (anti_RR _ .new) (Rel1 := RR _ .tran) h) fun x H1 q => ?_)
  obtain ⟨ρ1, d, S1, e1, r1, h1⟩ := q
  refine At.tm (c := evE Γ eb) (At.mono (At.bnd (anti_RR _ .new) (Rel1 := RR _ .tran) h1) fun y H2 q => ?_)
  obtain ⟨ρ2, d2, S2, e2, r2, h2⟩ := q
  obtain ⟨k, hk, h2⟩ := h2.bndLift
  rw [Option.bind_eq_some_iff] at hk
  obtain ⟨r, h3, h4⟩ := hk
  cases asB_eq h4
  refine ⟨ρ2, d, d2, .bool k, Tr.ext e2 r1, r2, h3, fun z H3 g n => ?_⟩
  refine ⟨k, nv_is_bl n, ?_⟩
  have h3 := h2.grow (anti_RR _ .new) g
  cases k with
  | false =>
    rw [if_neg (by decide)]
    exact h3.retNow (RR_bl _ .new _ _ _ false)
  | true =>
    rw [if_pos rfl]
    refine At.tm (c := evE Γ ec) (At.mono (At.bnd (anti_RR _ .new) (Rel1 := RR _ .tran) h3) fun w H4 q => ?_)
    obtain ⟨ρ4, d4, S4, e4, r4, h4⟩ := q
    obtain ⟨r, e5, k5⟩ := h4.fin
    exact ⟨ρ4, d2, d4, r, Tr.ext ((Ext.grow g).trans e4) r2, r4, e5, k5⟩
theorem se_chain {op op' : CmpOp} {o o' : O2} (hb2 : boolO2 o = true) (ho : OpR X (compareOp op) (rD2 (gl X exc T) true (op2 o))) (ho' : OpR X (compareOp op') (rD2 (gl X exc T) true (op2 o'))) (ha : SE X exc T W Γ .tran a ea) (hb : SE X exc T W Γ .tran b eb) (hc : SE X exc T W Γ .tran c ec)
    (hm : lastMarks [op, op'] [b, c] = false) : SE X exc T W Γ .new (.Compare a [op, op'] [b, c] pos) (.chain o o' ea eb ec) :=
  PE.imp (pe_chain ho ho' ha hb hc hm) fun σ H Q h => chain_at hb2 h
theorem se_and {rest : List Expr} (ha : SE X exc T W Γ .tran a ea) (hb : SE X exc T W Γ md (.BoolOp .And (b :: rest) pos) eb) : SE X exc T W Γ md (.BoolOp .And (a :: b :: rest) pos) (.and ea eb) :=
  PE.imp (pe_and ha hb) fun σ H Q h => by
    obtain ⟨ρ, env, S, h⟩ := h
    have h : At (gl X exc T) W (RR _ md) ρ env S σ H (DL.bnd (evE Γ ea env) fun x => DL.bnd (DL.lift (asB x)) fun r => if r then evE Γ eb env else DL.ret (.bool false)) Q := h
    refine At.tm (c := evE Γ ea) (At.mono (At.bnd (anti_RR _ md) (Rel1 := RR _ .tran) h) fun x H1 q => ?_)
    obtain ⟨ρ1, d, S1, e1, r1, h1⟩ := q
    obtain ⟨k, hk, h1⟩ := h1.bndLift
    cases asB_eq hk
    refine ⟨k, Tr.bl r1, ?_⟩
    cases k with
    | false =>
      rw [if_neg (by decide)]
      exact h1.retNow (RR_bl _ md _ _ _ false)
    | true =>
      rw [if_pos rfl]
      exact At.tm (c := evE Γ eb) h1
theorem se_or {rest : List Expr} (ha : SE X exc T W Γ .tran a ea) (hb : SE X exc T W Γ md (.BoolOp .Or (b :: rest) pos) eb) : SE X exc T W Γ md (.BoolOp .Or (a :: b :: rest) pos) (.or ea eb) :=
  PE.imp (pe_or ha hb) fun σ H Q h => by
    obtain ⟨ρ, env, S, h⟩ := h
    have h : At (gl X exc T) W (RR _ md) ρ env S σ H (DL.bnd (evE Γ ea env) fun x => DL.bnd (DL.lift (asB x)) fun r => if r then DL.ret (.bool true) else evE Γ eb env) Q := h
    refine At.tm (c := evE Γ ea) (At.mono (At.bnd (anti_RR _ md) (Rel1 := RR _ .tran) h) fun x H1 q => ?_)
    obtain ⟨ρ1, d, S1, e1, r1, h1⟩ := q
    obtain ⟨k, hk, h1⟩ := h1.bndLift
    cases asB_eq hk
    refine ⟨k, Tr.bl r1, ?_⟩
    cases k with
    | true =>
      rw [if_pos rfl]
      exact h1.retNow (RR_bl _ md _ _ _ true)
    | false =>
      rw [if_neg (by decide)]
      exact At.tm (c := evE Γ eb) h1
theorem se_one {op : BoolOp} (h : SE X exc T W Γ md a e) : SE X exc T W Γ md (.BoolOp op [a] pos) e := pe_one h
theorem se_not (ha : SE X exc T W Γ .tran a ea) : SE X exc T W Γ .new (.UnaryOp .Not a pos) (.not ea) :=
  PE.imp (pe_notT ha) fun σ H Q h => by
    obtain ⟨ρ, env, S, h⟩ := h
    have h : At (gl X exc T) W (RR _ .new) ρ env S σ H (DL.bnd (evE Γ ea env) fun x => DL.bnd (DL.lift (truth x)) fun r => DL.ret (.bool (!r))) Q := h
    refine At.tm (c := evE Γ ea) (At.mono (At.bnd (anti_RR _ .new) (Rel1 := RR _ .tran) h) fun x H1 q => ?_)
    obtain ⟨ρ1, d, S1, e1, r1, h1⟩ := q
    obtain ⟨k, hk, h1⟩ := h1.bndLift
    exact ⟨k, Tr.tru r1 hk, h1.retNow (RR_bl _ .new _ _ _ _)⟩
theorem se_ite {t : DL.T} (hc : ST X exc T W Γ c t) (ha : SE X exc T W Γ md a ea) (hb : SE X exc T W Γ md b eb) : SE X exc T W Γ md (.IfExp c a b pos) (.ite t ea eb) :=
  PE.imp (pe_ifExp hc ha hb) fun σ H Q h => by
    obtain ⟨ρ, env, S, h⟩ := h
    have h : At (gl X exc T) W (RR _ md) ρ env S σ H (DL.bnd (evT Γ t env) fun r => if r then evE Γ ea env else evE Γ eb env) Q := h
    refine At.tm (c := evT Γ t) (At.mono (At.bnd (anti_RR _ md) (Rel1 := EqR) h) fun x H1 q => ?_)
    obtain ⟨ρ1, d, S1, e1, r1, h1⟩ := q
    cases (show x = d from r1)
    cases x with
    | true => rw [if_pos rfl]; exact At.tm (c := evE Γ ea) h1
    | false => rw [if_neg (by decide)]; exact At.tm (c := evE Γ eb) h1
/-- a shared cell's item -/
theorem se_cidx {i : Nat} {x : Str} {px : Pos} {ek : E} (hN : X.N[i]? = some x) (hv : Vis X.env.scope x) (hd : (x == ("__debug__" : Str)) = false) (hcd : (x == ("__classdict__" : Str)) = false) (hk : SE X exc T W Γ .tran b ek) (hs : notSl b = true) :
    SE X exc T W Γ .pers (.Subscript (.Name x px) b pos) (.cidx i ek) :=
  PE.imp (pe_ix ix_list (pe_var hN hv hd hcd) hk (plainIx hs)) fun σ H Q h => by
    obtain ⟨ρ, env, S, h⟩ := h
    have h : At (gl X exc T) W (RR _ .pers) ρ env S σ H (DL.bnd (DL.lift (getC env i)) fun r => DL.bnd (evE Γ ek env) fun j => DL.bnd (celL r) fun xs => DL.lift ((asInt j).bind (getI xs))) Q := h
    obtain ⟨r, hr, h⟩ := h.bndLift
    unfold getC at hr
    split at hr
    · rename_i z
      cases hr
      obtain ⟨x', h1, c, h2, h3⟩ := h.1.env.slot i _ z
      subst h2
      refine ⟨.ref c, h1, ?_⟩
      refine At.tm (c := evE Γ ek) (At.mono (At.bnd (anti_RR _ .pers) (Rel1 := RR _ .tran) h) fun y H1 q => ?_)
      obtain ⟨ρ1, d, S1, e1, r1, hA⟩ := q
      obtain ⟨sr, rr, S', ev, fin⟩ := hA
      unfold DL.bnd celL at ev
      cases hS : S1[r]? with
      | none => rw [hS] at ev; cases ev
      | some cl =>
        cases cl with
        | lst xs =>
          rw [hS] at ev
          obtain ⟨p, vs, a1, a2, a3⟩ := sr.st.at_ r xs hS
          obtain ⟨m, q⟩ := e1.pre
          have hp : ρ1[r]? = some c := by rw [q, List.getElem?_append_left (List.getElem?_eq_some_iff.mp h3).1]; exact h3
          rw [hp] at a1
          cases a1
          cases hj : (asInt d).bind (getI xs) with
          | none =>
            have ev : DL.lift ((asInt d).bind (getI xs)) S1 = some (rr, S') := ev
            rw [hj] at ev; cases ev
          | some z =>
            have ev : DL.lift ((asInt d).bind (getI xs)) S1 = some (rr, S') := ev
            rw [hj] at ev
            cases ev
            rw [Option.bind_eq_some_iff] at hj
            obtain ⟨j, j1, j2⟩ := hj
            cases asInt_eq j1
            obtain ⟨v, v1, v2⟩ := a3.getI j2
            exact ⟨c, vs, j, v, rfl, Tr.int r1, SqL.of a2, v1, fin v ρ1 H1 (Ext.refl _ _ _) sr.st v2⟩
    · cases hr

/-! ### lists of expressions -/
def esLen : Es → Nat
  | .nil => 0
  | .cons _ r => esLen r + 1
def AllN (G : Glob) (n : Nat) : RelT (List V) (List D) := fun _ _ H' xs ds => RpAll G.K H' xs ds ∧ xs.length = n
theorem anti_AllN (G : Glob) (n : Nat) : Anti (AllN G n) := fun _ _ _ _ _ _ _ h => h
abbrev SEs (X : Cx) (exc : Str → Option (Addr × Str)) (T : List (Addr × Str)) (W : WX) (Γ : Ctx) (ps : List Expr) (e : Es) : Prop := PA X ps (tM (gl X exc T) W (AllN (gl X exc T) (esLen e)) (evEs Γ e))
def asLen : As → Nat
  | .nil => 0
  | .cons _ r => asLen r + 1
  | .cel _ r => asLen r + 1
def AvsN (G : Glob) (n : Nat) : RelT (List V) (List Av) := fun _ ρ' H' xs ds => AvsR G ρ' H' xs ds ∧ xs.length = n
theorem anti_AvsN (G : Glob) (n : Nat) : Anti (AvsN G n) := fun _ _ _ _ _ _ _ h => h
abbrev SAs (X : Cx) (exc : Str → Option (Addr × Str)) (T : List (Addr × Str)) (W : WX) (Γ : Ctx) (ps : List Expr) (e : As) : Prop := PA X ps (tM (gl X exc T) W (AvsN (gl X exc T) (asLen e)) (evAs Γ e))
theorem ses_nil : SEs X exc T W Γ [] .nil := PA.imp pa_nil fun σ H Q ⟨ρ, env, S, h⟩ => At.retNow (d := []) h ⟨.nil, rfl⟩
theorem ses_cons {ps : List Expr} {es : Es} (ha : SE X exc T W Γ .pers a ea) (hs : nost a = true) (hr : SEs X exc T W Γ ps es) : SEs X exc T W Γ (a :: ps) (.cons ea es) :=
  PA.imp (pa_cons ha hr (star_cons hs _ _)) fun σ H Q ⟨ρ, env, S, h⟩ => by
    have h : At (gl X exc T) W (AllN _ (esLen es + 1)) ρ env S σ H (DL.bnd (evE Γ ea env) fun x => DL.bnd (evEs Γ es env) fun xs => DL.ret (x :: xs)) Q := h
    refine At.tm (c := evE Γ ea) (At.mono (At.bnd (anti_AllN _ _) (Rel1 := RR _ .pers) h) fun x H1 q => ?_)
    obtain ⟨ρ1, d, S1, e1, r1, h1⟩ := q
    refine At.tm (c := evEs Γ es) (At.mono (At.bnd (anti_AllN _ _) (Rel1 := AllN _ (esLen es)) h1) fun xs H2 q => ?_)
    obtain ⟨ρ2, ds, S2, e2, r2, h2⟩ := q
    exact h2.retNow ⟨.cons (Rp.mono e2.per r1) r2.1, by rw [List.length_cons, r2.2]⟩
theorem se_tup {ps : List Expr} {es : Es} {k : Nat} (h : SEs X exc T W Γ ps es) (hl : esLen es ≤ 1000) : SE X exc T W Γ .new (.Tuple ps k pos) (.tup es) :=
  PE.imp (pe_tup h) fun σ H Q ⟨ρ, env, S, h⟩ => by
    have h : At (gl X exc T) W (RR _ .new) ρ env S σ H (DL.bnd (evEs Γ es env) fun xs => DL.ret (.tuple xs)) Q := h
    refine At.tm (c := evEs Γ es) (At.mono (At.bnd (anti_RR _ .new) (Rel1 := AllN _ (esLen es)) h) fun xs H1 q => ?_)
    obtain ⟨ρ1, ds, S1, e1, r1, h1⟩ := q
    refine ⟨by rw [r1.2, sizeLine_eq]; omega, fun p hp => ?_⟩
    refine h1.ret _ ρ1 _ (Ext.upd hp) (h1.1.st.grow (grow_upd hp)) ?_
    exact (show Rp X.K (L2.upd H1 p (.tup xs)) (.ref p) (.tuple ds) from .tup (SqT.of upd_same) (r1.1.mono (Per.of (grow_upd hp))))
theorem se_lst {ps : List Expr} {es : Es} (h : SEs X exc T W Γ ps es) (hl : esLen es ≤ 1000) : SE X exc T W Γ .new (.List ps pos) (.lst es) :=
  PE.imp (pe_lst h) fun σ H Q ⟨ρ, env, S, h⟩ => by
    have h : At (gl X exc T) W (RR _ .new) ρ env S σ H (DL.bnd (evEs Γ es env) fun xs => DL.ret (.list xs)) Q := h
    refine At.tm (c := evEs Γ es) (At.mono (At.bnd (anti_RR _ .new) (Rel1 := AllN _ (esLen es)) h) fun xs H1 q => ?_)
    obtain ⟨ρ1, ds, S1, e1, r1, h1⟩ := q
    refine ⟨by rw [r1.2, sizeLine_eq]; omega, fun p hp => ?_⟩
    refine h1.ret _ ρ1 _ (Ext.upd hp) (h1.1.st.grow (grow_upd hp)) ?_
    exact ⟨p, xs, rfl, NoV.of hp, h1.1.st.fresh hp, upd_same, r1.1.mono (Per.of (grow_upd hp))⟩
theorem sas_nil : SAs X exc T W Γ [] .nil := PA.imp pa_nil fun σ H Q ⟨ρ, env, S, h⟩ => At.retNow (d := []) h ⟨trivial, rfl⟩
theorem sas_cons {ps : List Expr} {es : As} (ha : SE X exc T W Γ .pers a ea) (hs : nost a = true) (hr : SAs X exc T W Γ ps es) : SAs X exc T W Γ (a :: ps) (.cons ea es) :=
  PA.imp (pa_cons ha hr (star_cons hs _ _)) fun σ H Q ⟨ρ, env, S, h⟩ => by
    have h : At (gl X exc T) W (AvsN _ (asLen es + 1)) ρ env S σ H (DL.bnd (evE Γ ea env) fun x => DL.bnd (evAs Γ es env) fun xs => DL.ret (.d x :: xs)) Q := h
    refine At.tm (c := evE Γ ea) (At.mono (At.bnd (anti_AvsN _ _) (Rel1 := RR _ .pers) h) fun x H1 q => ?_)
    obtain ⟨ρ1, d, S1, e1, r1, h1⟩ := q
    refine At.tm (c := evAs Γ es) (At.mono (At.bnd (anti_AvsN _ _) (Rel1 := AvsN _ (asLen es)) h1) fun xs H2 q => ?_)
    obtain ⟨ρ2, ds, S2, e2, r2, h2⟩ := q
    exact h2.retNow (d := Av.d d :: ds) ⟨⟨Rp.mono e2.per r1, r2.1⟩, by rw [List.length_cons, r2.2]⟩
theorem sas_cel {ps : List Expr} {es : As} {i : Nat} {x : Str} {px : Pos} (hN : X.N[i]? = some x) (hv : Vis X.env.scope x) (hd : (x == ("__debug__" : Str)) = false) (hcd : (x == ("__classdict__" : Str)) = false) (hr : SAs X exc T W Γ ps es) : SAs X exc T W Γ (.Name x px :: ps) (.cel i es) :=
  PA.imp (pa_cons (pe_var hN hv hd hcd) hr rfl) fun σ H Q ⟨ρ, env, S, h⟩ => by
    have h : At (gl X exc T) W (AvsN _ (asLen es + 1)) ρ env S σ H (DL.bnd (DL.lift (getC env i)) fun r => DL.bnd (evAs Γ es env) fun xs => DL.ret (.c r :: xs)) Q := h
    obtain ⟨r, hr, h⟩ := h.bndLift
    unfold getC at hr
    split at hr
    · rename_i z
      cases hr
      obtain ⟨x', h1, c, h2, h3⟩ := h.1.env.slot i _ z
      subst h2
      refine ⟨.ref c, h1, ?_⟩
      refine At.tm (c := evAs Γ es) (At.mono (At.bnd (anti_AvsN _ _) (Rel1 := AvsN _ (asLen es)) h) fun xs H2 q => ?_)
      obtain ⟨ρ2, ds, S2, e2, r2, h2⟩ := q
      exact h2.retNow (d := Av.c r :: ds) ⟨⟨AvR.ext (a := .c r) e2 ⟨c, rfl, h3⟩, r2.1⟩, by rw [List.length_cons, r2.2]⟩
    · cases hr

/-! ### tests -/
theorem st_plain (ha : SE X exc T W Γ .tran a ea) (hp : plainT a = true) : ST X exc T W Γ a (.e ea) :=
  PT.imp (pt_truth ha (isTrue_of hp)) fun σ H Q ⟨ρ, env, S, h⟩ => by
    have h : At (gl X exc T) W EqR ρ env S σ H (DL.bnd (evE Γ ea env) fun x => DL.lift (truth x)) Q := h
    refine At.tm (c := evE Γ ea) (At.mono (At.bnd anti_Eq (Rel1 := RR _ .tran) h) fun x H1 q => ?_)
    obtain ⟨ρ1, d, S1, e1, r1, h1⟩ := q
    obtain ⟨k, hk, f⟩ := h1.lift
    exact ⟨k, Tr.tru r1 hk, f k ρ1 H1 (Ext.refl _ _ _) h1.1.st rfl⟩
theorem st_cmp {op : CmpOp} {o : O2} (hb2 : boolO2 o = true) (ho : OpR X (compareOp op) (rD2 (gl X exc T) true (op2 o))) (ha : SE X exc T W Γ .tran a ea) (hb : SE X exc T W Γ .tran b eb) (hm : behindInMarks op b = false) : ST X exc T W Γ (.Compare a [op] [b] pos) (.e (.op2 o ea eb)) :=
  PT.imp (pt_cmpR ho ha hb hm) fun σ H Q ⟨ρ, env, S, h⟩ => by
    have h : At (gl X exc T) W EqR ρ env S σ H (DL.bnd (DL.bnd (evE Γ ea env) fun x => DL.bnd (evE Γ eb env) fun y => DL.lift (op2 o x y)) fun x => DL.lift (truth x)) Q := h
    have h2 := At.bnd anti_Eq (Rel1 := RR (gl X exc T) .new) h
    refine two_at (nw := true) (f := op2 o) (e := .op2 o ea eb) (md := .new) (fun _ _ _ _ _ _ _ h => h.fin) rfl ⟨ρ, env, S, ?_⟩
    obtain ⟨sr, r, S', ev, fin⟩ := h2
    refine ⟨sr, r, S', ev, ?_⟩
    have hbool : ∀ d, r = .ok d → ∃ k, d = .bool k := fun d e => by
      subst e
      unfold DL.bnd at ev
      split at ev
      · cases ev
      · rename_i x S1 hx
        simp only at ev
        split at ev
        · cases ev
        · rename_i y S2 hy
          unfold DL.lift at ev
          split at ev
          · rename_i z hz
            cases ev
            exact bool_op2 hb2 hz
          · cases ev
        · cases ev
      · cases ev
    cases r with
    | err c y => exact fin
    | ok d =>
      obtain ⟨k, rfl⟩ := hbool d rfl
      intro x ρ' H' ex st rel
      obtain ⟨ρ1, d1, S1, e1, r1, h1⟩ := fin x ρ' H' ex st rel
      have hx : x = .bl k := by
        have z : Rp X.K H' x (.bool k) := rel
        cases z; rfl
      subst hx
      refine ⟨k, rfl, ?_⟩
      obtain ⟨k', hk, f⟩ := h1.lift
      have hd1 : d1 = .bool k := by
        have z : NewR (gl X exc T) H ρ1 H' (.bl k) d1 := r1
        cases d1 with
        | list ds => obtain ⟨a, vs, q, _⟩ := z; cases q
        | bool b => have z : Rp X.K H' (.bl k) (.bool b) := z; cases z; rfl
        | none => have z : Rp X.K H' (.bl k) .none := z; cases z
        | int i => have z : Rp X.K H' (.bl k) (.int i) := z; cases z
        | str i => have z : Rp X.K H' (.bl k) (.str i) := z; cases z
        | tuple i => have z : Rp X.K H' (.bl k) (.tuple i) := z; cases z
        | dict i => have z : Rp X.K H' (.bl k) (.dict i) := z; cases z
      subst hd1
      cases hk
      exact f k ρ1 H' (Ext.refl _ _ _) h1.1.st rfl
end
end DL
end

section
/-! Sx0: more expressions -/
namespace DL
open PySem PySem.Spec PyProof.Rows L2
section
variable {X : Cx} {exc : Str → Option (Addr × Str)} {T : List (Addr × Str)} {W : WX} {Γ : Ctx} {p a b : Expr} {e ea eb : E} {pos px p1 p2 p3 apos : Pos}
/-- x is True, x is False, .. is not .. -/
theorem se_isB {o : O1} {op : CmpOp} {c : Bool} {j : Nat} {pos' : Pos} (ho : OpR X (compareOp op) (fun x y H Q => y = .bl c ∧ rD1 (gl X exc T) true (op1 o) x H Q)) (ha : SE X exc T W Γ .tran a ea) (hm : behindInMarks op (.Constant (.bool c) j pos') = false) :
    SE X exc T W Γ .new (.Compare a [op] [.Constant (.bool c) j pos'] pos) (.op1 o ea) :=
  PE.imp (pe_cmpR ho ha pe_bl hm) fun σ H Q h => by
    have q := one_at (f := op1 o) rfl h
    obtain ⟨ρ, env, S, q⟩ := q
    exact ⟨ρ, env, S, q.mono fun x H1 r => ⟨rfl, r⟩⟩
/-- x[::-1] -/
theorem se_rev {k : Nat} (ha : SE X exc T W Γ .tran a ea) : SE X exc T W Γ .new (.Subscript a (.Slice none none (some (.UnaryOp .USub (.Constant (.int 1) k p1) p2)) p3) pos) (.op1 .rev ea) :=
  PE.imp (pe_revL ha) fun σ H Q h => by
    obtain ⟨ρ, env, S, h⟩ := one_at (f := op1 .rev) rfl h
    refine ⟨ρ, env, S, h.mono fun x H1 r => ?_⟩
    obtain ⟨ρ', d, r, hd, hr, k⟩ := r
    replace hr : revD1 d = some r := hr
    unfold revD1 at hr
    split at hr
    · cases hr
      obtain ⟨l, vs, rfl, hl, ra⟩ := hd.lst
      exact ⟨l, vs, rfl, hl, fun p hp => nv_lst rfl rfl k ra.reverse hp⟩
    · cases hr
/-- list(range(n)) -/
theorem se_lrng (hc : X.calm = true) (hg : Gl X "list") (hm : X.mg "list" = none) (hg2 : Gl X "range") (hm2 : X.mg "range" = none) (ha : SE X exc T W Γ .tran a ea) (hs : nost a = true) :
    SE X exc T W Γ .new (.Call (.Name "list" p1) [.Call (.Name "range" p2) [a] [] p3] [] pos) (.op1 .lrng ea) :=
  PE.imp (pe_listRg hc hg hm (prg_1 hg2 hm2 ha (star_cons hs _ _)) (star_cons rfl _ _)) fun σ H Q h => by
    obtain ⟨ρ, env, S, h⟩ := one_at (f := op1 .lrng) rfl h
    refine ⟨ρ, env, S, h.mono fun x H1 r => ?_⟩
    obtain ⟨ρ', d, r, hd, hr, k⟩ := r
    replace hr : lrngD1 d = some r := hr
    unfold lrngD1 at hr
    split at hr
    · rename_i n
      split at hr
      · rename_i hz
        cases hr
        obtain rfl := hd.int
        have hl : (LIM : Nat) = 16777216 := rfl
        rw [hl] at hz
        obtain ⟨z1, z2⟩ := hz
        refine ⟨n, rfl, ⟨by omega, by omega, by omega, by omega, by omega⟩, fun p hp => ?_⟩
        have e : rgV 0 n = ((List.range n.toNat).map fun (i : Nat) => (i : Int)).map V.int := by
          unfold rgV
          rw [List.map_map]
          have e2 : n - 0 = n := by omega
          rw [e2]
          refine List.map_congr_left fun i _ => ?_
          show V.int (0 + (i : Int)) = V.int i
          rw [Int.zero_add]
        have e3 : ((List.range n.toNat).map fun (i : Nat) => PyData.int (i : Int)) = ((List.range n.toNat).map fun (i : Nat) => (i : Int)).map PyData.int := by
          rw [List.map_map]; rfl
        rw [e]
        rw [e3] at k
        exact nv_lst rfl rfl k (RpAll.of_ints _) hp
      · cases hr
    · cases hr
/-- max(x, default=z) -/
theorem se_maxD {kp : Pos} (hc : X.calm = true) (hu : X.A.units + 164 < cLine) (hg : Gl X "max") (hm : X.mg "max" = none) (ha : SE X exc T W Γ .tran a ea) (hb : SE X exc T W Γ .tran b eb) (hs : nost a = true) :
    SE X exc T W Γ .new (.Call (.Name "max" p1) [a] [⟨some "default", b, kp⟩] pos) (.op2 .maxD ea eb) :=
  PE.imp (pe_callBK (o2_maxD hc hu) hg hm (by with_unfolding_all rfl) (pa_cons ha pa_nil (star_cons hs _ _)) (pk_cons hb pk_nil) (by decide) (by decide) (by rw [star_cons hs]; rfl) (by rw [star_cons hs]; rfl) rfl rfl rfl) fun σ H Q h => by
    have q := two_at (nw := true) (f := op2 .maxD) (fun _ _ _ _ _ _ _ h => h.fin) rfl h
    obtain ⟨ρ, env, S, q⟩ := q
    refine ⟨ρ, env, S, q.mono fun x H1 r => ?_⟩
    obtain ⟨ρ1, env1, S1, r⟩ := r
    exact ⟨ρ1, env1, S1, r.mono fun y H2 r2 => ⟨x, y, rfl, rfl, r2⟩⟩
/-- xs.index(y) -/
theorem se_index (hu : X.A.units + 164 < cLine) (ha : SE X exc T W Γ .tran a ea) (hb : SE X exc T W Γ .tran b eb) (hs : nost b = true) (hline : (apos.endLine == pos.line) = true) (hbase : attributeBase a "index" X.env (eval a X.env) = eval a X.env) :
    SE X exc T W Γ .new (.Call (.Attribute a "index" apos) [b] [] pos) (.index ea eb) :=
  PE.imp (pe_bm (apos := apos) (cpos := pos) F.plainAttrs_list F.slot_list_index F.type_list_index (o2_index (exc := exc) (T := T) hu) ha (pa_cons hb pa_nil (star_cons hs _ _)) hbase (by rw [star_cons hs]; rfl) hline (star_cons hs _ _) rfl) fun σ H Q h => by
    obtain ⟨ρ, env, S, h⟩ := h
    have h : At (gl X exc T) W (RR _ .new) ρ env S σ H (DL.bnd (evE Γ ea env) fun x => DL.bnd (DL.lift (asLst x)) fun xs => DL.bnd (evE Γ eb env) fun y => DL.lift (indexD2 (.list xs) y)) Q := h
    refine At.tm (c := evE Γ ea) (At.mono (At.bnd (anti_RR _ .new) (Rel1 := RR _ .tran) h) fun x H1 q => ?_)
    obtain ⟨ρ1, d, S1, e1, r1, h1⟩ := q
    obtain ⟨xs, hx, h1⟩ := h1.bndLift
    have r1 : Tr (gl X exc T) ρ1 H1 x d := r1
    cases d with
    | list ds =>
      have hx : ds = xs := Option.some.inj hx
      subst hx
      obtain ⟨l, vs, rfl, hl, ra⟩ := r1.lst
      refine ⟨.inl ⟨rfl, vs, hl⟩, ?_⟩
      refine At.tm (c := evE Γ eb) (At.mono (At.bnd (anti_RR _ .new) (Rel1 := RR _ .tran) h1) fun y H2 q2 => ?_)
      obtain ⟨ρ2, d2, S2, e2, r2, h2⟩ := q2
      obtain ⟨r, e3, k⟩ := h2.fin
      exact ⟨y, rfl, ρ2, .list ds, d2, r, Tr.ext e2 r1, r2, e3, k⟩
    | _ => cases hx
end
end DL
end

section
/-! Sd5: what is walked -/
namespace DL
open PySem PySem.Spec PyProof.Rows L2

/-- J walks the data ds, wherever Ok holds -/
structure Wk (G : Glob) (pf : Bool) (J : It) (Ok : List Addr → Hp → Prop) (ds : List D) : Prop where
  len : ds.length ≤ sizeLine
  go : ∀ ρ i H, i < ds.length → Ok ρ H → J.go i H
  yld : ∀ ρ i H x H', i < ds.length → Ok ρ H → J.yld i H x H' → Grow H H' ∧ ∃ d, ds[i]? = some d ∧ Rp G.K H' x d
  stop : ∀ ρ H, Ok ρ H → J.stop ds.length H
  ext : ∀ ρ ρ' H H', Ext G ρ H ρ' H' → Ok ρ H → Ok ρ' H'
  per : pf = true → ∀ ρ ρ' H H', Per H H' → Ok ρ H → Ok ρ' H'
def WR (G : Glob) (pf : Bool) : RelT It (List D) := fun _ ρ' H' J ds => ∃ Ok, Wk G pf J Ok ds ∧ Ok ρ' H'
theorem anti_WR (G : Glob) (pf : Bool) : Anti (WR G pf) := fun _ _ _ _ _ _ _ h => h
abbrev tI (G : Glob) (W : WX) (pf : Bool) (Γ : Ctx) (e : I) : TI := tM G W (WR G pf) (evI Γ e)
/-- what may be read: for good where pf -/
def Rd (G : Glob) (pf : Bool) (ρ : List Addr) (H : Hp) (x : V) (d : D) : Prop := if pf = true then Rp G.K H x d else Tr G ρ H x d
theorem Rd.tr {G : Glob} {pf : Bool} {ρ : List Addr} {H : Hp} {x : V} {d : D} (h : Rd G pf ρ H x d) : Tr G ρ H x d := by
  cases pf with
  | true => exact .inl h
  | false => exact h
theorem Rd.ext {G : Glob} {pf : Bool} {ρ ρ' : List Addr} {H H' : Hp} {x : V} {d : D} (e : Ext G ρ H ρ' H') (h : Rd G pf ρ H x d) : Rd G pf ρ' H' x d := by
  cases pf with
  | true => exact Rp.mono e.per h
  | false => exact Tr.ext e h
theorem Rd.per {G : Glob} {pf : Bool} (hp : pf = true) {ρ ρ' : List Addr} {H H' : Hp} {x : V} {d : D} (p : Per H H') (h : Rd G pf ρ H x d) : Rd G pf ρ' H' x d := by
  subst hp
  exact Rp.mono p h
def mdOf (pf : Bool) : Md := if pf = true then .pers else .tran
theorem Rd.of {G : Glob} {pf : Bool} {H : Hp} {ρ : List Addr} {H' : Hp} {x : V} {d : D} (h : RR G (mdOf pf) H ρ H' x d) : Rd G pf ρ H' x d := by
  cases pf with
  | true => exact h
  | false => exact h
theorem chr_rp {K : PySem.W.Frag} {H : Hp} {z : Str} (ho : PyData.strOk z = true) {c : Nat} (hc : c ∈ z.cps.toList) : Rp K H (.str ⟨#[c]⟩) (chr c) :=
  .str _ (strOk_iff.mpr fun c' h' => by
    have e : c' = c := by simpa using h'
    subst e
    exact strOk_iff.mp ho _ hc)
section
variable {X : Cx} {exc : Str → Option (Addr × Str)} {T : List (Addr × Str)} {W : WX} {Γ : Ctx} {pf : Bool} {p a b tg : Expr} {ea eb : E} {pos : Pos}
theorem wk_list {G : Glob} {c : Addr} {ds : List D} (hz : ds.length ≤ sizeLine) : Wk G pf (Itl G.K c) (fun ρ H => Rd G pf ρ H (.ref c) (.list ds)) ds where
  len := hz
  go := fun ρ i H hi h => by
    obtain ⟨a', vs, e, h1, h2⟩ := h.tr.lst
    cases e
    have := h2.length
    exact ⟨vs, vs[i]'(by omega), h1, List.getElem?_eq_getElem _⟩
  yld := fun ρ i H x H' hi h y => by
    obtain ⟨a', vs, e, h1, h2⟩ := h.tr.lst
    cases e
    obtain ⟨rfl, y⟩ := y
    have hx := y vs h1
    obtain ⟨d, h3, h4⟩ := h2.getV hx
    exact ⟨Grow.refl _, d, h3, h4⟩
  stop := fun ρ H h => by
    obtain ⟨a', vs, e, h1, h2⟩ := h.tr.lst
    cases e
    exact ⟨vs, h1, by rw [h2.length]; exact Nat.le_refl _⟩
  ext := fun ρ ρ' H H' e h => h.ext e
  per := fun hp ρ ρ' H H' q h => h.per hp q
theorem wk_tup {G : Glob} {c : Addr} {ds : List D} (hz : ds.length ≤ sizeLine) : Wk G pf (Itt G.K c) (fun ρ H => Rd G pf ρ H (.ref c) (.tuple ds)) ds where
  len := hz
  go := fun ρ i H hi h => by
    obtain ⟨a', vs, e, h1, h2⟩ := h.tr.tup
    cases e
    have := h2.length
    exact ⟨vs, vs[i]'(by omega), h1, List.getElem?_eq_getElem _⟩
  yld := fun ρ i H x H' hi h y => by
    obtain ⟨a', vs, e, h1, h2⟩ := h.tr.tup
    cases e
    obtain ⟨rfl, y⟩ := y
    have hx := y vs h1
    obtain ⟨d, h3, h4⟩ := h2.getV hx
    exact ⟨Grow.refl _, d, h3, h4⟩
  stop := fun ρ H h => by
    obtain ⟨a', vs, e, h1, h2⟩ := h.tr.tup
    cases e
    exact ⟨vs, h1, by rw [h2.length]; exact Nat.le_refl _⟩
  ext := fun ρ ρ' H H' e h => h.ext e
  per := fun hp ρ ρ' H H' q h => h.per hp q
theorem wk_str {G : Glob} {z : Str} (ho : PyData.strOk z = true) (hz : z.length ≤ sizeLine) : Wk G pf (Its z) (fun _ _ => True) (z.cps.toList.map chr) where
  len := by simpa [Str.length] using hz
  go := fun ρ i H hi _ => by show i < z.cps.size; simpa using hi
  yld := fun ρ i H x H' hi _ y => by
    obtain ⟨rfl, c, h1, rfl⟩ := y
    refine ⟨Grow.refl _, chr c, by simp [h1], chr_rp ho ?_⟩
    have : z.cps.toList[i]? = some c := by simpa using h1
    exact List.mem_of_getElem? this
  stop := fun ρ H _ => by show z.cps.size ≤ _; simp
  ext := fun _ _ _ _ _ _ => trivial
  per := fun _ _ _ _ _ _ _ => trivial
theorem wk_rng {G : Glob} {lo : Int} {n : Nat} (hn : n ≤ sizeLine) : Wk G pf (Itr lo n) (fun _ _ => True) (rngI lo n) where
  len := by simpa [rngI] using hn
  go := fun ρ i H hi _ => by show i < n; simpa [rngI] using hi
  yld := fun ρ i H x H' hi _ y => by
    obtain ⟨rfl, rfl⟩ := y
    have hi : i < n := by simpa [rngI] using hi
    exact ⟨Grow.refl _, .int (lo + (i : Nat)), by simp [rngI, hi], .int _⟩
  stop := fun ρ H _ => by show n ≤ _; simp [rngI]
  ext := fun _ _ _ _ _ _ => trivial
  per := fun _ _ _ _ _ _ _ => trivial
theorem pi_seq (ha : SE X exc T W Γ (mdOf pf) a ea) : PI X tg a (tI (gl X exc T) W pf Γ (.seq ea)) := by
  refine ⟨fun pins s σ H R I h => ?_⟩
  obtain ⟨ρ, env, S, h⟩ := h
  have h : At (gl X exc T) W (WR _ pf) ρ env S σ H (DL.bnd (evE Γ ea env) fun x => DL.lift (items x)) R := h
  refine thn (ha.run pins s σ H _ I (At.tm (c := evE Γ ea) (At.bnd (anti_WR _ pf) (Rel1 := RR _ (mdOf pf)) h))) fun v s1 ⟨x, H1, I1, r1, q⟩ => ?_
  obtain ⟨ρ1, d, S1, e1, rel, h1⟩ := q
  have rd := Rd.of rel
  obtain ⟨ds, hds, k⟩ := h1.lift
  unfold items at hds
  split at hds
  · cases hds
    obtain ⟨c, vs, rfl, h2, h3⟩ := rd.tr.lst
    obtain ⟨its, rv, pl, hz⟩ := I1.list h2
    cases (show v = Value.ref c from r1)
    have q : R (Itl X.K c) H1 := k _ ρ1 H1 (Ext.refl _ _ _) h1.1.st ⟨_, wk_list (G := gl X exc T) (by rw [← h3.length]; exact hz), rd⟩
    exact wpAny_pyIter_list pl.isList (pi_one (tk := s1.toks) I1 _ (turn_list c _) ⟨_, Heap.get?_push_size _ rfl, rfl, rfl⟩ q)
  · cases hds
    obtain ⟨c, vs, rfl, h2, h3⟩ := rd.tr.tup
    obtain ⟨its, rv, pl, hz⟩ := I1.tuple h2
    cases (show v = Value.ref c from r1)
    have q : R (Itt X.K c) H1 := k _ ρ1 H1 (Ext.refl _ _ _) h1.1.st ⟨_, wk_tup (G := gl X exc T) (by rw [← h3.length]; exact hz), rd⟩
    exact wpAny_pyIter_tuple (show s1.heap.IsTuple c its.toArray from pl) (pi_one (tk := s1.toks) I1 _ (turn_tuple c _) ⟨_, Heap.get?_push_size _ rfl, rfl, rfl⟩ q)
  · split at hds
    · rename_i z hz
      cases hds
      obtain ⟨rfl, ho⟩ := rd.tr.str
      obtain ⟨t, rfl⟩ := (show ∃ t, v = Value.str z t from r1)
      have q : R (Its z) H1 := k _ ρ1 H1 (Ext.refl _ _ _) h1.1.st ⟨_, wk_str (G := gl X exc T) ho (by rw [← line_eq]; exact hz), trivial⟩
      cases ha : z.cps.all (· < 128)
      · exact wpAny_pyIter_wide ha (pi_one (tk := s1.toks) I1 _ (turn_str _ z t "str_iterator" (.inr rfl)) ⟨_, Heap.get?_push_size _ rfl, rfl, rfl⟩ q)
      · exact wpAny_pyIter_ascii ha (pi_one (tk := s1.toks) I1 _ (turn_str _ z t "str_ascii_iterator" (.inl rfl)) ⟨_, Heap.get?_push_size _ rfl, rfl, rfl⟩ q)
    · cases hds
  · cases hds
theorem pi_rng1 {px : Pos} (hg : Gl X "range") (hm : X.mg "range" = none) (ha : SE X exc T W Γ .tran a ea) (hs : nost a = true) : PI X tg (.Call (.Name "range" px) [a] [] pos) (tI (gl X exc T) W pf Γ (.rng1 ea)) := by
  refine ⟨fun pins s σ H R I h => (pi_range1 hg hm (pa_cons ha pa_nil (star_cons hs _ _)) (star_cons hs _ _)).run pins s σ H R I ?_⟩
  obtain ⟨ρ, env, S, h⟩ := h
  have h : At (gl X exc T) W (WR _ pf) ρ env S σ H (DL.bnd (evE Γ ea env) fun x => DL.lift ((asInt x).bind fun n => if n ≤ LIM ∧ -(LIM : Int) ≤ n then some (rngI 0 n.toNat) else none)) R := h
  refine At.tm (c := evE Γ ea) (At.mono (At.bnd (anti_WR _ pf) (Rel1 := RR _ .tran) h) fun x H1 q => ?_)
  obtain ⟨ρ1, d, S1, e1, r1, h1⟩ := q
  obtain ⟨ds, hds, k⟩ := h1.lift
  rw [Option.bind_eq_some_iff] at hds
  obtain ⟨n, hn, hds⟩ := hds
  cases asInt_eq hn
  split at hds
  · rename_i hz
    cases hds
    have hl : (LIM : Nat) = 16777216 := rfl
    have hz1 : n ≤ 16777216 := by have := hz.1; omega
    have hz2 : -16777216 ≤ n := by have := hz.2; omega
    obtain rfl := Tr.int r1
    exact ⟨n, rfl, by omega, by omega, k _ ρ1 H1 (Ext.refl _ _ _) h1.1.st ⟨_, wk_rng (G := gl X exc T) (by rw [sizeLine_eq]; omega), trivial⟩⟩
  · cases hds
theorem pi_rng2 {px : Pos} (hg : Gl X "range") (hm : X.mg "range" = none) (ha : SE X exc T W Γ .tran a ea) (hb : SE X exc T W Γ .tran b eb) (hs : nost a = true) (hs2 : nost b = true) : PI X tg (.Call (.Name "range" px) [a, b] [] pos) (tI (gl X exc T) W pf Γ (.rng2 ea eb)) := by
  refine ⟨fun pins s σ H R I h => (pi_range2 hg hm (pa_cons ha (pa_cons hb pa_nil (star_cons hs2 _ _)) (star_cons hs _ _)) (by rw [star_cons hs, star_cons hs2]; rfl) (by rw [star_cons hs2]; rfl)).run pins s σ H R I ?_⟩
  obtain ⟨ρ, env, S, h⟩ := h
  have h : At (gl X exc T) W (WR _ pf) ρ env S σ H (DL.bnd (evE Γ ea env) fun x => DL.bnd (evE Γ eb env) fun y => DL.lift ((asInt x).bind fun a => (asInt y).bind fun b => if a ≤ LIM ∧ -(LIM : Int) ≤ a ∧ b ≤ LIM ∧ -(LIM : Int) ≤ b ∧ b - a ≤ LIM then some (rngI a (b - a).toNat) else none)) R := h
  refine At.tm (c := evE Γ ea) (At.mono (At.bnd (anti_WR _ pf) (Rel1 := RR _ .tran) h) fun x H1 q => ?_)
  obtain ⟨ρ1, d, S1, e1, r1, h1⟩ := q
  refine At.tm (c := evE Γ eb) (At.mono (At.bnd (anti_WR _ pf) (Rel1 := RR _ .tran) h1) fun y H2 q => ?_)
  obtain ⟨ρ2, d2, S2, e2, r2, h2⟩ := q
  obtain ⟨ds, hds, k⟩ := h2.lift
  rw [Option.bind_eq_some_iff] at hds
  obtain ⟨n, hn, hds⟩ := hds
  rw [Option.bind_eq_some_iff] at hds
  obtain ⟨m, hm, hds⟩ := hds
  cases asInt_eq hn
  cases asInt_eq hm
  split at hds
  · rename_i hz
    cases hds
    have hl : (LIM : Nat) = 16777216 := rfl
    rw [hl] at hz
    obtain ⟨z1, z2, z3, z4, z5⟩ := hz
    obtain rfl := Tr.int r1
    obtain rfl := Tr.int r2
    exact ⟨n, m, rfl, ⟨by omega, by omega, by omega, by omega⟩, k _ ρ2 H2 (Ext.refl _ _ _) h2.1.st ⟨_, wk_rng (G := gl X exc T) (by rw [sizeLine_eq]; omega), trivial⟩⟩
  · cases hds
end

/-! ### the items of a sequence, drawn one by one (enumerate, zip) -/
structure SeqIt (P : Program) (w : World) (K : PySem.W.Frag) (it lo : Addr) (Ok : Hp → Prop) (ds : List D) (si : Nat → Heap → Prop) : Prop where
  obj : ∀ i h, si i h → ∃ o, h.get? it = some o ∧ ∀ v, o.data ≠ .cell v
  keep : ∀ i h h', si i h → (∀ o, h.get? it = some o → h'.get? it = some o) → si i h'
  dr : ∀ (X : Cx), X.prog = P → X.w = w → X.K = K → X.calm = true → ∀ (pins : List (Addr × Obj)) (s : Shared) (σ : L2.St) (H : Hp), Inv X pins σ H s → Ok H →
    ∃ (fp : List Addr) (P' : Nat → Value → Prop) (St' : Nat → Heap → Prop), Draws P w X.A.in1 it (it :: fp) ds.length P' St' ∧ (∀ b ∈ fp, b < lo) ∧ (∀ i, si i s.heap → St' i s.heap) ∧ (∀ i h', St' i h' → si i h') ∧
      ∀ i u, P' i u → ∃ x d, RelV x u ∧ ds[i]? = some d ∧ Rp K H x d
section
variable {X : Cx} {exc : Str → Option (Addr × Str)} {T : List (Addr × Str)} {pf : Bool} {pins : List (Addr × Obj)} {σ : L2.St} {H1 : Hp} {s1 : Shared} {ρ1 : List Addr} {x : V} {v : Value} {d : D} {ds : List D}
theorem seq_begin (I1 : Inv X pins σ H1 s1) (rd : Rd (gl X exc T) pf ρ1 H1 x d) (r1 : RelV x v) (hds : items d = some ds) :
    ∃ (o : Obj) (Hb : Heap → Prop) (Ok : List Addr → Hp → Prop) (si : Addr → Nat → Heap → Prop), Begins v o Hb ∧ Hb s1.heap ∧ Ok ρ1 H1 ∧ ds.length ≤ sizeLine ∧ (∀ ρ ρ' H H', Ext (gl X exc T) ρ H ρ' H' → Ok ρ H → Ok ρ' H') ∧ (pf = true → ∀ ρ ρ' H H', Per H H' → Ok ρ H → Ok ρ' H') ∧
      (∀ ρ it, s1.heap.objs.size ≤ it → SeqIt X.prog X.w X.K it s1.heap.objs.size (Ok ρ) ds (si it)) ∧ ∀ it h, h.get? it = some o → si it 0 h := by
  unfold items at hds
  split at hds
  · cases hds
    obtain ⟨c, vs, rfl, h2, h3⟩ := rd.tr.lst
    obtain ⟨its, rv, pl, hz⟩ := I1.list h2
    cases (show v = Value.ref c from r1)
    have hc : c < s1.heap.objs.size := pl.lt
    refine ⟨_, _, fun ρ H => Rd (gl X exc T) pf ρ H (.ref c) (.list ds), fun it i h => h.IsListIter it c i, begins_list c its.toArray, pl.isList, rd, by rw [← h3.length]; exact hz, fun _ _ _ _ e h => h.ext e, fun hp _ _ _ _ p h => h.per hp p, fun ρ it hit => ?_, fun it h e => ⟨_, e, rfl, rfl⟩⟩
    refine ⟨fun i h st => ?_, fun i h h' st k => st.at k, fun X' hP hw hK hcm pins' s' σ' H' I' ok => ?_⟩
    · obtain ⟨o, e, c', d'⟩ := st
      exact ⟨o, e, fun v z => by rw [d'] at z; cases z⟩
    · obtain ⟨c', ws, ee, w1, w2⟩ := ok.tr.lst
      cases ee
      have w1 : SqL X'.K H' c ws := by rw [hK]; exact w1
      obtain ⟨its', rv', pl', hz'⟩ := I'.list w1
      have en : its'.toArray.size = ds.length := by rw [List.size_toArray, ← rv'.length, w2.length]
      have DD := Draws.list (prog := X.prog) (w := X.w) (A := X'.A.in1) (I'.ok.hd hcm) it c (Nat.ne_of_lt (Nat.lt_of_lt_of_le hc hit)) its'.toArray
      rw [en] at DD
      refine ⟨[c], _, _, DD, fun b hb => by rw [List.mem_singleton.mp hb]; exact hc, fun i st => ⟨st, pl'.isList⟩, fun i h' st => st.1, fun i u hu => ?_⟩
      have hu : its'[i]? = some u := by simpa using hu
      have hi : i < ws.length := by rw [rv'.length]; exact (List.getElem?_eq_some_iff.mp hu).1
      obtain ⟨u', g1, g2⟩ := rv'.get (List.getElem?_eq_getElem hi)
      rw [hu] at g1
      cases g1
      obtain ⟨d, g3, g4⟩ := w2.getV (List.getElem?_eq_getElem hi)
      exact ⟨_, d, g2, g3, g4⟩
  · cases hds
    obtain ⟨c, vs, rfl, h2, h3⟩ := rd.tr.tup
    obtain ⟨its, rv, pl, hz⟩ := I1.tuple h2
    cases (show v = Value.ref c from r1)
    have hc : c < s1.heap.objs.size := pl.lt
    refine ⟨_, _, fun ρ H => Rd (gl X exc T) pf ρ H (.ref c) (.tuple ds), fun it i h => h.IsTupleIter it c i, begins_tuple c its.toArray, pl, rd, by rw [← h3.length]; exact hz, fun _ _ _ _ e h => h.ext e, fun hp _ _ _ _ p h => h.per hp p, fun ρ it hit => ?_, fun it h e => ⟨_, e, rfl, rfl⟩⟩
    refine ⟨fun i h st => ?_, fun i h h' st k => st.at k, fun X' hP hw hK hcm pins' s' σ' H' I' ok => ?_⟩
    · obtain ⟨o, e, c', d'⟩ := st
      exact ⟨o, e, fun v z => by rw [d'] at z; cases z⟩
    · obtain ⟨c', ws, ee, w1, w2⟩ := ok.tr.tup
      cases ee
      have w1 : SqT X'.K H' c ws := by rw [hK]; exact w1
      obtain ⟨its', rv', pl', hz'⟩ := I'.tuple w1
      have en : its'.toArray.size = ds.length := by rw [List.size_toArray, ← rv'.length, w2.length]
      have DD := Draws.tuple (prog := X.prog) (w := X.w) (A := X'.A.in1) (I'.ok.hd hcm) it c (Nat.ne_of_lt (Nat.lt_of_lt_of_le hc hit)) its'.toArray
      rw [en] at DD
      refine ⟨[c], _, _, DD, fun b hb => by rw [List.mem_singleton.mp hb]; exact hc, fun i st => ⟨st, pl'⟩, fun i h' st => st.1, fun i u hu => ?_⟩
      have hu : its'[i]? = some u := by simpa using hu
      have hi : i < ws.length := by rw [rv'.length]; exact (List.getElem?_eq_some_iff.mp hu).1
      obtain ⟨u', g1, g2⟩ := rv'.get (List.getElem?_eq_getElem hi)
      rw [hu] at g1
      cases g1
      obtain ⟨d, g3, g4⟩ := w2.getV (List.getElem?_eq_getElem hi)
      exact ⟨_, d, g2, g3, g4⟩
  · split at hds
    · rename_i z hz
      cases hds
      obtain ⟨rfl, ho⟩ := rd.tr.str
      obtain ⟨t, rfl⟩ := (show ∃ t, v = Value.str z t from r1)
      refine ⟨_, _, fun _ _ => True, fun it i h => h.IsStrIter it (strIterType z) z t i, begins_text z t, trivial, trivial, by rw [List.length_map, ← line_eq]; simpa [Str.length] using hz, fun _ _ _ _ _ _ => trivial, fun _ _ _ _ _ _ _ => trivial, fun ρ it hit => ?_, fun it h e => ⟨_, e, rfl, rfl⟩⟩
      refine ⟨fun i h st => ?_, fun i h h' st k => ?_, fun X' hP hw hK hcm pins' s' σ' H' I' ok => ?_⟩
      · obtain ⟨o, e, c', d'⟩ := st
        exact ⟨o, e, fun v z => by rw [d'] at z; cases z⟩
      · obtain ⟨o, e, r⟩ := st
        exact ⟨o, k o e, r⟩
      · have DD := Draws.text (prog := X.prog) (w := X.w) (A := X'.A.in1) (I'.ok.hd hcm) it z t
        have en : z.cps.size = (z.cps.toList.map chr).length := by simp
        rw [en] at DD
        have hnil : ∀ b ∈ ([] : List Addr), b < s1.heap.objs.size := fun b hb => absurd hb (by simp)
        refine ⟨[], _, _, DD, hnil, fun i st => st, fun i h' st => st, fun i u hu => ?_⟩
        obtain ⟨c, t', g1, rfl⟩ := hu
        have g2 : z.cps.toList[i]? = some c := by simpa using g1
        exact ⟨.str ⟨#[c]⟩, chr c, ⟨t', rfl⟩, by simp [g1], chr_rp ho (List.mem_of_getElem? g2)⟩
    · cases hds
  · cases hds
theorem enum_get {ds : List D} {i : Nat} {d : D} (h : ds[i]? = some d) : (enum ds)[i]? = some (.tuple [.int i, d]) := by
  unfold enum
  rw [List.getElem?_map, List.getElem?_zipIdx, h]
  simp
theorem enum_len (ds : List D) : (enum ds).length = ds.length := by simp [enum]
theorem zip_get {xs ys : List D} {i : Nat} {d e : D} (h : xs[i]? = some d) (h2 : ys[i]? = some e) : (zipD xs ys)[i]? = some (.tuple [d, e]) := by
  unfold zipD
  rw [List.getElem?_map, show (xs.zip ys)[i]? = some (d, e) from List.getElem?_zip_eq_some.mpr ⟨h, h2⟩]
  rfl
theorem zip_len (xs ys : List D) : (zipD xs ys).length = min xs.length ys.length := by simp [zipD]
end
/-- enumerate: each item in a new pair -/
def ItE (K : PySem.W.Frag) (Ok : Hp → Prop) (ds : List D) : It :=
  ⟨fun i H => i < ds.length ∧ Ok H, fun i H v H' => ∃ c x d, v = .ref c ∧ H c = none ∧ H' = upd H c (.tup [.int (i : Nat), x]) ∧ ds[i]? = some d ∧ Rp K H x d, fun i H => ds.length ≤ i ∧ Ok H⟩
theorem turn_enumD {P : Program} {w : World} {K : PySem.W.Frag} {elts : List Expr} {kk : Nat} {tpos : Pos} {e it lo : Addr} {Ok : Hp → Prop} {ds : List D} {si : Nat → Heap → Prop} (SI : SeqIt P w K it lo Ok ds si) (hlo : lo ≤ e) (hne : e ≠ it) :
    Turn P w K (.Tuple elts kk tpos) (ItE K Ok ds) [e, it] e (fun i h => i ≤ ds.length ∧ (∃ old, IsEnum h e it ((i : Nat) : Int) old) ∧ si i h) where
  mem := by simp
  obj := fun i h st b hb => by
    obtain ⟨_, ⟨old, he⟩, hs⟩ := st
    have e' : b = e ∨ b = it := by simpa using hb
    rcases e' with z | z
    · rw [z]; exact ⟨_, he, fun v q => nomatch q⟩
    · rw [z]; exact SI.obj i h hs
  keep := fun i h h' st k => by
    obtain ⟨h1, ⟨old, he⟩, hs⟩ := st
    exact ⟨h1, ⟨old, k e (by simp) _ he⟩, SI.keep i h h' hs fun o q => k it (by simp) o q⟩
  item := by
    intro X hP hw hK hc i pins s σ H E I hf st hg
    obtain ⟨_, ⟨old, he⟩, hs⟩ := st
    obtain ⟨hlt, ok⟩ := hg
    obtain ⟨fp, P', St', DD, hfp, d1, d2, d3⟩ := SI.dr X hP hw hK hc pins s σ H I ok
    subst hP hw hK
    have hef : e ∉ it :: fp := fun hm => by
      rcases List.mem_cons.mp hm with z | z
      · exact hne z
      · exact absurd (hfp e z) (Nat.not_lt.mpr hlo)
    have hel : e < s.heap.objs.size := Heap.lt_size he
    have hil : it < s.heap.objs.size := by obtain ⟨_, q, _⟩ := SI.obj i _ hs; exact Heap.lt_size q
    refine wpAny_pyNext_enum_itemC DD he (d1 i hs) hlt hne hef fun u h' tk hPu ho hst' hT hsz hk => ?_
    obtain ⟨x, d, rx, hd, hrp⟩ := d3 i u hPu
    refine ⟨_, rfl, wpAny_letOwnedTupleGo_enum (s := { s with heap := h', toks := tk + 1 }) ho fun h'' he' sb => ?_⟩
    have hT2 : h''.get? s.heap.objs.size = some { cls := .type "tuple", data := .seq #[.int i tk, u] } := (sb.2 _ (Nat.ne_of_gt hel)).trans hT
    have new : ObjOk X.prog X.w (upd H s.heap.objs.size (.tup [.int (i : Nat), x])) h'' s.heap.objs.size (.tup [.int (i : Nat), x]) :=
      ⟨by show 2 ≤ sizeLine; decide, [.int i tk, u], .cons ⟨_, rfl⟩ (.cons rx .nil), ⟨_, hT2, rfl, _, rfl⟩⟩
    have I1 : Inv X pins σ (upd H s.heap.objs.size (.tup [.int (i : Nat), x])) { s with heap := h'', toks := tk + 1 } :=
      I.turnedNew (ch := [e, it]) (fun b ob hb q => (sb.2 b (fun z => hb (by simp [z]))).trans (hk b ob (fun z => hb (by simp [z])) (fun z => hb (by simp [z])) q)) hf (Nat.le_refl _) new
    refine ⟨.ref s.heap.objs.size, _, I1, rfl, ⟨_, x, d, rfl, I.hok.fresh (Nat.le_refl _), rfl, hd, hrp⟩, ⟨hlt, ⟨u, ?_⟩, ?_⟩, fun b hb => ?_⟩
    · have e1 : ((i + 1 : Nat) : Int) = (i : Int) + 1 := by omega
      rw [e1]; exact he'
    · exact d2 (i + 1) h'' (DD.frame _ _ _ hst' fun b hb o q => (sb.2 b (fun z => hef (z ▸ hb))).trans q)
    · have hb' : b < s.heap.objs.size := by
        have e' : b = e ∨ b = it := by simpa using hb
        rcases e' with z | z
        · rw [z]; exact hel
        · rw [z]; exact hil
      rw [upd_ne (Nat.ne_of_lt hb')]
      exact (hf b hb).1
  done := by
    intro X hP hw hK hc i pins s σ H E I hf st hg
    obtain ⟨hle, ⟨old, he⟩, hs⟩ := st
    obtain ⟨hge, ok⟩ := hg
    have hi : i = ds.length := Nat.le_antisymm hle hge
    subst hi
    obtain ⟨fp, P', St', DD, hfp, d1, d2, d3⟩ := SI.dr X hP hw hK hc pins s σ H I ok
    subst hP hw hK
    obtain ⟨f0, f1, f2, f3, f4, f5⟩ := hf it (by simp)
    exact wpAny_pyNext_enum_endD DD he (d1 _ hs) fun h' eb => ⟨rfl, I.turned (t' := s.toks) (fun b o hb q => eb b o hb q) f0 f1 f3 f4 f5⟩
  self := fun A i s Q E st h => by
    obtain ⟨_, ⟨_, he⟩, _⟩ := st
    exact wpAny_pyIter_enum he h
theorem adds {n : Nat} (a b : Nat) (h : a ≠ b) : n + a ≠ n + b := by omega
theorem add0 {n : Nat} (a : Nat) (h : 0 < a) : n + a ≠ n := by omega
theorem addle {n c : Nat} (h : c = n + 4 ∨ c = n + 2 ∨ c = n + 3 ∨ c = n ∨ c = n + 1) : c ≤ n + 4 := by omega
/-- zip of two: the items in new pairs -/
def ItZ (K : PySem.W.Frag) (Ok : Hp → Prop) (xs ys : List D) : It :=
  ⟨fun i H => i < min xs.length ys.length ∧ Ok H, fun i H v H' => ∃ c x y d e, v = .ref c ∧ H c = none ∧ H' = upd H c (.tup [x, y]) ∧ xs[i]? = some d ∧ ys[i]? = some e ∧ Rp K H x d ∧ Rp K H y e, fun i H => min xs.length ys.length ≤ i ∧ Ok H⟩
theorem turn_zipD {P : Program} {w : World} {K : PySem.W.Frag} {elts : List Expr} {kk : Nat} {tpos : Pos} {N : Addr} {Ok : Hp → Prop} {xs ys : List D} {si1 si2 : Nat → Heap → Prop} (S1 : SeqIt P w K N N Ok xs si1) (S2 : SeqIt P w K (N + 1) N Ok ys si2) :
    Turn P w K (.Tuple elts kk tpos) (ItZ K Ok xs ys) [N + 4, N + 2, N + 3, N, N + 1] (N + 4) (fun i h => i ≤ min xs.length ys.length ∧ IsZip h (N + 4) (N + 2) (N + 3) .none ∧ IsTupOf2 h (N + 2) (.ref N) (.ref (N + 1)) ∧ (∃ x y, IsTupOf2 h (N + 3) x y) ∧ si1 i h ∧ si2 i h) where
  mem := by simp
  obj := fun i h st c hc => by
    obtain ⟨_, hz, hTI, ⟨x, y, hTO⟩, h1, h2⟩ := st
    have e' : c = N + 4 ∨ c = N + 2 ∨ c = N + 3 ∨ c = N ∨ c = N + 1 := by simpa using hc
    rcases e' with q | q | q | q | q
    · rw [q]; exact ⟨_, hz, fun v q => nomatch q⟩
    · rw [q]; exact ⟨_, hTI, fun v q => nomatch q⟩
    · rw [q]; exact ⟨_, hTO, fun v q => nomatch q⟩
    · rw [q]; exact S1.obj i h h1
    · rw [q]; exact S2.obj i h h2
  keep := fun i h h' st k => by
    obtain ⟨h0, hz, hTI, ⟨x, y, hTO⟩, h1, h2⟩ := st
    exact ⟨h0, k _ (by simp) _ hz, k _ (by simp) _ hTI, ⟨x, y, k _ (by simp) _ hTO⟩, S1.keep i h h' h1 fun o q => k _ (by simp) o q, S2.keep i h h' h2 fun o q => k _ (by simp) o q⟩
  item := by
    intro X hP hw hK hc i pins s σ H E I hf st hg
    obtain ⟨_, hz, hTI, ⟨x0, y0, hTO⟩, h1, h2⟩ := st
    obtain ⟨hlt, ok⟩ := hg
    obtain ⟨fp1, P1, St1, D1, f1, a1, a2, a3⟩ := S1.dr X hP hw hK hc pins s σ H I ok
    obtain ⟨fp2, P2, St2, D2, f2, b1, b2, b3⟩ := S2.dr X hP hw hK hc pins s σ H I ok
    subst hP hw hK
    have SS := zip_sep2 f1 f2
    have hzl : N + 4 < s.heap.objs.size := Heap.lt_size hz
    refine wpAny_pyNext_zipD2_item SS D1 D2 hz hTI hTO (a1 i h1) (b1 i h2) (Nat.lt_of_lt_of_le hlt (Nat.min_le_left _ _)) (Nat.lt_of_lt_of_le hlt (Nat.min_le_right _ _)) fun u1 u2 h' tk p1 p2 z' TO' h1' h2' hT hsz hk => ?_
    obtain ⟨x, d, rx, hd, hrp⟩ := a3 i u1 p1
    obtain ⟨y, e, ry, he, hrq⟩ := b3 i u2 p2
    refine ⟨_, rfl, wpAny_letOwnedTupleGo_zip (s := { s with heap := h', toks := tk }) z' fun h'' z'' sb => ?_⟩
    have hT2 : h''.get? s.heap.objs.size = some { cls := .type "tuple", data := .seq #[u1, u2] } := (sb.2 _ (Nat.ne_of_gt hzl)).trans hT
    have new : ObjOk X.prog X.w (upd H s.heap.objs.size (.tup [x, y])) h'' s.heap.objs.size (.tup [x, y]) :=
      ⟨by show 2 ≤ sizeLine; decide, [u1, u2], .cons rx (.cons ry .nil), ⟨_, hT2, rfl, _, rfl⟩⟩
    have I1 : Inv X pins σ (upd H s.heap.objs.size (.tup [x, y])) { s with heap := h'', toks := tk } :=
      I.turnedNew (ch := [N + 4, N + 2, N + 3, N, N + 1]) (fun c o hb q => (sb.2 c (fun q' => hb (by simp [q']))).trans (hk c o (fun q' => hb (by simp [q'])) (fun q' => hb (by simp [q'])) (fun q' => hb (by simp [q'])) (fun q' => hb (by simp [q'])) q)) hf (Nat.le_refl _) new
    refine ⟨.ref s.heap.objs.size, _, I1, rfl, ⟨_, x, y, d, e, rfl, I.hok.fresh (Nat.le_refl _), rfl, hd, he, hrp, hrq⟩, ⟨hlt, z'', ?_, ⟨u1, u2, ?_⟩, ?_, ?_⟩, fun c hcm => ?_⟩
    · exact (sb.2 _ (adds 2 4 (by decide))).trans (hk _ _ (adds 2 4 (by decide)) (adds 2 3 (by decide)) (add0 2 (by decide)) (adds 2 1 (by decide)) hTI)
    · exact (sb.2 _ (adds 3 4 (by decide))).trans TO'
    · exact a2 (i + 1) h'' (D1.frame _ _ _ h1' fun b hb o q => (sb.2 b (fun z => SS.zf1 (z ▸ hb))).trans q)
    · exact b2 (i + 1) h'' (D2.frame _ _ _ h2' fun b hb o q => (sb.2 b (fun z => SS.zf2 (z ▸ hb))).trans q)
    · have hlt' : c < s.heap.objs.size := by
        have e' : c = N + 4 ∨ c = N + 2 ∨ c = N + 3 ∨ c = N ∨ c = N + 1 := by simpa using hcm
        exact Nat.lt_of_le_of_lt (addle e') hzl
      rw [upd_ne (Nat.ne_of_lt hlt')]
      exact (hf c hcm).1
  done := by
    intro X hP hw hK hc i pins s σ H E I hf st hg
    obtain ⟨hle, hz, hTI, ⟨x0, y0, hTO⟩, h1, h2⟩ := st
    obtain ⟨hge, ok⟩ := hg
    obtain ⟨fp1, P1, St1, D1, f1, a1, a2, a3⟩ := S1.dr X hP hw hK hc pins s σ H I ok
    obtain ⟨fp2, P2, St2, D2, f2, b1, b2, b3⟩ := S2.dr X hP hw hK hc pins s σ H I ok
    subst hP hw hK
    exact wpAny_pyNext_zipD2_end (zip_sep2 f1 f2) D1 D2 hz hTI hTO (a1 i h1) (b1 i h2) (by omega) (by omega) (by omega) fun h' tk hk => ⟨rfl, I.turnedL (t' := tk) (ch := [N + 4, N + 2, N + 3, N, N + 1]) (fun c o hb q =>
      hk c o (fun q' => hb (by simp [q'])) (fun q' => hb (by simp [q'])) (fun q' => hb (by simp [q'])) (fun q' => hb (by simp [q'])) q) hf⟩
  self := fun A i s Q E st h => wpAny_pyIter_zip st.2.1 h
end DL
end

section
/-! Sd6: enumerate, zip; targets; comprehensions -/
namespace DL
open PySem PySem.Spec PyProof.Rows L2

theorem enum_new1 {v : Value} {o : Obj} {Hb : Heap → Prop} (B : Begins v o Hb) :
    Meets (Builtin.«enumerate.__new__» ⟨[.type "enumerate", v], []⟩) (fun _ R s => Hb s.heap ∧
      R (.ok (.ret (.ref (s.heap.push o).objs.size))) { s with heap := (s.heap.push o).push { cls := .type "enumerate", data := .fields #[.none, .bool false, .ref s.heap.objs.size, rawInt 0, .none, .none] } }) :=
  .of_wp fun prog w A R s h => by
    obtain ⟨hp, g, d, tk, os⟩ := s
    obtain ⟨h1, h⟩ := h
    have hsub := sub_enumerate
    have q1 : ∀ {A1 : Around} {E1 : Value → Shared → Prop} {Q1 : Value → Shared → Prop}, Q1 (.ref hp.objs.size) ⟨hp.push o, g, d, tk, os⟩ → wpAny (model prog w) A1 (pyIter v) Q1 E1 ⟨hp, g, d, tk, os⟩ :=
      fun q => B.iter prog w _ _ ⟨hp, g, d, tk, os⟩ _ h1 q
    wp_walk using q1
    refine wpAny_stack_any fun st => wpAny_pure ?_
    split
    · rename_i c _ _ _ _ _
      cases (c == Value.type "enumerate") <;> (wp_walk using q1; exact ⟨_, rfl, h⟩)
    · wp_walk using q1
      exact ⟨_, rfl, h⟩
theorem enum_call1 {prog : Program} {w : World} {A : Around} {E : Value → Shared → Prop} {s : Shared} {v : Value} {o : Obj} {Hb : Heap → Prop} {Q : Value → Shared → Prop} (B : Begins v o Hb) (h1 : Hb s.heap)
    (h : ∀ h', IsEnum h' (s.heap.objs.size + 1) s.heap.objs.size 0 .none → h'.get? s.heap.objs.size = some o → (∀ b o, s.heap.get? b = some o → h'.get? b = some o) → Q (.ref (s.heap.objs.size + 1)) { s with heap := h' }) :
    wpAny (model prog w) A (call (.type "enumerate") [v]) Q E s := by
  refine callType_new F.called_enumerate (by decide) (F.typeCall_enumerate_1 _) (F.newCall_enumerate_1 _) (fun obj => F.args_object_init_2 obj _) F.entry_enumerate_new (enum_new1 B) ⟨h1, ?_⟩
  have hz : (s.heap.push o).objs.size = s.heap.objs.size + 1 := Heap.size_push ..
  show _ ∧ _
  rw [hz]
  have he : IsEnum ((s.heap.push o).push { cls := .type "enumerate", data := .fields #[.none, .bool false, .ref s.heap.objs.size, rawInt 0, .none, .none] }) (s.heap.objs.size + 1) s.heap.objs.size 0 .none := by
    have z := Heap.get?_push_size (s.heap.push o) (o := { cls := .type "enumerate", data := .fields #[.none, .bool false, .ref s.heap.objs.size, rawInt 0, .none, .none] }) rfl
    rw [hz] at z
    exact z
  exact ⟨⟨_, he, rfl⟩, h _ he (Heap.get?_push_of_some _ (Heap.get?_push_size _ B.free)) fun b o x => Heap.get?_push_of_some _ (Heap.get?_push_of_some _ x)⟩
theorem SeqIt.any {P : Program} {w : World} {K : PySem.W.Frag} {it lo : Addr} {Ok : List Addr → Hp → Prop} {OkE : Hp → Prop} {ds : List D} {si : Nat → Heap → Prop} (mk : ∀ ρ, SeqIt P w K it lo (Ok ρ) ds si) (ρ1 : List Addr) (h : ∀ H, OkE H → ∃ ρ, Ok ρ H) : SeqIt P w K it lo OkE ds si where
  obj := (mk ρ1).obj
  keep := (mk ρ1).keep
  dr := fun X h1 h2 h3 h4 pins s σ H I ok => by
    obtain ⟨ρ, o⟩ := h H ok
    exact (mk ρ).dr X h1 h2 h3 h4 pins s σ H I o
section
variable {X : Cx} {exc : Str → Option (Addr × Str)} {T : List (Addr × Str)} {W : WX} {Γ : Ctx} {pf : Bool} {a b : Expr} {ea eb : E} {pos px tpos : Pos} {elts : List Expr} {kk : Nat}
theorem wk_enum {G : Glob} {Ok : List Addr → Hp → Prop} {ds : List D} (hl : ds.length ≤ sizeLine) (e : ∀ ρ ρ' H H', Ext G ρ H ρ' H' → Ok ρ H → Ok ρ' H') (p : pf = true → ∀ ρ ρ' H H', Per H H' → Ok ρ H → Ok ρ' H') {OkE : Hp → Prop} (hk : ∀ ρ H, Ok ρ H → OkE H) :
    Wk G pf (ItE G.K OkE ds) Ok (enum ds) where
  len := by rw [enum_len]; exact hl
  go := fun ρ i H hi h => ⟨by rw [enum_len] at hi; exact hi, hk ρ H h⟩
  yld := fun ρ i H x H' hi h y => by
    obtain ⟨c, x', d, rfl, hn, rfl, hd, hr⟩ := y
    exact ⟨grow_upd hn, _, enum_get hd, .tup (SqT.of upd_same) (.cons (.int _) (.cons (hr.mono (Per.of (grow_upd hn))) .nil))⟩
  stop := fun ρ H h => ⟨by rw [enum_len]; exact Nat.le_refl _, hk ρ H h⟩
  ext := e
  per := p
theorem wk_zip {G : Glob} {Ok : List Addr → Hp → Prop} {xs ys : List D} (hl : xs.length ≤ sizeLine) (e : ∀ ρ ρ' H H', Ext G ρ H ρ' H' → Ok ρ H → Ok ρ' H') (p : pf = true → ∀ ρ ρ' H H', Per H H' → Ok ρ H → Ok ρ' H') {OkE : Hp → Prop} (hk : ∀ ρ H, Ok ρ H → OkE H) :
    Wk G pf (ItZ G.K OkE xs ys) Ok (zipD xs ys) where
  len := by rw [zip_len]; omega
  go := fun ρ i H hi h => ⟨by rw [zip_len] at hi; exact hi, hk ρ H h⟩
  yld := fun ρ i H x H' hi h y => by
    obtain ⟨c, x', y', d, e', rfl, hn, rfl, hd, he, hr, hq⟩ := y
    exact ⟨grow_upd hn, _, zip_get hd he, .tup (SqT.of upd_same) (.cons (hr.mono (Per.of (grow_upd hn))) (.cons (hq.mono (Per.of (grow_upd hn))) .nil))⟩
  stop := fun ρ H h => ⟨by rw [zip_len]; exact Nat.le_refl _, hk ρ H h⟩
  ext := e
  per := p
theorem pi_enumD (hg : Gl X "enumerate") (hm : X.mg "enumerate" = none) (ha : SE X exc T W Γ (mdOf pf) a ea) (hs : nost a = true) : PI X (.Tuple elts kk tpos) (.Call (.Name "enumerate" px) [a] [] pos) (tI (gl X exc T) W pf Γ (.enum ea)) := by
  refine ⟨fun pins s σ H R I h => ?_⟩
  obtain ⟨ρ, env, S, h⟩ := h
  have h : At (gl X exc T) W (WR _ pf) ρ env S σ H (DL.bnd (evE Γ ea env) fun x => DL.lift ((items x).map enum)) R := h
  have hA := (pa_cons ha pa_nil (star_cons hs _ _)).run pos pins s σ H (fun vs H1 => ∃ x, vs = [x] ∧ ∃ ρ1 d S1, Ext (gl X exc T) ρ H ρ1 H1 ∧ RR (gl X exc T) (mdOf pf) H ρ1 H1 x d ∧ At (gl X exc T) W (WR (gl X exc T) pf) ρ1 env S1 σ H1 (DL.lift ((items d).map enum)) R) I
    (At.tm (c := evE Γ ea) (At.mono (At.bnd (anti_WR _ pf) (Rel1 := RR _ (mdOf pf)) h) fun x H1 q => ⟨x, rfl, q⟩))
  refine Call_ (ld_blt I hg hm boot_enumerate (PyProof.Rows.callWith_type1 (thn hA fun us s1 q => ?_) (star_cons hs _ _) rfl))
  obtain ⟨vs, H1, I1, rv, x, rfl, ρ1, d, S1, e1, rel, h1⟩ := q
  obtain ⟨v, rfl, r1⟩ := vals1 rv
  obtain ⟨es, hes, k⟩ := h1.lift
  rw [Option.map_eq_some_iff] at hes
  obtain ⟨ds, hds, rfl⟩ := hes
  have rd := Rd.of rel
  obtain ⟨o, Hb, Ok, si, B, hb, ok, hlen, oe, op, mk, s0⟩ := seq_begin I1 rd r1 hds
  refine enum_call1 B hb fun h' he hit hk => wpAny_pyIter_enum he ?_
  have I2 : Inv X pins σ H1 { s1 with heap := h' } := I1.kept (t' := s1.toks) hk
  have SI : SeqIt X.prog X.w X.K s1.heap.objs.size s1.heap.objs.size (fun H => ∃ ρ, Ok ρ H) ds (si s1.heap.objs.size) :=
    SeqIt.any (fun ρ => mk ρ _ (Nat.le_refl _)) ρ1 (fun H h => h)
  refine ⟨s1.heap.objs.size + 1, [s1.heap.objs.size + 1, s1.heap.objs.size], _, ItE X.K (fun H => ∃ ρ, Ok ρ H) ds, H1, rfl, I2, turn_enumD SI (Nat.le_succ _) (Nat.succ_ne_self _), ⟨Nat.zero_le _, ⟨.none, he⟩, s0 _ _ hit⟩, fun b hb => ?_, ?_⟩
  · have e' : b = s1.heap.objs.size + 1 ∨ b = s1.heap.objs.size := by simpa using hb
    have hle : s1.heap.objs.size ≤ b := by
      rcases e' with z | z
      · rw [z]; exact Nat.le_add_right _ _
      · rw [z]; exact Nat.le_refl _
    exact I1.fpOk hle (I1.hok.fresh hle)
  · have wr : WR (gl X exc T) pf H1 ρ1 H1 (ItE X.K (fun H => ∃ ρ, Ok ρ H) ds) (enum ds) := ⟨Ok, wk_enum hlen oe op (fun ρ H h => ⟨ρ, h⟩), ok⟩
    exact k _ ρ1 H1 (Ext.refl _ _ _) h1.1.st wr
theorem pi_zipD (hg : Gl X "zip") (hm : X.mg "zip" = none) (ha : SE X exc T W Γ (mdOf pf) a ea) (hb : SE X exc T W Γ (mdOf pf) b eb) (hs : nost a = true) (hs2 : nost b = true) :
    PI X (.Tuple elts kk tpos) (.Call (.Name "zip" px) [a, b] [] pos) (tI (gl X exc T) W pf Γ (.zip ea eb)) := by
  refine ⟨fun pins s σ H R I h => ?_⟩
  obtain ⟨ρ, env, S, h⟩ := h
  have h : At (gl X exc T) W (WR _ pf) ρ env S σ H (DL.bnd (evE Γ ea env) fun x => DL.bnd (evE Γ eb env) fun y => DL.lift ((items x).bind fun xs => (items y).map fun ys => zipD xs ys)) R := h
  have hA := (pa_cons ha (pa_cons hb pa_nil (star_cons hs2 _ _)) (star_cons hs _ _)).run pos pins s σ H (fun vs H2 => ∃ x y, vs = [x, y] ∧ ∃ ρ2 d1 d2 S2, Rd (gl X exc T) pf ρ2 H2 x d1 ∧ Rd (gl X exc T) pf ρ2 H2 y d2 ∧
      At (gl X exc T) W (WR (gl X exc T) pf) ρ2 env S2 σ H2 (DL.lift ((items d1).bind fun xs => (items d2).map fun ys => zipD xs ys)) R) I
    (At.tm (c := evE Γ ea) (At.mono (At.bnd (anti_WR _ pf) (Rel1 := RR _ (mdOf pf)) h) fun x H1 q => by
      obtain ⟨ρ1, d1, S1, e1, r1, h1⟩ := q
      refine At.tm (c := evE Γ eb) (At.mono (At.bnd (anti_WR _ pf) (Rel1 := RR _ (mdOf pf)) h1) fun y H2 q => ?_)
      obtain ⟨ρ2, d2, S2, e2, r2, h2⟩ := q
      exact ⟨x, y, rfl, ρ2, d1, d2, S2, (Rd.of r1).ext e2, Rd.of r2, h2⟩))
  refine Call_ (ld_blt I hg hm PyProof.Rows.boot_zip (PyProof.Rows.callWith_type1 (thn hA fun us s1 q => ?_) (star_cons hs _ _) (star_any _ _ (by simp [hs2]))))
  obtain ⟨vs, H1, I1, rv, x, y, rfl, ρ1, d1, d2, S1, rd1, rd2, h1⟩ := q
  obtain ⟨v1, v2, rfl, r1, r2⟩ := vals2 rv
  obtain ⟨es, hes, k⟩ := h1.lift
  rw [Option.bind_eq_some_iff] at hes
  obtain ⟨xs, hxs, hes⟩ := hes
  rw [Option.map_eq_some_iff] at hes
  obtain ⟨ys, hys, rfl⟩ := hes
  obtain ⟨o1, Hb1, Ok1, si1, B1, hb1, ok1, hlen1, oe1, op1', mk1, s01⟩ := seq_begin I1 rd1 r1 hxs
  obtain ⟨o2, Hb2, Ok2, si2, B2, hb2, ok2, hlen2, oe2, op2', mk2, s02⟩ := seq_begin I1 rd2 r2 hys
  refine zip_begins2 B1 B2 hb1 hb2 fun h' hz hTI hTO g1 g2 hsz hk => wpAny_pyIter_zip hz ?_
  have I2 : Inv X pins σ H1 { s1 with heap := h' } := I1.kept (t' := s1.toks) hk
  have fresh5 : ∀ c, c ∈ [s1.heap.objs.size + 4, s1.heap.objs.size + 2, s1.heap.objs.size + 3, s1.heap.objs.size, s1.heap.objs.size + 1] → FpOk X pins H1 c := fun c hcm => by
    have e' : c = s1.heap.objs.size + 4 ∨ c = s1.heap.objs.size + 2 ∨ c = s1.heap.objs.size + 3 ∨ c = s1.heap.objs.size ∨ c = s1.heap.objs.size + 1 := by simpa using hcm
    have hle : s1.heap.objs.size ≤ c := by
      rcases e' with z | z | z | z | z <;> (subst z; first | exact Nat.le_add_right _ _ | exact Nat.le_refl _)
    exact I1.fpOk hle (I1.hok.fresh hle)
  have S1' : SeqIt X.prog X.w X.K s1.heap.objs.size s1.heap.objs.size (fun H => ∃ ρ, Ok1 ρ H ∧ Ok2 ρ H) xs (si1 s1.heap.objs.size) :=
    SeqIt.any (fun ρ => mk1 ρ _ (Nat.le_refl _)) ρ1 (fun H h => h.elim fun ρ h => ⟨ρ, h.1⟩)
  have S2' : SeqIt X.prog X.w X.K (s1.heap.objs.size + 1) s1.heap.objs.size (fun H => ∃ ρ, Ok1 ρ H ∧ Ok2 ρ H) ys (si2 (s1.heap.objs.size + 1)) :=
    SeqIt.any (fun ρ => mk2 ρ _ (Nat.le_succ _)) ρ1 (fun H h => h.elim fun ρ h => ⟨ρ, h.2⟩)
  refine ⟨s1.heap.objs.size + 4, _, _, ItZ X.K (fun H => ∃ ρ, Ok1 ρ H ∧ Ok2 ρ H) xs ys, H1, rfl, I2, turn_zipD S1' S2', ⟨Nat.zero_le _, hz, hTI, ⟨_, _, hTO⟩, s01 _ _ g1, s02 _ _ g2⟩, fresh5, ?_⟩
  have wr : WR (gl X exc T) pf H1 ρ1 H1 (ItZ X.K (fun H => ∃ ρ, Ok1 ρ H ∧ Ok2 ρ H) xs ys) (zipD xs ys) :=
    ⟨fun ρ H => Ok1 ρ H ∧ Ok2 ρ H, wk_zip hlen1 (fun _ _ _ _ e h => ⟨oe1 _ _ _ _ e h.1, oe2 _ _ _ _ e h.2⟩) (fun hp _ _ _ _ p h => ⟨op1' hp _ _ _ _ p h.1, op2' hp _ _ _ _ p h.2⟩) (fun ρ H h => ⟨ρ, h⟩), ok1, ok2⟩
  exact k _ ρ1 H1 (Ext.refl _ _ _) h1.1.st wr
end

/-! ### targets -/
def tgIx : Tg → List Nat
  | .nm i => [i]
  | .t2 a b => tgIx a ++ tgIx b
  | .t3 a b c => tgIx a ++ tgIx b ++ tgIx c
def gK (K : PySem.W.Frag) : Tg → TG
  | .nm i => gName i
  | .t2 a b => gTup K 2 (gCons (gK K a) (gCons (gK K b) gNil))
  | .t3 a b c => gTup K 3 (gCons (gK K a) (gCons (gK K b) (gCons (gK K c) gNil)))
/-- what a store to the names at ix leaves -/
structure TgU (ix : List Nat) (env env' : Env) (σ σ' : L2.St) : Prop where
  out : ∀ i, i ∉ ix → env'[i]? = env[i]? ∧ σ'[i]? = σ[i]?
  inn : ∀ i s, i ∈ ix → env'[i]? = some (some s) → ∃ d, s = .dat d
  len : env'.length = env.length ∧ σ'.length = σ.length
theorem TgU.trans {ix jx : List Nat} {env env1 env2 : Env} {σ σ1 σ2 : L2.St} (a : TgU ix env env1 σ σ1) (b : TgU jx env1 env2 σ1 σ2) : TgU (ix ++ jx) env env2 σ σ2 where
  out := fun i hi => by
    rw [List.mem_append, not_or] at hi
    exact ⟨(b.out i hi.2).1.trans (a.out i hi.1).1, (b.out i hi.2).2.trans (a.out i hi.1).2⟩
  inn := fun i s hi e => by
    by_cases hj : i ∈ jx
    · exact b.inn i s hj e
    · rw [List.mem_append] at hi
      rw [(b.out i hj).1] at e
      rcases hi with hi | hi
      · exact a.inn i s hi e
      · exact absurd hi hj
  len := ⟨b.len.1.trans a.len.1, b.len.2.trans a.len.2⟩
theorem EnvR.set {G : Glob} {ρ : List Addr} {env : Env} {σ : L2.St} {H : Hp} {i : Nat} {s : Slot} {x : V} (h : EnvR G ρ env σ H) (hs : SlotR G ρ H (some x) s)
    (hd : ∀ xs, s = .own xs → ∀ j ys b, env[j]? = some (some (.own ys)) → j ≠ i → σ[j]? = some (some (.ref b)) → x ≠ .ref b) : EnvR G ρ (env.set i (some s)) (σ.set i (some x)) H where
  len := by rw [List.length_set, List.length_set]; exact h.len
  slot := fun j t e => by
    by_cases hj : i = j
    · subst hj
      have hl : i < env.length := by
        by_cases hl : i < env.length
        · exact hl
        · rw [List.getElem?_eq_none (by rw [List.length_set]; omega)] at e; cases e
      rw [List.getElem?_set_self hl] at e
      cases e
      exact ⟨some x, List.getElem?_set_self (by rw [← h.len]; exact hl), hs⟩
    · rw [List.getElem?_set_ne hj] at e
      obtain ⟨y, h1, h2⟩ := h.slot j t e
      exact ⟨y, by rw [List.getElem?_set_ne hj]; exact h1, h2⟩
  own := fun j k xs ys b e1 e2 e3 e4 => by
    have fact : ∀ j xs, (env.set i (some s))[j]? = some (some (.own xs)) → (j = i ∧ s = .own xs ∧ i < env.length) ∨ (j ≠ i ∧ env[j]? = some (some (.own xs))) := fun j xs e => by
      by_cases hj : i = j
      · subst hj
        have hl : i < env.length := by
          by_cases hl : i < env.length
          · exact hl
          · rw [List.getElem?_eq_none (by rw [List.length_set]; omega)] at e; cases e
        rw [List.getElem?_set_self hl] at e
        cases e
        exact .inl ⟨rfl, rfl, hl⟩
      · rw [List.getElem?_set_ne hj] at e
        exact .inr ⟨Ne.symm hj, e⟩
    rcases fact j xs e1 with ⟨rfl, f1, l1⟩ | ⟨n1, f1⟩
    · rcases fact k ys e2 with ⟨rfl, f2, l2⟩ | ⟨n2, f2⟩
      · rfl
      · rw [List.getElem?_set_self (by rw [← h.len]; exact l1)] at e3
        rw [List.getElem?_set_ne (Ne.symm n2)] at e4
        cases e3
        exact absurd rfl (hd _ f1 k ys b f2 n2 e4)
    · rcases fact k ys e2 with ⟨rfl, f2, l2⟩ | ⟨n2, f2⟩
      · rw [List.getElem?_set_self (by rw [← h.len]; exact l2)] at e4
        rw [List.getElem?_set_ne (Ne.symm n1)] at e3
        cases e4
        exact absurd rfl (hd _ f2 j xs b f1 n1 e3)
      · rw [List.getElem?_set_ne (Ne.symm n1)] at e3
        rw [List.getElem?_set_ne (Ne.symm n2)] at e4
        exact h.own j k xs ys b f1 f2 e3 e4
theorem SR.set {G : Glob} {ρ : List Addr} {env : Env} {S : Store} {σ : L2.St} {H : Hp} {i : Nat} {d : D} {x : V} (h : SR G ρ env S σ H) (hs : Rp G.K H x d) : SR G ρ (env.set i (some (.dat d))) S (σ.set i (some x)) H :=
  ⟨h.env.set (s := .dat d) ⟨x, rfl, hs⟩ (fun xs e => nomatch e), h.st, h.tabs⟩
theorem tgU_set {env : Env} {σ : L2.St} {i : Nat} {d : D} {x : V} : TgU [i] env (env.set i (some (.dat d))) σ (σ.set i (some x)) where
  out := fun j hj => by
    have hj : i ≠ j := fun e => hj (by simp [e])
    exact ⟨List.getElem?_set_ne hj, List.getElem?_set_ne hj⟩
  inn := fun j s hj e => by
    have hj : j = i := by simpa using hj
    subst hj
    by_cases hl : j < env.length
    · rw [List.getElem?_set_self hl] at e
      cases e
      exact ⟨d, rfl⟩
    · rw [List.getElem?_eq_none (by rw [List.length_set]; omega)] at e; cases e
  len := ⟨List.length_set, List.length_set⟩
theorem bind_t2 {a b : Tg} {d : D} {env env' : Env} (h : bind1 (.t2 a b) d env = some env') : ∃ x y env1, d = .tuple [x, y] ∧ bind1 a x env = some env1 ∧ bind1 b y env1 = some env' := by
  cases d with
  | tuple l =>
    match l, h with
    | [x, y], h =>
      simp only [bind1, Option.bind_eq_some_iff] at h
      obtain ⟨e1, h1, h2⟩ := h
      exact ⟨x, y, e1, rfl, h1, h2⟩
    | [], h => simp [bind1] at h
    | [_], h => simp [bind1] at h
    | _ :: _ :: _ :: _, h => simp [bind1] at h
  | _ => simp [bind1] at h
theorem bind_t3 {a b c : Tg} {d : D} {env env' : Env} (h : bind1 (.t3 a b c) d env = some env') : ∃ x y z env1 env2, d = .tuple [x, y, z] ∧ bind1 a x env = some env1 ∧ bind1 b y env1 = some env2 ∧ bind1 c z env2 = some env' := by
  cases d with
  | tuple l =>
    match l, h with
    | [x, y, z], h =>
      simp only [bind1, Option.bind_eq_some_iff] at h
      obtain ⟨e2, ⟨e1, h1, h2⟩, h3⟩ := h
      exact ⟨x, y, z, e1, e2, rfl, h1, h2, h3⟩
    | [], h => simp [bind1] at h
    | [_], h => simp [bind1] at h
    | [_, _], h => simp [bind1] at h
    | _ :: _ :: _ :: _ :: _, h => simp [bind1] at h
  | _ => simp [bind1] at h
theorem bind_ok {G : Glob} {ρ : List Addr} {S : Store} {H : Hp} : ∀ (tg : Tg) {env env' : Env} {σ : L2.St} {d : D} {v : V} {Q : L2.St → Hp → Prop}, SR G ρ env S σ H → Rp G.K H v d → bind1 tg d env = some env' →
    (∀ σ', SR G ρ env' S σ' H → TgU (tgIx tg) env env' σ σ' → Q σ' H) → gK G.K tg v σ H Q
  | .nm i, env, env', σ, d, v, Q, sr, r, e, k => by
    have e : some (env.set i (some (.dat d))) = some env' := by rw [← e]; simp only [bind1]
    cases e
    exact k _ (sr.set r) tgU_set
  | .t2 a b, env, env', σ, d, v, Q, sr, r, e, k => by
    obtain ⟨x, y, env1, rfl, e1, e2⟩ := bind_t2 e
    cases r with
    | tup hs ra =>
      cases ra with
      | cons r1 ra =>
        cases ra with
        | cons r2 ra =>
          cases ra
          exact ⟨_, _, rfl, hs, rfl, _, _, rfl, bind_ok a sr r1 e1 fun σ1 sr1 u1 => ⟨_, _, rfl, bind_ok b sr1 r2 e2 fun σ2 sr2 u2 => ⟨rfl, k σ2 sr2 (u1.trans u2)⟩⟩⟩
  | .t3 a b c, env, env', σ, d, v, Q, sr, r, e, k => by
    obtain ⟨x, y, z, env1, env2, rfl, e1, e2, e3⟩ := bind_t3 e
    cases r with
    | tup hs ra =>
      cases ra with
      | cons r1 ra =>
        cases ra with
        | cons r2 ra =>
          cases ra with
          | cons r3 ra =>
            cases ra
            exact ⟨_, _, rfl, hs, rfl, _, _, rfl, bind_ok a sr r1 e1 fun σ1 sr1 u1 => ⟨_, _, rfl, bind_ok b sr1 r2 e2 fun σ2 sr2 u2 => ⟨_, _, rfl, bind_ok c sr2 r3 e3 fun σ3 sr3 u3 => ⟨rfl, k σ3 sr3 ((u1.trans u2).trans u3)⟩⟩⟩⟩
end DL
end

section
/-! Sd7: comprehensions -/
namespace DL
open PySem PySem.Spec PyProof.Rows L2

theorem bnd_ok {α β : Type} {m : M α} {f : α → M β} {S S' : Store} {z : β} (h : DL.bnd m f S = some (.ok z, S')) : ∃ a S1, m S = some (.ok a, S1) ∧ f a S1 = some (.ok z, S') := by
  unfold DL.bnd at h
  split at h
  · cases h
  · exact ⟨_, _, by assumption, h⟩
  · cases h
theorem noerr_ok {α : Type} {m : M α} {S S' : Store} {z : α} (h : noerr m S = some (.ok z, S')) : m S = some (.ok z, S') := by
  unfold noerr at h
  split at h
  · cases h; assumption
  · cases h
theorem lift_ok {α : Type} {o : Option α} {S S' : Store} {r : Res α} (h : DL.lift o S = some (r, S')) : ∃ a, o = some a ∧ r = .ok a ∧ S' = S := by
  cases o with
  | none => cases h
  | some a => cases h; exact ⟨a, rfl, rfl, rfl⟩
/-- no error comes of it -/
def NE {α : Type} (m : M α) : Prop := ∀ S r S', m S = some (r, S') → ∃ a, r = .ok a
theorem NE.noerr {α : Type} (m : M α) : NE (DL.noerr m) := fun S r S' h => by
  unfold DL.noerr at h
  split at h
  · cases h; exact ⟨_, rfl⟩
  · cases h
theorem NE.lift {α : Type} (o : Option α) : NE (DL.lift o) := fun S r S' h => by
  obtain ⟨a, _, h, _⟩ := lift_ok h
  exact ⟨a, h⟩
theorem NE.ret {α : Type} (a : α) : NE (DL.ret a) := fun S r S' h => by
  cases h; exact ⟨_, rfl⟩
theorem NE.bnd {α β : Type} {m : M α} {f : α → M β} (h1 : NE m) (h2 : ∀ a, NE (f a)) : NE (DL.bnd m f) := fun S r S' h => by
  unfold DL.bnd at h
  split at h
  · cases h
  · exact h2 _ _ _ _ h
  · rename_i q
    obtain ⟨_, z⟩ := h1 _ _ _ q
    cases z
theorem compM_ne {env : Env} {tg : Tg} {cd : Env → M Bool} {elt : Env → M D} : ∀ xs : List D, NE (compM env tg cd elt xs)
  | [] => NE.ret _
  | x :: xs => by
    unfold compM
    refine NE.bnd (NE.lift _) fun env' => NE.bnd (NE.noerr _) fun b => ?_
    split
    · exact NE.bnd (NE.noerr _) fun y => NE.bnd (compM_ne xs) fun ys => NE.ret _
    · exact compM_ne xs
/-! ### forgotten slots -/
theorem wipe_get (σ : L2.St) : ∀ (vs : List Nat) (i : Nat), (wipe σ vs)[i]? = if i ∈ vs then (if i < σ.length then some none else none) else σ[i]?
  | [], i => by simp [wipe]
  | v :: vs, i => by
    unfold wipe
    have hl := wipe_length σ vs
    by_cases hv : v = i
    · subst hv
      by_cases hlt : v < σ.length
      · rw [List.getElem?_set_self (by rw [hl]; exact hlt), if_pos (by simp), if_pos hlt]
      · rw [List.getElem?_eq_none (by rw [List.length_set, hl]; omega), if_pos (by simp), if_neg hlt]
    · rw [List.getElem?_set_ne hv, wipe_get σ vs i]
      by_cases hm : i ∈ vs
      · rw [if_pos hm, if_pos (List.mem_cons_of_mem v hm)]
      · rw [if_neg hm, if_neg (fun z => (List.mem_cons.mp z).elim (fun e => hv e.symm) hm)]
theorem wipe_eq {σ σ' : L2.St} {vs : List Nat} (hl : σ'.length = σ.length) (h : ∀ i, i ∉ vs → σ'[i]? = σ[i]?) : wipe σ' vs = wipe σ vs := by
  refine List.ext_getElem? fun i => ?_
  rw [wipe_get, wipe_get, hl]
  by_cases hm : i ∈ vs
  · rw [if_pos hm, if_pos hm]
  · rw [if_neg hm, if_neg hm, h i hm]
theorem EnvR.unset {G : Glob} {ρ : List Addr} {env : Env} {σ : L2.St} {H : Hp} {i : Nat} (h : EnvR G ρ env σ H) : EnvR G ρ (env.set i none) (σ.set i none) H := by
  have fact : ∀ j s, (env.set i none)[j]? = some (some s) → i ≠ j ∧ env[j]? = some (some s) := fun j s e => by
    by_cases hj : i = j
    · subst hj
      by_cases hl : i < env.length
      · rw [List.getElem?_set_self hl] at e; cases e
      · rw [List.getElem?_eq_none (by rw [List.length_set]; omega)] at e; cases e
    · rw [List.getElem?_set_ne hj] at e
      exact ⟨hj, e⟩
  refine ⟨by rw [List.length_set, List.length_set]; exact h.len, fun j s e => ?_, fun j k xs ys b e1 e2 e3 e4 => ?_⟩
  · obtain ⟨hj, e⟩ := fact j s e
    obtain ⟨y, h1, h2⟩ := h.slot j s e
    exact ⟨y, by rw [List.getElem?_set_ne hj]; exact h1, h2⟩
  · obtain ⟨n1, f1⟩ := fact j _ e1
    obtain ⟨n2, f2⟩ := fact k _ e2
    rw [List.getElem?_set_ne n1] at e3
    rw [List.getElem?_set_ne n2] at e4
    exact h.own j k xs ys b f1 f2 e3 e4
theorem EnvR.wipe {G : Glob} {ρ : List Addr} {env : Env} {σ : L2.St} {H : Hp} (h : EnvR G ρ env σ H) : ∀ vs : List Nat, EnvR G ρ (wipeE env vs) (L2.wipe σ vs) H
  | [] => h
  | v :: vs => (EnvR.wipe h vs).unset

abbrev W0 : WX := fun _ _ _ _ => False
section
variable {X : Cx} {exc : Str → Option (Addr × Str)} {T : List (Addr × Str)} {W : WX} {Γ : Ctx}
/-- what follows once the source is known -/
theorem comp_core {G : Glob} {vs : List Nat} {ce : E} {ctg : Tg} {cd : DL.T} {σ : L2.St} {H1 : Hp} {Q : VK} {J : It} {pf : Bool} {Ok : List Addr → Hp → Prop} {ds ys : List D} {ρ1 : List Addr} {env : Env} {S1 Sf : Store} (htg : ∀ i ∈ tgIx ctg, i ∈ vs) (wk : Wk G pf J Ok ds) (ok : Ok ρ1 H1) (sr1 : SR G ρ1 env S1 σ H1)
    (ec0 : compM (wipeE env vs) ctg (evT Γ cd) (evE Γ ce) ds S1 = some (.ok ys, Sf)) (fin : ∀ x ρ' H', Ext G ρ1 H1 ρ' H' → StR G ρ' Sf H' → NewR G H1 ρ' H' x (.list ys) → Q x H') :
    ∀ Dl, H1 Dl = none → ∃ W : Nat → Nat → Hp → Prop, (∃ m, W 0 m (upd H1 Dl (.lst []))) ∧ ∀ i m H, W i m H →
      (J.stop i H ∧ Q (.ref Dl) H) ∨ (J.go i H ∧ ∃ Nx : Hp → Prop, (∀ H', Nx H' → ∃ m', m' < m ∧ W (i + 1) m' H') ∧ ∀ x H', J.yld i H x H' → gK G.K ctg x (L2.wipe σ vs) H' fun σ2 H2 => L2.wipe σ2 vs = L2.wipe σ vs ∧ tT G W0 Γ cd σ2 H2 fun b H3 =>
        if b = true then tE G W0 .pers Γ ce σ2 H3 fun y H4 => ∃ acc, H4 Dl = some (.lst acc) ∧ acc.length < sizeLine ∧ Nx (upd H4 Dl (.lst (acc ++ [y]))) else Nx H3) := by
  intro Dl hD
  refine ⟨fun i m H2 => m = ds.length - i ∧ i ≤ ds.length ∧ ∃ ρ2 S2 acc accD ys', Ext G ρ1 H1 ρ2 H2 ∧ StR G ρ2 S2 H2 ∧ H2 Dl = some (.lst acc) ∧ Dl ∉ ρ2 ∧ RpAll G.K H2 acc accD ∧
      compM (wipeE env vs) ctg (evT Γ cd) (evE Γ ce) (ds.drop i) S2 = some (.ok ys', Sf) ∧ accD ++ ys' = ys ∧ acc.length ≤ i,
    ⟨ds.length, by simp, Nat.zero_le _, ρ1, S1, [], [], ys, Ext.upd hD, sr1.st.grow (grow_upd hD), upd_same, sr1.st.fresh hD, .nil, ec0, rfl, Nat.zero_le _⟩, ?_⟩
  rintro i m H2 ⟨rfl, hi, ρ2, S2, acc, accD, ys', ex, st, hDl, hDn, ra, ec, eq, hal⟩
  have ok2 := wk.ext _ _ _ _ ex ok
  by_cases hlt : i < ds.length
  · refine .inr ⟨wk.go ρ2 i H2 hlt ok2, fun H' => ∃ ρ2 S2 acc accD ys', Ext G ρ1 H1 ρ2 H' ∧ StR G ρ2 S2 H' ∧ H' Dl = some (.lst acc) ∧ Dl ∉ ρ2 ∧ RpAll G.K H' acc accD ∧
      compM (wipeE env vs) ctg (evT Γ cd) (evE Γ ce) (ds.drop (i + 1)) S2 = some (.ok ys', Sf) ∧ accD ++ ys' = ys ∧ acc.length ≤ i + 1, fun H' p => ⟨ds.length - (i + 1), by omega, rfl, hlt, p⟩, fun x H3 y => ?_⟩
    obtain ⟨g3, d, hd, rx⟩ := wk.yld ρ2 i H2 x H3 hlt ok2 y
    have ed : ds.drop i = d :: ds.drop (i + 1) := by
      obtain ⟨h1, h2⟩ := List.getElem?_eq_some_iff.mp hd
      rw [List.drop_eq_getElem_cons h1, h2]
    rw [ed] at ec
    unfold compM at ec
    obtain ⟨env', S2', l1, ec1⟩ := bnd_ok ec
    obtain ⟨env'', l2, l3, l4⟩ := lift_ok l1
    cases l3
    subst l4
    obtain ⟨b, S4, c0, ec2⟩ := bnd_ok ec1
    have c1 := noerr_ok c0
    have e3 : Ext G ρ1 H1 ρ2 H3 := ex.trans (.grow g3)
    have st3 := st.grow g3
    have sw : SR G ρ2 (wipeE env vs) S2' (L2.wipe σ vs) H3 := ⟨(sr1.env.ext e3).wipe vs, st3, e3.tabs sr1.tabs⟩
    refine bind_ok ctg sw rx l2 fun σ2 sr2 u2 => ⟨?_, ?_⟩
    · refine (wipe_eq u2.len.2 fun j hj => (u2.out j fun hm => hj (htg j hm)).2).trans ?_
      exact wipe_eq (wipe_length _ _) fun j hj => by rw [wipe_get, if_neg hj]
    · refine ⟨ρ2, env', S2', sr2, .ok b, S4, c1, fun b' ρ4 H4 e4 st4 eb => ?_⟩
      cases (show b' = b from eb)
      have e24 : Ext G ρ2 H2 ρ4 H4 := Ext.trans (.grow g3) e4
      have nt : ∀ ps, HO.lst acc ≠ .tbl ps := fun _ z => nomatch z
      cases b with
      | false =>
        rw [if_neg (by decide)]
        have hDn4 : Dl ∉ ρ4 := fun hm => by exact (e24.new _ hm hDn).lst hDl
        exact ⟨ρ4, S4, acc, accD, ys', ex.trans e24, st4, e24.keep _ _ hDl nt hDn, hDn4, ra.mono e24.per, ec2, eq, by omega⟩
      | true =>
        rw [if_pos rfl]
        obtain ⟨yv, S5, c20, ec3⟩ := bnd_ok ec2
        have c2 := noerr_ok c20
        obtain ⟨ys2, S6, c3, ec4⟩ := bnd_ok ec3
        cases ec4
        refine ⟨ρ4, env', S4, sr2.ext e4 st4, .ok yv, S5, c2, fun v ρ5 H5 e5 st5 rv => ?_⟩
        have e25 : Ext G ρ2 H2 ρ5 H5 := e24.trans e5
        have hD5 : H5 Dl = some (.lst acc) := e25.keep _ _ hDl nt hDn
        have hDn5 : Dl ∉ ρ5 := fun hm => by exact (e25.new _ hm hDn).lst hDl
        have hlen := wk.len
        refine ⟨acc, hD5, by omega, ρ5, S5, acc ++ [v], accD ++ [yv], ys2, Ext.mut (ex.trans e25) hD5 (.inl (NoV.of hD)) (fun _ z => nomatch z), StR.mut st5 hD5 hDn5, upd_same, hDn5, (RpAll.snoc (ra.mono e25.per) rv).mono (per_mut hD5), c3, by rw [← eq]; simp, by simp; omega⟩
  · have e : i = ds.length := by omega
    subst e
    refine .inl ⟨wk.stop ρ2 H2 ok2, ?_⟩
    rw [List.drop_length] at ec
    have ec5 : some (Res.ok ([] : List D), S2) = some (.ok ys', Sf) := ec
    cases ec5
    rw [List.append_nil] at eq
    subst eq
    exact fin _ ρ2 H2 ex st ⟨Dl, acc, rfl, NoV.of hD, hDn, hDl, ra⟩
theorem comp_at {G : Glob} {vs : List Nat} {ce : E} {ctg : Tg} {src : DL.I} {cd : DL.T} {σ : L2.St} {H : Hp} {Q : VK} (htg : ∀ i ∈ tgIx ctg, i ∈ vs) (h : tE G W .new Γ (.comp vs ce ctg src cd) σ H Q) :
    tLc (tI G W false Γ src) (gK G.K ctg) (tT G W0 Γ cd) (tE G W0 .pers Γ ce) vs σ H Q := by
  obtain ⟨ρ, env, S, h⟩ := h
  have h : At G W (RR G .new) ρ env S σ H (DL.bnd (evI Γ src env) fun xs => DL.bnd (compM (wipeE env vs) ctg (evT Γ cd) (evE Γ ce) xs) fun ys => DL.ret (.list ys)) Q := h
  refine At.tm (c := evI Γ src) (At.mono (At.bnd (anti_RR _ .new) (Rel1 := WR _ false) h) fun J H1 q => ?_)
  obtain ⟨ρ1, ds, S1, e1, ⟨Ok, wk, ok⟩, sr1, r, Sf, ev, fin⟩ := q
  have hys : ∃ ys, compM (wipeE env vs) ctg (evT Γ cd) (evE Γ ce) ds S1 = some (.ok ys, Sf) ∧ r = .ok (.list ys) := by
    unfold DL.bnd at ev
    split at ev
    · cases ev
    · cases ev; exact ⟨_, by assumption, rfl⟩
    · rename_i q
      obtain ⟨_, z⟩ := compM_ne _ _ _ _ q
      cases z
  obtain ⟨ys, ec0, rfl⟩ := hys
  exact comp_core htg wk ok sr1 ec0 fin
theorem se_comp {elt tg iter : Expr} {ifs : List Expr} {scope : Scope} {own : List (Str × Nat)} {pos : Pos} {ce : E} {ctg : Tg} {src : DL.I} {cd : DL.T} (hc : X.calm = true) (hN : X.N.Nodup) (hi : PI X tg iter (tI (gl X exc T) W false Γ src)) (ok : BlkOk X.N X.env.scope scope own)
    (hg : ∀ (s : Shared) (H : Hp) (C : Addr) (cl : List (Str × Addr)) (fp : List Addr), PG (X.blk s H scope (compEnvC scope cl C X.env) fp) tg (gK X.K ctg)) (ht : ∀ (s : Shared) (H : Hp) (C : Addr) (cl : List (Str × Addr)) (fp : List Addr), PTs (X.blk s H scope (compEnvC scope cl C X.env) fp) ifs (tT (gl X exc T) W0 Γ cd))
    (he : ∀ (s : Shared) (H : Hp) (C : Addr) (cl : List (Str × Addr)) (fp : List Addr), PE (X.blk s H scope (compEnvC scope cl C X.env) fp) elt (tE (gl X exc T) W0 .pers Γ ce)) (hs : ∀ x, foldedSetIterable iter X.env x = pure x) (htg : ∀ i ∈ tgIx ctg, i ∈ own.map (·.2)) :
    SE X exc T W Γ .new (.ListComp elt [⟨tg, iter, ifs, 0⟩] scope pos) (.comp (own.map (·.2)) ce ctg src cd) :=
  PE.imp (pe_lc hc hN hi ok hg ht he hs) fun σ H Q h => comp_at htg h
theorem pts_yes : PTs X [] (tT (gl X exc T) W Γ .yes) := ⟨fun pins s σ H Q I ⟨ρ, env, S, h⟩ => pts_nil.run pins s σ H Q I (At.retNow (d := true) h rfl)⟩
end
end DL
end

section
/-! Sd8: statements -/
namespace DL
open PySem PySem.Spec PyProof.Rows L2

def seqF (Γ : Ctx) (r : Ss) : Fl → M Fl
  | .next e => evSs Γ r e
  | .cont e => DL.ret (.cont e)
  | .brk e => DL.ret (.brk e)
  | .ret v => DL.ret (.ret v)
theorem evSs_cons (Γ : Ctx) (s : DL.S) (r : Ss) (env : Env) : evSs Γ (.cons s r) env = DL.bnd (evS Γ s env) (seqF Γ r) := by
  rw [evSs]
  congr 1
structure SRB (G : Glob) (ρ0 : List Addr) (H0 : Hp) (ρ : List Addr) (env : Env) (S : Store) (σ : L2.St) (H : Hp) : Prop where
  sr : SR G ρ env S σ H
  ex : Ext G ρ0 H0 ρ H
  own : ∀ (i : Nat) (xs : List D) (a : Addr), env[i]? = some (some (.own xs)) → σ[i]? = some (some (.ref a)) → NoV H0 a
def FinS (G : Glob) (W : WX) (ρ0 : List Addr) (H0 H : Hp) (r : Res Fl) (S' : Store) (Dn : Ends) : Prop :=
  match r with
  | .ok (.next env') => ∀ σ' ρ' H', SRB G ρ0 H0 ρ' env' S' σ' H' → Per H H' → Dn.nx σ' H'
  | .ok (.brk env') => ∀ σ' ρ' H', SRB G ρ0 H0 ρ' env' S' σ' H' → Per H H' → Dn.bk σ' H'
  | .ok (.cont env') => ∀ σ' ρ' H', SRB G ρ0 H0 ρ' env' S' σ' H' → Per H H' → Dn.ct σ' H'
  | .ok (.ret v) => ∀ x ρ' H', Ext G ρ0 H0 ρ' H' → StR G ρ' S' H' → AvR G ρ' H' x v → Dn.rt x H'
  | .err cls y => ∃ C fld, G.exc cls = some (C, fld) ∧ ∀ σ' b v ρ' H', Ext G ρ0 H0 ρ' H' → StR G ρ' S' H' → H' b = some (.xd [(fld, v)]) → Rp G.K H' v y → W (.ref C) (some b) σ' H'
def AtS (G : Glob) (W : WX) (ρ0 : List Addr) (H0 : Hp) (ρ : List Addr) (env : Env) (S : Store) (σ : L2.St) (H : Hp) (m : M Fl) (Dn : Ends) : Prop :=
  SRB G ρ0 H0 ρ env S σ H ∧ ∃ r S', m S = some (r, S') ∧ FinS G W ρ0 H0 H r S' Dn
def tS (G : Glob) (W : WX) (ρ0 : List Addr) (H0 : Hp) (c : Env → M Fl) : TS := fun Dn σ H => ∃ ρ env S, AtS G W ρ0 H0 ρ env S σ H (c env) Dn
section
variable {G : Glob} {W : WX} {ρ0 ρ ρ1 : List Addr} {H0 H H1 : Hp} {env : Env} {S S1 : Store} {σ : L2.St} {Dn : Ends} {r : Res Fl}
theorem FinS.move (p : Per H H1) (h : FinS G W ρ0 H0 H r S Dn) : FinS G W ρ0 H0 H1 r S Dn := by
  cases r with
  | ok f =>
    cases f with
    | next e => exact fun σ' ρ' H' a b => h σ' ρ' H' a (p.trans b)
    | brk e => exact fun σ' ρ' H' a b => h σ' ρ' H' a (p.trans b)
    | cont e => exact fun σ' ρ' H' a b => h σ' ρ' H' a (p.trans b)
    | ret v => exact h
  | err c y => exact h
theorem SRB.ext (h : SRB G ρ0 H0 ρ env S σ H) (e : Ext G ρ H ρ1 H1) (st : StR G ρ1 S1 H1) : SRB G ρ0 H0 ρ1 env S1 σ H1 := ⟨h.sr.ext e st, h.ex.trans e, h.own⟩
theorem AtS.bndE {γ δ : Type} {Rel1 : RelT δ γ} {m : M γ} {f : γ → M Fl} (h : AtS G W ρ0 H0 ρ env S σ H (DL.bnd m f) Dn) :
    At G W Rel1 ρ env S σ H m (fun x H1 => ∃ ρ1 d S1, Ext G ρ H ρ1 H1 ∧ Rel1 H ρ1 H1 x d ∧ AtS G W ρ0 H0 ρ1 env S1 σ H1 (f d) Dn) := by
  obtain ⟨sr, r, S', e, fin⟩ := h
  refine ⟨sr.sr, ?_⟩
  unfold DL.bnd at e
  cases q : m S with
  | none => rw [q] at e; cases e
  | some p =>
    obtain ⟨r1, S1⟩ := p
    rw [q] at e
    cases r1 with
    | ok d => exact ⟨.ok d, S1, rfl, fun x ρ1 H1 ex st rel => ⟨ρ1, d, S1, ex, rel, sr.ext ex st, r, S', e, fin.move ex.per⟩⟩
    | err c y =>
      cases e
      obtain ⟨C, fld, hc, g⟩ := fin
      exact ⟨.err c y, _, rfl, C, fld, hc, fun b v ρ' H' ex st hb hv => g σ b v ρ' H' (sr.ex.trans ex) st hb hv⟩
theorem AtS.bndLift {γ : Type} {o : Option γ} {f : γ → M Fl} (h : AtS G W ρ0 H0 ρ env S σ H (DL.bnd (DL.lift o) f) Dn) : ∃ d, o = some d ∧ AtS G W ρ0 H0 ρ env S σ H (f d) Dn := by
  obtain ⟨sr, r, S', e, fin⟩ := h
  cases o with
  | none => cases e
  | some d => exact ⟨d, rfl, sr, r, S', e, fin⟩
theorem AtS.next {env' : Env} (h : AtS G W ρ0 H0 ρ env S σ H (DL.ret (.next env')) Dn) : ∀ σ' ρ' H', SRB G ρ0 H0 ρ' env' S σ' H' → Per H H' → Dn.nx σ' H' := by
  obtain ⟨sr, r, S', e, fin⟩ := h
  cases e
  exact fin
theorem SRB.tgU {env' : Env} {σ' : L2.St} {ix : List Nat} (h : SRB G ρ0 H0 ρ env S σ H) (s : SR G ρ env' S σ' H) (u : TgU ix env env' σ σ') : SRB G ρ0 H0 ρ env' S σ' H := ⟨s, h.ex, fun i xs a e1 e2 => by
  by_cases hi : i ∈ ix
  · obtain ⟨d, e⟩ := u.inn i _ hi e1
    cases e
  · rw [(u.out i hi).1] at e1
    rw [(u.out i hi).2] at e2
    exact h.own i xs a e1 e2⟩
/-- what is stored in a slot -/
def SlN (G : Glob) : RelT V Slot := fun H ρ' H' x s => match s with
  | .dat d => Rp G.K H' x d
  | .own xs => ∃ a vs, x = .ref a ∧ NoV H a ∧ a ∉ ρ' ∧ H' a = some (.lst vs) ∧ RpAll G.K H' vs xs
  | .cel r => ∃ a, x = .ref a ∧ ρ'[r]? = some a
theorem anti_SlN (G : Glob) : Anti (SlN G) := by
  intro H H1 ρ' H' x s k h
  cases s with
  | dat d => exact h
  | cel r => exact h
  | own xs =>
    obtain ⟨a, vs, h1, h2, h3⟩ := h
    exact ⟨a, vs, h1, k a h2, h3⟩
theorem SlN.slot {x : V} {s : Slot} (h : SlN G H ρ1 H1 x s) : SlotR G ρ1 H1 (some x) s := by
  cases s with
  | dat d => exact ⟨x, rfl, h⟩
  | cel r => obtain ⟨a, h1, h2⟩ := h; exact ⟨a, by rw [h1], h2⟩
  | own xs => obtain ⟨a, vs, h1, h2, h3, h4, h5⟩ := h; exact ⟨a, vs, by rw [h1], h4, h5, h3⟩
/-- a slot is stored: what was made since H -/
theorem SRB.put {i : Nat} {x : V} {s : Slot} (h0 : SRB G ρ0 H0 ρ env S σ H) (e : Ext G ρ H ρ1 H1) (st : StR G ρ1 S1 H1) (hs : SlN G H ρ1 H1 x s) : SRB G ρ0 H0 ρ1 (env.set i (some s)) S1 (σ.set i (some x)) H1 := by
  have h := h0.ext e st
  refine ⟨⟨h.sr.env.set hs.slot fun xs es j ys b e1 hj e2 => ?_, h.sr.st, h.sr.tabs⟩, h.ex, fun j xs a e1 e2 => ?_⟩
  · subst es
    obtain ⟨a, vs, h1, h2, _⟩ := hs
    subst h1
    intro z
    cases z
    obtain ⟨y, g1, c, g2, g3, g4, _⟩ := h0.sr.env.slot j _ e1
    rw [e2] at g1
    cases g1
    cases g3
    exact h2.lst g4
  · by_cases hj : i = j
    · subst hj
      have hl : i < env.length := by
        by_cases hl : i < env.length
        · exact hl
        · rw [List.getElem?_eq_none (by rw [List.length_set]; omega)] at e1; cases e1
      rw [List.getElem?_set_self hl] at e1
      cases e1
      rw [List.getElem?_set_self (by rw [← h.sr.env.len]; exact hl)] at e2
      cases e2
      obtain ⟨a', vs, h1, h2, _⟩ := hs
      cases h1
      exact h0.ex.there a h2
    · rw [List.getElem?_set_ne hj] at e1 e2
      exact h.own j xs a e1 e2
end
theorem PSs.imp {X : Cx} {p : List Stmt} {t t' : TS} (h : PSs X p t) (k : ∀ Dn σ H, t' Dn σ H → t Dn σ H) : PSs X p t' := ⟨fun pins s σ H Dn I q => h.run pins s σ H Dn I (k Dn σ H q)⟩
theorem PS.imp {X : Cx} {p : Stmt} {t t' : TS} (h : PS X p t) (k : ∀ Dn σ H, t' Dn σ H → t Dn σ H) : PS X p t' := ⟨fun pins s σ H Dn I q => h.run pins s σ H Dn I (k Dn σ H q)⟩
section
variable {X : Cx} {exc : Str → Option (Addr × Str)} {T : List (Addr × Str)} {W : WX} {Γ : Ctx} {ρ0 : List Addr} {H0 : Hp} {p a b : Expr} {e ea eb : E} {pos px py : Pos}
abbrev S1 (X : Cx) (exc : Str → Option (Addr × Str)) (T : List (Addr × Str)) (W : WX) (Γ : Ctx) (ρ0 : List Addr) (H0 : Hp) (p : Stmt) (s : DL.S) : Prop := PS X p (tS (gl X exc T) W ρ0 H0 (evS Γ s))
abbrev SSs (X : Cx) (exc : Str → Option (Addr × Str)) (T : List (Addr × Str)) (W : WX) (Γ : Ctx) (ρ0 : List Addr) (H0 : Hp) (p : List Stmt) (s : DL.Ss) : Prop := PSs X p (tS (gl X exc T) W ρ0 H0 (evSs Γ s))
theorem ss_nil : SSs X exc T W Γ ρ0 H0 [] .nil := PSs.imp pss_nil fun Dn σ H ⟨ρ, env, S, h⟩ => AtS.next (env' := env) h σ ρ H h.1 (Per.refl H)
theorem ss_cons {st : Stmt} {rest : List Stmt} {s : DL.S} {r : DL.Ss} (h1 : S1 X exc T W Γ ρ0 H0 st s) (h2 : SSs X exc T W Γ ρ0 H0 rest r) : SSs X exc T W Γ ρ0 H0 (st :: rest) (.cons s r) :=
  PSs.imp (pss_cons h1 h2) fun Dn σ H ⟨ρ, env, S, h⟩ => by
    obtain ⟨sr, rr, S', ev, fin⟩ := h
    rw [evSs_cons] at ev
    refine ⟨ρ, env, S, sr, ?_⟩
    unfold DL.bnd at ev
    cases q : evS Γ s env S with
    | none => rw [q] at ev; cases ev
    | some p =>
      obtain ⟨r1, Sa⟩ := p
      rw [q] at ev
      cases r1 with
      | err c y => cases ev; exact ⟨.err c y, _, rfl, fin⟩
      | ok f =>
        cases f with
        | next env1 => exact ⟨.ok (.next env1), Sa, rfl, fun σ' ρ' H' sr' pr => ⟨ρ', env1, Sa, sr', rr, S', ev, fin.move pr⟩⟩
        | brk env1 =>
          have ev : some (Res.ok (Fl.brk env1), Sa) = some (rr, S') := ev
          cases ev
          exact ⟨.ok (.brk env1), _, rfl, fin⟩
        | cont env1 =>
          have ev : some (Res.ok (Fl.cont env1), Sa) = some (rr, S') := ev
          cases ev
          exact ⟨.ok (.cont env1), _, rfl, fin⟩
        | ret v =>
          have ev : some (Res.ok (Fl.ret v), Sa) = some (rr, S') := ev
          cases ev
          exact ⟨.ok (.ret v), _, rfl, fin⟩
/-- an own list is locked for good: no statement of the text -/
theorem ss_frz {body : List Stmt} {i : Nat} {r : DL.Ss} (h : SSs X exc T W Γ ρ0 H0 body r) : SSs X exc T W Γ ρ0 H0 body (.cons (.frz i) r) := by
  refine ⟨fun pins s σ H Dn I q => ?_⟩
  obtain ⟨ρ, env, S, sr, rr, S', ev, fin⟩ := q
  rw [evSs_cons] at ev
  have ev : DL.bnd (DL.bnd (DL.lift (getO env i)) fun xs => DL.ret (Fl.next (env.set i (some (.dat (.list xs)))))) (seqF Γ r) S = some (rr, S') := by
    rw [← ev, evS]
  cases q : getO env i with
  | none => rw [q] at ev; cases ev
  | some xs =>
    rw [q] at ev
    have ev : evSs Γ r (env.set i (some (.dat (.list xs)))) S = some (rr, S') := ev
    unfold getO at q
    split at q
    · rename_i z
      cases q
      obtain ⟨x', h1, a, vs, h2, h3, h4, h5⟩ := sr.sr.env.slot i _ z
      subst h2
      obtain ⟨od, I2⟩ := I.lock h3 trivial
      have hp : Per H (upd H a (.frz od (.lst vs))) := per_mut h3
      have h0 := sr.own i xs a z h1
      have hil : i < env.length := (List.getElem?_eq_some_iff.mp z).1
      refine h.run pins s σ _ Dn I2 ⟨ρ, _, S, ⟨⟨⟨by rw [List.length_set]; exact sr.sr.env.len, fun j s' e => ?_, fun j k ys zs b e1 e2 e3 e4 => ?_⟩, sr.sr.st.mut h3 h5, tabs_frz h3 sr.sr.tabs⟩, sr.ex.mut h3 (.inl h0) (fun _ z => nomatch z), fun j ys b e1 e2 => ?_⟩, rr, S', ev, fin.move hp⟩
      · by_cases hj : i = j
        · subst hj
          rw [List.getElem?_set_self hil] at e
          cases e
          exact ⟨_, h1, .ref a, rfl, .lst (.inl ⟨od, upd_same⟩) (h4.mono hp)⟩
        · rw [List.getElem?_set_ne hj] at e
          obtain ⟨y, g1, g2⟩ := sr.sr.env.slot j s' e
          refine ⟨y, g1, ?_⟩
          cases s' with
          | dat d => obtain ⟨v, w1, w2⟩ := g2; exact ⟨v, w1, w2.mono hp⟩
          | cel c => exact g2
          | own ys =>
            obtain ⟨b, ws, w1, w2, w3, w4⟩ := g2
            subst w1
            have nb : b ≠ a := fun z2 => hj (sr.sr.env.own i j xs ys a z e h1 (by rw [← z2]; exact g1))
            exact ⟨b, ws, rfl, by rw [upd_ne nb]; exact w2, w3.mono hp, w4⟩
      · have f : ∀ (j : Nat) (ys : List D), (env.set i (some (Slot.dat (.list xs))))[j]? = some (some (Slot.own ys)) → env[j]? = some (some (Slot.own ys)) := fun j ys e => by
          by_cases hj : i = j
          · subst hj; rw [List.getElem?_set_self hil] at e; cases e
          · rw [List.getElem?_set_ne hj] at e; exact e
        exact sr.sr.env.own j k ys zs b (f j ys e1) (f k zs e2) e3 e4
      · by_cases hj : i = j
        · subst hj; rw [List.getElem?_set_self hil] at e1; cases e1
        · rw [List.getElem?_set_ne hj] at e1; exact sr.own j ys b e1 e2
    · cases q
/-! ### right-hand sides -/
abbrev SR' (X : Cx) (exc : Str → Option (Addr × Str)) (T : List (Addr × Str)) (W : WX) (Γ : Ctx) (p : Expr) (r : DL.R) : Prop := PE X p (tM (gl X exc T) W (SlN (gl X exc T)) (evR Γ r))
theorem sr_e (h : SE X exc T W Γ .pers p e) : SR' X exc T W Γ p (.e e) := PE.imp h fun σ H Q ⟨ρ, env, S, q⟩ => by
  have q : At (gl X exc T) W (SlN _) ρ env S σ H (DL.bnd (evE Γ e env) fun x => DL.ret (.dat x)) Q := q
  refine At.tm (c := evE Γ e) (At.mono (At.bnd (anti_SlN _) (Rel1 := RR _ .pers) q) fun x H1 q => ?_)
  obtain ⟨ρ1, d, S1, e1, r1, h1⟩ := q
  exact h1.retNow (d := Slot.dat d) r1
theorem sr_own (h : SE X exc T W Γ .new p e) : SR' X exc T W Γ p (.own e) := PE.imp h fun σ H Q ⟨ρ, env, S, q⟩ => by
  have q : At (gl X exc T) W (SlN _) ρ env S σ H (DL.bnd (evE Γ e env) fun x => match x with
      | .list xs => DL.ret (.own xs)
      | _ => DL.fail) Q := q
  obtain ⟨sr, rr, S', ev, fin⟩ := q
  refine At.tm (c := evE Γ e) ⟨sr, ?_⟩
  unfold DL.bnd at ev
  cases q : evE Γ e env S with
  | none => rw [q] at ev; cases ev
  | some p =>
    obtain ⟨r1, Sa⟩ := p
    rw [q] at ev
    cases r1 with
    | err c y => cases ev; exact ⟨.err c y, _, rfl, fin⟩
    | ok d =>
      cases d with
      | list xs =>
        have ev : some (Res.ok (Slot.own xs), Sa) = some (rr, S') := ev
        cases ev
        exact ⟨.ok (.list xs), _, rfl, fun x ρ' H' e1 st rel => fin x ρ' H' e1 st rel⟩
      | _ => cases ev
theorem sr_cel {ps : List Expr} {es : Es} (h : SEs X exc T W Γ ps es) (hl : esLen es ≤ 1000) : SR' X exc T W Γ (.List ps pos) (.cel es) := PE.imp (pe_lst h) fun σ H Q ⟨ρ, env, S, q⟩ => by
  have q : At (gl X exc T) W (SlN _) ρ env S σ H (DL.bnd (evEs Γ es env) fun xs => DL.bnd (celNew xs) fun r => DL.ret (.cel r)) Q := q
  refine At.tm (c := evEs Γ es) (At.mono (At.bnd (anti_SlN _) (Rel1 := AllN _ (esLen es)) q) fun xs H1 q => ?_)
  obtain ⟨ρ1, ds, Sa, e1, r1, sr1, rr, S', ev, fin⟩ := q
  refine ⟨by rw [r1.2, sizeLine_eq]; omega, fun p hp => ?_⟩
  have ev : some (Res.ok (Slot.cel Sa.length), Sa ++ [.lst ds]) = some (rr, S') := ev
  cases ev
  have nm : p ∉ ρ1 := sr1.st.fresh hp
  have pm : Per H1 (upd H1 p (.lst xs)) := Per.of (grow_upd hp)
  refine fin (.ref p) (ρ1 ++ [p]) _ ⟨⟨[p], rfl⟩, fun b u hb _ _ => grow_upd hp b u hb, fun b hb hn => ?_, (Ext.upd (G := gl X exc T) (ρ := ρ1) hp).there, pm, (Ext.upd (G := gl X exc T) (ρ := ρ1) hp).tabs⟩ ⟨?_, ?_, fun i ys hi => ?_⟩ ⟨p, rfl, ?_⟩
  · rcases List.mem_append.mp hb with z | z
    · exact absurd z hn
    · rw [List.mem_singleton.mp z]; exact NoV.of hp
  · rw [List.length_append, List.length_append, sr1.st.len]; rfl
  · rw [List.nodup_append]
    exact ⟨sr1.st.nd, by simp, fun x hx y hy => by rw [List.mem_singleton.mp hy]; exact fun z => nm (z ▸ hx)⟩
  · by_cases hlt : i < Sa.length
    · rw [List.getElem?_append_left hlt] at hi
      obtain ⟨c, vs, g1, g2, g3⟩ := sr1.st.at_ i ys hi
      exact ⟨c, vs, by rw [List.getElem?_append_left (by rw [← sr1.st.len]; exact hlt)]; exact g1, grow_upd hp _ _ g2, g3.mono pm⟩
    · rw [List.getElem?_append_right (by omega)] at hi
      have hz : i - Sa.length = 0 := by
        cases q : i - Sa.length with
        | zero => rfl
        | succ n => rw [q] at hi; cases hi
      rw [hz] at hi
      cases hi
      have hi : i = ρ1.length := by have := sr1.st.len; omega
      subst hi
      exact ⟨p, xs, by rw [List.getElem?_append_right (Nat.le_refl _)]; simp, upd_same, r1.1.mono pm⟩
  · rw [sr1.st.len, List.getElem?_append_right (Nat.le_refl _)]; simp
/-- name = .. -/
theorem asg_at {G : Glob} {r : DL.R} {i : Nat} {Dn : Ends} {σ : L2.St} {H : Hp} (h : tS G W ρ0 H0 (evS Γ (.set i r)) Dn σ H) : tAsg (tM G W (SlN G) (evR Γ r)) (gName i) Dn σ H := by
  obtain ⟨ρ, env, S, h⟩ := h
  have sr := h.1
  have h : AtS G W ρ0 H0 ρ env S σ H (DL.bnd (evR Γ r env) fun s => DL.ret (.next (env.set i (some s)))) Dn := h
  refine At.tm (c := evR Γ r) (At.mono (AtS.bndE (Rel1 := SlN G) h) fun x H1 q => ?_)
  obtain ⟨ρ1, d, S1, e1, r1, h1⟩ := q
  exact h1.next _ ρ1 H1 (sr.put e1 h1.1.sr.st r1) (Per.refl H1)
def notComp : Expr → Bool
  | .ListComp .. => false
  | .SetComp .. => false
  | .DictComp .. => false
  | _ => true
theorem swaps_no {p : Expr} (h : notComp p = true) (t : Option Expr) (l : Nat) (env : PySem.Env) : swapsWith p t l env = pure false := by
  cases p <;> first | rfl | cases h
theorem s_set {x : Str} {i : Nat} {r : DL.R} (hN : X.N.Nodup) (hi : X.N[i]? = some x) (hx : Loc X.env.scope x) (hf : X.fn x = true ∨ X.env.scope.names.lookup x = some .local) (he : SR' X exc T W Γ p r) (hs : swapsWith p (some (.Name x px)) pos.line X.env = pure false) :
    S1 X exc T W Γ ρ0 H0 (.Assign [.Name x px] p pos) (.set i r) :=
  PS.imp (ps_asg he (pg_name hN hi hx hf) hs rfl) fun Dn σ H h => asg_at h
end
end DL
end

section
/-! Sd9: more statements -/
namespace DL
open PySem PySem.Spec PyProof.Rows L2

section
variable {G : Glob} {W : WX} {ρ0 ρ ρ1 : List Addr} {H0 H H1 : Hp} {env : Env} {S Sa : Store} {σ : L2.St} {Dn : Ends}
theorem SRB.mutOwn {i : Nat} {xs ys : List D} {a : Addr} {vs ws : List V} (h : SRB G ρ0 H0 ρ env S σ H) (z : env[i]? = some (some (.own xs))) (h1 : σ[i]? = some (some (.ref a))) (h3 : H a = some (.lst vs)) (hw : RpAll G.K H ws ys) :
    SRB G ρ0 H0 ρ (env.set i (some (.own ys))) S σ (upd H a (.lst ws)) ∧ Per H (upd H a (.lst ws)) := by
  have hp : Per H (upd H a (.lst ws)) := per_mut h3
  have h0 := h.own i xs a z h1
  have hil : i < env.length := (List.getElem?_eq_some_iff.mp z).1
  have hna : a ∉ ρ := by
    obtain ⟨x', g1, c, us, g2, g3, g4, g5⟩ := h.sr.env.slot i _ z
    rw [h1] at g1
    cases g1
    cases g2
    exact g5
  have f : ∀ (j : Nat) (zs : List D), (env.set i (some (Slot.own ys)))[j]? = some (some (Slot.own zs)) → ∃ zs', env[j]? = some (some (Slot.own zs')) := fun j zs e => by
    by_cases hj : i = j
    · subst hj; exact ⟨xs, z⟩
    · rw [List.getElem?_set_ne hj] at e; exact ⟨zs, e⟩
  refine ⟨⟨⟨⟨by rw [List.length_set]; exact h.sr.env.len, fun j s' e => ?_, fun j k us zs b e1 e2 e3 e4 => ?_⟩, h.sr.st.mut h3 hna, tabs_frz h3 h.sr.tabs⟩, h.ex.mut h3 (.inl h0) (fun _ z => nomatch z), fun j us b e1 e2 => ?_⟩, hp⟩
  · by_cases hj : i = j
    · subst hj
      rw [List.getElem?_set_self hil] at e
      cases e
      exact ⟨_, h1, a, ws, rfl, upd_same, hw.mono hp, hna⟩
    · rw [List.getElem?_set_ne hj] at e
      obtain ⟨y, g1, g2⟩ := h.sr.env.slot j s' e
      refine ⟨y, g1, ?_⟩
      cases s' with
      | dat d => obtain ⟨v, w1, w2⟩ := g2; exact ⟨v, w1, w2.mono hp⟩
      | cel c => exact g2
      | own us =>
        obtain ⟨b, ts, w1, w2, w3, w4⟩ := g2
        subst w1
        have nb : b ≠ a := fun z2 => hj (h.sr.env.own i j xs us a z e h1 (by rw [← z2]; exact g1))
        exact ⟨b, ts, rfl, by rw [upd_ne nb]; exact w2, w3.mono hp, w4⟩
  · obtain ⟨_, f1⟩ := f j us e1
    obtain ⟨_, f2⟩ := f k zs e2
    exact h.sr.env.own j k _ _ b f1 f2 e3 e4
  · obtain ⟨_, f1⟩ := f j us e1
    exact h.own j _ b f1 e2
theorem SRB.mutCell {r : Nat} {ys : List D} {a : Addr} {vs ws : List V} (h : SRB G ρ0 H0 ρ env S σ H) (hr : ρ[r]? = some a) (h3 : H a = some (.lst vs)) (hw : RpAll G.K H ws ys) :
    SRB G ρ0 H0 ρ env (S.set r (.lst ys)) σ (upd H a (.lst ws)) ∧ Per H (upd H a (.lst ws)) := by
  have hp : Per H (upd H a (.lst ws)) := per_mut h3
  have hm : a ∈ ρ := List.mem_of_getElem? hr
  have hl : r < S.length := by rw [h.sr.st.len]; exact (List.getElem?_eq_some_iff.mp hr).1
  refine ⟨⟨⟨⟨h.sr.env.len, fun j s' e => ?_, h.sr.env.own⟩, ⟨by rw [List.length_set]; exact h.sr.st.len, h.sr.st.nd, fun j us e => ?_⟩, tabs_frz h3 h.sr.tabs⟩, h.ex.mut h3 ?_ (fun _ z => nomatch z), h.own⟩, hp⟩
  · obtain ⟨y, g1, g2⟩ := h.sr.env.slot j s' e
    refine ⟨y, g1, ?_⟩
    cases s' with
    | dat d => obtain ⟨v, w1, w2⟩ := g2; exact ⟨v, w1, w2.mono hp⟩
    | cel c => exact g2
    | own us =>
      obtain ⟨b, ts, w1, w2, w3, w4⟩ := g2
      have nb : b ≠ a := fun z2 => w4 (z2 ▸ hm)
      exact ⟨b, ts, w1, by rw [upd_ne nb]; exact w2, w3.mono hp, w4⟩
  · by_cases hj : r = j
    · subst hj
      rw [List.getElem?_set_self hl] at e
      cases e
      exact ⟨a, ws, hr, upd_same, hw.mono hp⟩
    · rw [List.getElem?_set_ne hj] at e
      obtain ⟨b, ts, g1, g2, g3⟩ := h.sr.st.at_ j us e
      have nb : b ≠ a := fun z2 => by
        subst z2
        exact hj ((List.getElem?_inj (List.getElem?_eq_some_iff.mp hr).1 h.sr.st.nd).mp (hr.trans g1.symm))
      exact ⟨b, ts, g1, by rw [upd_ne nb]; exact g2, g3.mono hp⟩
  · by_cases q : a ∈ ρ0
    · exact .inr q
    · exact .inl (h.ex.new a hm q)
theorem getO_own {i : Nat} {xs : List D} (h : getO env i = some xs) : env[i]? = some (some (.own xs)) := by
  unfold getO at h
  split at h
  · cases h; assumption
  · cases h
theorem getD_dat {i : Nat} {d : D} (h : DL.getD env i = some d) : env[i]? = some (some (.dat d)) := by
  unfold DL.getD at h
  split at h
  · cases h; assumption
  · cases h
theorem getC_cel {i : Nat} {r : Nat} (h : getC env i = some r) : env[i]? = some (some (.cel r)) := by
  unfold getC at h
  split at h
  · cases h; assumption
  · cases h
end
section
variable {X : Cx} {exc : Str → Option (Addr × Str)} {T : List (Addr × Str)} {W : WX} {Γ : Ctx} {ρ0 : List Addr} {H0 : Hp} {p a b c : Expr} {e ea eb ek : E} {pos px py apos cpos : Pos} {x y : Str} {i j : Nat}
/-- the names of a slot -/
structure NmI (X : Cx) (i : Nat) (x : Str) : Prop where
  ix : X.N[i]? = some x
  vis : Vis X.env.scope x
  dbg : (x == ("__debug__" : Str)) = false
  cdi : (x == ("__classdict__" : Str)) = false
theorem NmI.pe (h : NmI X i x) : PE X (.Name x px) (tVar i) := pe_var h.ix h.vis h.dbg h.cdi
theorem s_app (hn : NmI X i x) (he : SE X exc T W Γ .pers p e) (hs : nost p = true) (hline : (apos.endLine == cpos.line) = true) :
    S1 X exc T W Γ ρ0 H0 (.Expr (.Call (.Attribute (.Name x px) "append" apos) [p] [] cpos) pos) (.app i e) := by
  have hpe := pe_bm (apos := apos) (cpos := cpos) F.plainAttrs_list F.slot_list_append F.type_list_append mt_append (hn.pe (px := px)) (pa_cons he pa_nil (star_cons hs _ _)) rfl (by rw [star_cons hs]; rfl) hline (star_cons hs _ _) rfl
  refine PS.imp (ps_expr hpe rfl) fun Dn σ H ⟨ρ, env, S, h⟩ => ?_
  have sr0 := h.1
  have h : AtS (gl X exc T) W ρ0 H0 ρ env S σ H (DL.bnd (DL.lift (getO env i)) fun xs => DL.bnd (evE Γ e env) fun x => if xs.length < LIM then DL.ret (.next (env.set i (some (.own (xs ++ [x]))))) else DL.fail) Dn := h
  obtain ⟨xs, hx, h⟩ := h.bndLift
  have hx := getO_own hx
  obtain ⟨x', h1, l, vs, h2, h3, h4, h5⟩ := sr0.sr.env.slot i _ hx
  subst h2
  refine ⟨.ref l, h1, .inl ⟨rfl, vs, SqL.of h3⟩, ?_⟩
  refine At.tm (c := evE Γ e) (At.mono (AtS.bndE (Rel1 := RR _ .pers) h) fun y H1 q => ?_)
  obtain ⟨ρ1, d, Sa, e1, r1, hA⟩ := q
  have hl : H1 l = some (.lst vs) := e1.keep _ _ h3 (not_tbl_lst _) h5
  split at hA
  · rename_i hz
    obtain ⟨m1, m2⟩ := hA.1.mutOwn (i := i) hx h1 hl ((h4.mono e1.per).snoc r1)
    exact ⟨l, vs, y, rfl, rfl, hl, by rw [h4.length, ← line_eq]; exact hz, hA.next σ ρ1 _ m1 m2⟩
  · obtain ⟨_, _, _, z, _⟩ := hA
    cases z
theorem s_ext (hn : NmI X i x) (he : SE X exc T W Γ .new p e) (hs : nost p = true) (hline : (apos.endLine == cpos.line) = true) :
    S1 X exc T W Γ ρ0 H0 (.Expr (.Call (.Attribute (.Name x px) "extend" apos) [p] [] cpos) pos) (.ext i e) := by
  have hpe := pe_bm (apos := apos) (cpos := cpos) F.plainAttrs_list F.slot_list_extend F.type_list_extend mt_extend (hn.pe (px := px)) (pa_cons he pa_nil (star_cons hs _ _)) rfl (by rw [star_cons hs]; rfl) hline (star_cons hs _ _) rfl
  refine PS.imp (ps_expr hpe rfl) fun Dn σ H ⟨ρ, env, S, h⟩ => ?_
  have sr0 := h.1
  have h : AtS (gl X exc T) W ρ0 H0 ρ env S σ H (DL.bnd (DL.lift (getO env i)) fun xs => DL.bnd (evE Γ e env) fun x => match x with
      | .list ys => if xs.length + ys.length ≤ LIM then DL.ret (.next (env.set i (some (.own (xs ++ ys))))) else DL.fail
      | _ => DL.fail) Dn := h
  obtain ⟨xs, hx, h⟩ := h.bndLift
  have hx := getO_own hx
  obtain ⟨x', h1, l, vs, h2, h3, h4, h5⟩ := sr0.sr.env.slot i _ hx
  subst h2
  refine ⟨.ref l, h1, .inl ⟨rfl, vs, SqL.of h3⟩, ?_⟩
  refine At.tm (c := evE Γ e) (At.mono (AtS.bndE (Rel1 := RR _ .new) h) fun y H1 q => ?_)
  obtain ⟨ρ1, d, Sa, e1, r1, hA⟩ := q
  have hl : H1 l = some (.lst vs) := e1.keep _ _ h3 (not_tbl_lst _) h5
  cases d with
  | list ds =>
    obtain ⟨bq, zs, g1, g2, g3, g4, g5⟩ := (show NewR (gl X exc T) H ρ1 H1 y (.list ds) from r1)
    subst g1
    have hA : AtS (gl X exc T) W ρ0 H0 ρ1 env Sa σ H1 (if xs.length + ds.length ≤ LIM then DL.ret (.next (env.set i (some (.own (xs ++ ds))))) else DL.fail) Dn := hA
    split at hA
    · rename_i hz
      obtain ⟨m1, m2⟩ := hA.1.mutOwn (i := i) hx h1 hl ((h4.mono e1.per).append g5)
      exact ⟨l, bq, vs, zs, rfl, rfl, hl, g4, by rw [h4.length, g5.length, ← line_eq]; exact hz, hA.next σ ρ1 _ m1 m2⟩
    · obtain ⟨_, _, _, z, _⟩ := hA
      cases z
  | _ =>
    obtain ⟨_, _, _, z, _⟩ := hA
    cases z
theorem s_pop (hn : NmI X i x) (hline : (apos.endLine == cpos.line) = true) : S1 X exc T W Γ ρ0 H0 (.Expr (.Call (.Attribute (.Name x px) "pop" apos) [] [] cpos) pos) (.pop i) := by
  have hpe := pe_bm0 (apos := apos) (cpos := cpos) F.plainAttrs_list F.slot_list_pop F.type_list_pop mt_pop (hn.pe (px := px)) rfl hline
  refine PS.imp (ps_expr hpe rfl) fun Dn σ H ⟨ρ, env, S, h⟩ => ?_
  have sr0 := h.1
  have h : AtS (gl X exc T) W ρ0 H0 ρ env S σ H (DL.bnd (DL.lift (getO env i)) fun xs => if xs.isEmpty then DL.fail else DL.ret (.next (env.set i (some (.own xs.dropLast))))) Dn := h
  obtain ⟨xs, hx, h⟩ := h.bndLift
  have hx := getO_own hx
  obtain ⟨x', h1, l, vs, h2, h3, h4, h5⟩ := sr0.sr.env.slot i _ hx
  subst h2
  refine ⟨.ref l, h1, .inl ⟨rfl, vs, SqL.of h3⟩, ?_⟩
  split at h
  · obtain ⟨_, _, _, z, _⟩ := h
    cases z
  · rename_i hz
    obtain ⟨m1, m2⟩ := h.1.mutOwn (i := i) hx h1 h3 h4.dropLast
    have hv : vs.length - 1 < vs.length := by
      have := h4.length
      cases xs with
      | nil => simp at hz
      | cons a r => simp at this; omega
    exact ⟨l, vs, vs[vs.length - 1], rfl, rfl, h3, List.getElem?_eq_getElem hv, h.next σ ρ _ m1 m2⟩
theorem sub_assign {o i : Expr} {pos : Pos} {env : PySem.Env} (h : notSl i = true) : ∀ v, assign (.Subscript o i pos) env v = (do
      let ov ← holding [v] (eval o env)
      let iv ← holding [v, ov] (eval i env)
      standAt pos
      holding [v, ov, iv] (setItem ov iv v)
      release [v, ov, iv] []) := by
  intro v
  cases i <;> first | rfl | cases h
theorem s_six {spos : Pos} (hn : NmI X i x) (he : SE X exc T W Γ .pers p e) (hk : SE X exc T W Γ .tran b ek) (hsl : notSl b = true) (hcp : notComp p = true) :
    S1 X exc T W Γ ρ0 H0 (.Assign [.Subscript (.Name x px) b spos] p pos) (.six i ek e) := by
  refine PS.imp (ps_asg he (pg_sub (hn.pe (px := px)) hk set_list (sub_assign hsl)) (swaps_no hcp (some (.Subscript (.Name x px) b spos)) pos.line X.env) rfl) fun Dn σ H ⟨ρ, env, S, h⟩ => ?_
  have h : AtS (gl X exc T) W ρ0 H0 ρ env S σ H (DL.bnd (evE Γ e env) fun x => DL.bnd (DL.lift (getO env i)) fun xs => DL.bnd (evE Γ ek env) fun j => DL.bnd (DL.lift ((asInt j).bind (ixI xs.length))) fun j =>
      DL.ret (.next (env.set i (some (.own (xs.set j x)))))) Dn := h
  refine At.tm (c := evE Γ e) (At.mono (AtS.bndE (Rel1 := RR _ .pers) h) fun y H1 q => ?_)
  obtain ⟨ρ1, d, Sa, e1, r1, hA⟩ := q
  obtain ⟨xs, hx, hA⟩ := hA.bndLift
  have hx := getO_own hx
  obtain ⟨x', h1, l, vs, h2, h3, h4, h5⟩ := hA.1.sr.env.slot i _ hx
  subst h2
  refine ⟨.ref l, h1, ?_⟩
  refine At.tm (c := evE Γ ek) (At.mono (AtS.bndE (Rel1 := RR _ .tran) hA) fun z H2 q => ?_)
  obtain ⟨ρ2, d2, Sb, e2, r2, hB⟩ := q
  obtain ⟨k, hk1, hB2⟩ := hB.bndLift
  rw [Option.bind_eq_some_iff] at hk1
  obtain ⟨n, hn1, hn2⟩ := hk1
  cases asInt_eq hn1
  have hl : H2 l = some (.lst vs) := e2.keep _ _ h3 (not_tbl_lst _) h5
  obtain ⟨m1, m2⟩ := hB2.1.mutOwn (i := i) hx h1 hl ((h4.mono e2.per).set k (Rp.mono e2.per r1))
  exact ⟨l, vs, n, k, rfl, Tr.int r2, hl, by rw [ixN_eq, h4.length]; exact hn2, hB2.next σ ρ2 _ m1 m2⟩
theorem s_cset {spos : Pos} (hn : NmI X i x) (he : SE X exc T W Γ .pers p e) (hk : SE X exc T W Γ .tran b ek) (hsl : notSl b = true) (hcp : notComp p = true) :
    S1 X exc T W Γ ρ0 H0 (.Assign [.Subscript (.Name x px) b spos] p pos) (.cset i ek e) := by
  refine PS.imp (ps_asg he (pg_sub (hn.pe (px := px)) hk set_list (sub_assign hsl)) (swaps_no hcp (some (.Subscript (.Name x px) b spos)) pos.line X.env) rfl) fun Dn σ H ⟨ρ, env, S, h⟩ => ?_
  have h : AtS (gl X exc T) W ρ0 H0 ρ env S σ H (DL.bnd (evE Γ e env) fun x => DL.bnd (DL.lift (getC env i)) fun r => DL.bnd (evE Γ ek env) fun j => DL.bnd (celL r) fun xs => DL.bnd (DL.lift ((asInt j).bind (ixI xs.length))) fun j =>
      DL.bnd (celSet r (xs.set j x)) fun _ => DL.ret (.next env)) Dn := h
  refine At.tm (c := evE Γ e) (At.mono (AtS.bndE (Rel1 := RR _ .pers) h) fun y H1 q => ?_)
  obtain ⟨ρ1, d, Sa, e1, r1, hA⟩ := q
  obtain ⟨r, hx, hA⟩ := hA.bndLift
  have hx := getC_cel hx
  obtain ⟨x', h1, l, h2, h3⟩ := hA.1.sr.env.slot i _ hx
  subst h2
  refine ⟨.ref l, h1, ?_⟩
  refine At.tm (c := evE Γ ek) (At.mono (AtS.bndE (Rel1 := RR _ .tran) hA) fun z H2 q => ?_)
  obtain ⟨ρ2, d2, Sb, e2, r2, sr2, rr, S', ev, fin⟩ := q
  unfold DL.bnd celL at ev
  cases hS : Sb[r]? with
  | none => rw [hS] at ev; cases ev
  | some cl =>
    cases cl with
    | lst xs =>
      rw [hS] at ev
      obtain ⟨l', vs, a1, a2, a3⟩ := sr2.sr.st.at_ r xs hS
      obtain ⟨m, q⟩ := e2.pre
      have hp : ρ2[r]? = some l := by rw [q, List.getElem?_append_left (List.getElem?_eq_some_iff.mp h3).1]; exact h3
      rw [hp] at a1
      cases a1
      cases hj : (asInt d2).bind (ixI xs.length) with
      | none =>
        simp only [hj] at ev
        cases ev
      | some k =>
        simp only [hj] at ev
        have ev : some (Res.ok (Fl.next env), Sb.set r (.lst (xs.set k d))) = some (rr, S') := ev
        cases ev
        rw [Option.bind_eq_some_iff] at hj
        obtain ⟨n, hn1, hn2⟩ := hj
        cases asInt_eq hn1
        obtain ⟨m1, m2⟩ := sr2.mutCell hp a2 (a3.set k (Rp.mono e2.per r1))
        exact ⟨l, vs, n, k, rfl, Tr.int r2, a2, by rw [ixN_eq, a3.length]; exact hn2, fin σ ρ2 _ m1 m2⟩
theorem s_aug (hN : X.N.Nodup) (hi : X.N[i]? = some x) (hx : Loc X.env.scope x) (hf : X.fn x = true ∨ X.env.scope.names.lookup x = some .local) (he : SE X exc T W Γ .tran p e) : S1 X exc T W Γ ρ0 H0 (.AugAssign (.Name x px) .Add p pos) (.aug i e) := by
  refine PS.imp (ps_aug hN hi hx he ip_add hf) fun Dn σ H ⟨ρ, env, S, h⟩ => ?_
  have sr0 := h.1
  have h : AtS (gl X exc T) W ρ0 H0 ρ env S σ H (DL.bnd (DL.lift (DL.getD env i)) fun x => DL.bnd (evE Γ e env) fun y => DL.bnd (DL.lift ((asInt x).bind fun a => (asInt y).map fun b => a + b)) fun z => DL.ret (.next (env.set i (some (.dat (.int z)))))) Dn := h
  obtain ⟨d, hd, h⟩ := h.bndLift
  have hd := getD_dat hd
  obtain ⟨x', h1, v, h2, h3⟩ := sr0.sr.env.slot i _ hd
  subst h2
  refine ⟨v, h1, ?_⟩
  refine At.tm (c := evE Γ e) (At.mono (AtS.bndE (Rel1 := RR _ .tran) h) fun y H1 q => ?_)
  obtain ⟨ρ1, d2, Sa, e1, r1, hA⟩ := q
  obtain ⟨z, hz, hA⟩ := hA.bndLift
  rw [Option.bind_eq_some_iff] at hz
  obtain ⟨n, hn1, hn2⟩ := hz
  rw [Option.map_eq_some_iff] at hn2
  obtain ⟨m, hm, rfl⟩ := hn2
  cases asInt_eq hn1
  cases asInt_eq hm
  cases h3
  exact ⟨n, m, rfl, Tr.int r1, hA.next _ ρ1 H1 (sr0.put (s := .dat (.int (n + m))) e1 hA.1.sr.st (.int _)) (Per.refl _)⟩
theorem s_exp (he : SE X exc T W Γ .tran p e) (hcp : notComp p = true) : S1 X exc T W Γ ρ0 H0 (.Expr p pos) (.exp e) :=
  PS.imp (ps_expr he (swaps_no hcp _ _ _)) fun Dn σ H ⟨ρ, env, S, h⟩ => by
    have h : AtS (gl X exc T) W ρ0 H0 ρ env S σ H (DL.bnd (evE Γ e env) fun _ => DL.ret (.next env)) Dn := h
    refine At.tm (c := evE Γ e) (At.mono (AtS.bndE (Rel1 := RR _ .tran) h) fun y H1 q => ?_)
    obtain ⟨ρ1, d2, Sa, e1, r1, hA⟩ := q
    exact hA.next σ ρ1 H1 hA.1 (Per.refl _)
theorem s_rt (he : SE X exc T W Γ .pers p e) : S1 X exc T W Γ ρ0 H0 (.Return (some p) pos) (.rt e) :=
  PS.imp (ps_ret he) fun Dn σ H ⟨ρ, env, S, h⟩ => by
    have h : AtS (gl X exc T) W ρ0 H0 ρ env S σ H (DL.bnd (evE Γ e env) fun x => DL.ret (.ret (.d x))) Dn := h
    refine At.tm (c := evE Γ e) (At.mono (AtS.bndE (Rel1 := RR _ .pers) h) fun y H1 q => ?_)
    obtain ⟨ρ1, d2, Sa, e1, r1, sr1, rr, S', ev, fin⟩ := q
    have ev : some (Res.ok (Fl.ret (.d d2)), Sa) = some (rr, S') := ev
    cases ev
    exact fin y ρ1 H1 sr1.ex sr1.sr.st r1
theorem s_ifs {t : DL.T} {bs cs : List Stmt} {sa sb : DL.Ss} (hc : ST X exc T W Γ c t) (ha : SSs X exc T W Γ ρ0 H0 bs sa) (hb : SSs X exc T W Γ ρ0 H0 cs sb) : S1 X exc T W Γ ρ0 H0 (.If c bs cs pos) (.ifs t sa sb) :=
  PS.imp (ps_if hc ha hb) fun Dn σ H ⟨ρ, env, S, h⟩ => by
    have h : AtS (gl X exc T) W ρ0 H0 ρ env S σ H (DL.bnd (evT Γ t env) fun r => if r then evSs Γ sa env else evSs Γ sb env) Dn := h
    refine At.tm (c := evT Γ t) (At.mono (AtS.bndE (Rel1 := EqR) h) fun k H1 q => ?_)
    obtain ⟨ρ1, d2, Sa, e1, r1, hA⟩ := q
    cases (show k = d2 from r1)
    cases k with
    | true => rw [if_pos rfl]; exact ⟨ρ1, env, Sa, hA⟩
    | false => rw [if_neg (by decide)]; exact ⟨ρ1, env, Sa, hA⟩
theorem s_brk : S1 X exc T W Γ ρ0 H0 (.Break pos) .brk := PS.imp ps_break fun Dn σ H ⟨ρ, env, S, sr, rr, S', ev, fin⟩ => by
  have ev : some (Res.ok (Fl.brk env), S) = some (rr, S') := ev
  cases ev
  exact fin σ ρ H sr (Per.refl _)
theorem s_cont : S1 X exc T W Γ ρ0 H0 (.Continue pos) .cont := PS.imp ps_continue fun Dn σ H ⟨ρ, env, S, sr, rr, S', ev, fin⟩ => by
  have ev : some (Res.ok (Fl.cont env), S) = some (rr, S') := ev
  cases ev
  exact fin σ ρ H sr (Per.refl _)
theorem assign_one {tg : Expr} (h : nost tg = true) (env : PySem.Env) : (assignEach [tg] env).map (·.2) = [assign tg env] := by
  cases tg <;> first | rfl | cases h
theorem s_unp {tg : Expr} {ctg : Tg} (he : SE X exc T W Γ .pers p e) (hg : PG X tg (gK X.K ctg)) (hcp : notComp p = true) (hw : swappedStores [tg] p X.env = pure none) (hst : nost tg = true) : S1 X exc T W Γ ρ0 H0 (.Assign [tg] p pos) (.unp ctg e) :=
  PS.imp (ps_asg he hg (swaps_no hcp (some tg) pos.line X.env) hw (assign_one hst _)) fun Dn σ H ⟨ρ, env, S, h⟩ => by
    have h : AtS (gl X exc T) W ρ0 H0 ρ env S σ H (DL.bnd (evE Γ e env) fun x => DL.bnd (DL.lift (bind1 ctg x env)) fun env' => DL.ret (.next env')) Dn := h
    refine At.tm (c := evE Γ e) (At.mono (AtS.bndE (Rel1 := RR _ .pers) h) fun y H1 q => ?_)
    obtain ⟨ρ1, d, Sa, e1, r1, hA⟩ := q
    obtain ⟨env', hb, hB⟩ := hA.bndLift
    exact bind_ok (G := gl X exc T) ctg hA.1.sr r1 hb fun σ' sr' u => hB.next σ' ρ1 H1 (hA.1.tgU sr' u) (Per.refl _)
theorem s_fr {tg it : Expr} {ctg : Tg} {src : DL.I} {body : List Stmt} {sb : DL.Ss} (hp : PassesOwn (model X.prog X.w) X.A X.env X.xe) (hc : X.calm = true) (hi : PI X tg it (tI (gl X exc T) W true Γ src)) (hg : PG X tg (gK X.K ctg)) (hb : SSs X exc T W Γ ρ0 H0 body sb)
    (hs : ∀ x, foldedSetIterable it X.env x = pure x) : S1 X exc T W Γ ρ0 H0 (.For tg it body [] pos) (.fr ctg src sb) :=
  PS.imp (ps_for hp hc hi hg hb hs) fun Dn σ H ⟨ρ, env, S, h⟩ => by
    have h : AtS (gl X exc T) W ρ0 H0 ρ env S σ H (DL.bnd (evI Γ src env) fun xs => forM ctg (evSs Γ sb) xs env) Dn := h
    refine At.tm (c := evI Γ src) (At.mono (AtS.bndE (Rel1 := WR _ true) h) fun J H1 q => ?_)
    obtain ⟨ρ1, ds, S1', e1, ⟨Ok, wk, ok⟩, hA⟩ := q
    refine ⟨fun k m σ' H' => m = ds.length - k ∧ k ≤ ds.length ∧ Per H1 H' ∧ ∃ ρ' env' S', AtS (gl X exc T) W ρ0 H0 ρ' env' S' σ' H' (forM ctg (evSs Γ sb) (ds.drop k) env') Dn, ⟨ds.length, by simp, Nat.zero_le _, Per.refl _, ρ1, env, S1', hA⟩, ?_⟩
    rintro k m σ' H' ⟨rfl, hk, pr, ρ', env', S', hB⟩
    have ok' := wk.per rfl ρ1 ρ' H1 H' pr ok
    by_cases hlt : k < ds.length
    · refine .inr ⟨wk.go ρ' k H' hlt ok', fun σ2 H2 => Per H1 H2 ∧ ∃ ρ' env' S', AtS (gl X exc T) W ρ0 H0 ρ' env' S' σ2 H2 (forM ctg (evSs Γ sb) (ds.drop (k + 1)) env') Dn, fun σ2 H2 q => ⟨ds.length - (k + 1), by omega, rfl, hlt, q⟩, fun v H2 yy => ?_⟩
      obtain ⟨g2, d, hd, rx⟩ := wk.yld ρ' k H' v H2 hlt ok' yy
      have ed : ds.drop k = d :: ds.drop (k + 1) := by
        obtain ⟨q1, q2⟩ := List.getElem?_eq_some_iff.mp hd
        rw [List.drop_eq_getElem_cons q1, q2]
      rw [ed] at hB
      unfold DL.forM at hB
      obtain ⟨env2, hb2, hC⟩ := hB.bndLift
      have sr2 := hC.1.ext (Ext.grow (G := gl X exc T) (ρ := ρ') g2) (hC.1.sr.st.grow g2)
      refine bind_ok (G := gl X exc T) ctg sr2.sr rx hb2 fun σ3 sr3 u3 => ?_
      have srb3 := sr2.tgU sr3 u3
      obtain ⟨_, rr, Sf, ev, fin⟩ := hC
      have pr2 : Per H1 H2 := pr.trans (Per.of g2)
      have fin := fin.move (Per.of g2)
      refine ⟨ρ', env2, S', srb3, ?_⟩
      unfold DL.bnd at ev
      cases q : evSs Γ sb env2 S' with
      | none => rw [q] at ev; cases ev
      | some pp =>
        obtain ⟨r1, Sa⟩ := pp
        rw [q] at ev
        cases r1 with
        | err c y => cases ev; exact ⟨.err c y, _, rfl, fin⟩
        | ok f =>
          cases f with
          | next env4 => exact ⟨.ok (.next env4), Sa, rfl, fun σ4 ρ4 H4 srb4 p4 => ⟨pr2.trans p4, ρ4, env4, Sa, srb4, rr, Sf, ev, fin.move p4⟩⟩
          | cont env4 => exact ⟨.ok (.cont env4), Sa, rfl, fun σ4 ρ4 H4 srb4 p4 => ⟨pr2.trans p4, ρ4, env4, Sa, srb4, rr, Sf, ev, fin.move p4⟩⟩
          | brk env4 =>
            have ev : some (Res.ok (Fl.next env4), Sa) = some (rr, Sf) := ev
            cases ev
            exact ⟨.ok (.brk env4), _, rfl, fin⟩
          | ret v4 =>
            have ev : some (Res.ok (Fl.ret v4), Sa) = some (rr, Sf) := ev
            cases ev
            exact ⟨.ok (.ret v4), _, rfl, fin⟩
    · have ek : k = ds.length := by omega
      subst ek
      rw [List.drop_length] at hB
      exact .inl ⟨wk.stop ρ' H' ok', AtS.next (env' := env') hB σ' ρ' H' hB.1 (Per.refl _)⟩
theorem s_wh {t : DL.T} {body : List Stmt} {sb : DL.Ss} (hp : PassesOwn (model X.prog X.w) X.A X.env X.xe) (hc : ST X exc T W Γ c t) (hb : SSs X exc T W Γ ρ0 H0 body sb) : S1 X exc T W Γ ρ0 H0 (.While c body [] pos) (.wh t sb) :=
  PS.imp (ps_while hp hc hb) fun Dn σ H ⟨ρ, env, S, h⟩ => by
    have h : AtS (gl X exc T) W ρ0 H0 ρ env S σ H (whileM (evT Γ t) (evSs Γ sb) Γ.fuel env) Dn := h
    refine ⟨fun m σ' H' => ∃ ρ' env' S', AtS (gl X exc T) W ρ0 H0 ρ' env' S' σ' H' (whileM (evT Γ t) (evSs Γ sb) m env') Dn, ⟨_, ρ, env, S, h⟩, ?_⟩
    rintro m σ' H' ⟨ρ', env', S', hB⟩
    cases m with
    | zero =>
      obtain ⟨_, _, _, z, _⟩ := hB
      cases z
    | succ m =>
      unfold whileM at hB
      refine At.tm (c := evT Γ t) (At.mono (AtS.bndE (Rel1 := EqR) hB) fun k H1 q => ?_)
      obtain ⟨ρ1, d2, Sa, e1, r1, hA⟩ := q
      cases (show k = d2 from r1)
      cases k with
      | false =>
        rw [if_neg (by decide)]
        exact AtS.next (env' := env') hA σ' ρ1 H1 hA.1 (Per.refl _)
      | true =>
        rw [if_pos rfl]
        rw [if_pos rfl] at hA
        obtain ⟨srb, rr, Sf, ev, fin⟩ := hA
        refine ⟨fun σ2 H2 => ∃ ρ' env' S', AtS (gl X exc T) W ρ0 H0 ρ' env' S' σ2 H2 (whileM (evT Γ t) (evSs Γ sb) m env') Dn, fun σ2 H2 q => ⟨m, Nat.lt_succ_self _, q⟩, ρ1, env', Sa, srb, ?_⟩
        unfold DL.bnd at ev
        cases q : evSs Γ sb env' Sa with
        | none => rw [q] at ev; cases ev
        | some pp =>
          obtain ⟨r1, Sb⟩ := pp
          rw [q] at ev
          cases r1 with
          | err c y => cases ev; exact ⟨.err c y, _, rfl, fin⟩
          | ok f =>
            cases f with
            | next env4 => exact ⟨.ok (.next env4), Sb, rfl, fun σ4 ρ4 H4 srb4 p4 => ⟨ρ4, env4, Sb, srb4, rr, Sf, ev, fin.move p4⟩⟩
            | cont env4 => exact ⟨.ok (.cont env4), Sb, rfl, fun σ4 ρ4 H4 srb4 p4 => ⟨ρ4, env4, Sb, srb4, rr, Sf, ev, fin.move p4⟩⟩
            | brk env4 =>
              have ev : some (Res.ok (Fl.next env4), Sb) = some (rr, Sf) := ev
              cases ev
              exact ⟨.ok (.brk env4), _, rfl, fin⟩
            | ret v4 =>
              have ev : some (Res.ok (Fl.ret v4), Sb) = some (rr, Sf) := ev
              cases ev
              exact ⟨.ok (.ret v4), _, rfl, fin⟩
end
end DL
end

section
/-! Sd10: calls, more tests, more statements, a def's body -/
namespace DL
open PySem PySem.Spec PyProof.Rows L2

def FinC (G : Glob) (ρ : List Addr) (H : Hp) (r : Res Av) (S' : Store) (Q : VK) (Ex : XK) : Prop :=
  match r with
  | .ok v => ∀ x ρ' H', Ext G ρ H ρ' H' → StR G ρ' S' H' → AvR G ρ' H' x v → Q x H'
  | .err cls y => ∃ C fld, G.exc cls = some (C, fld) ∧ ∀ b v ρ' H', Ext G ρ H ρ' H' → StR G ρ' S' H' → H' b = some (.xd [(fld, v)]) → Rp G.K H' v y → Ex (.ref C) (some b) H'
/-- what a def promises: it does what c does -/
def spF (G : Glob) (n : Nat) (c : List Av → M Av) : Sp := fun vs H Q Ex => vs.length = n ∧ ∃ ρ as S r S', c as S = some (r, S') ∧ StR G ρ S H ∧ LamX.Tabs G.T H ∧ AvsR G ρ H vs as ∧ FinC G ρ H r S' Q Ex
/-- the def x, its parameters ps, as it may be called at room k -/
structure Callee (G : Glob) (k : Nat) (x : Str) (ps : List Str) (c : List Av → M Av) : Prop where
  ex : ∃ (a : Addr) (fd : FuncData), G.mg x = some (.ref a) ∧ PySem.W.keepIn G.K (.ref a) = true ∧ Binds G.K fd ps [] ∧ (∀ (s : Shared) (ws : List Value), G.K.In s.heap → ws.length = ps.length → BindsTo s fd ⟨[], ps.zip ws⟩ (ps.zip ws)) ∧
    FnOk G.P G.w G.K G.mg G.base (L2.CX G.P G.w) k a fd ps (spF G ps.length c)
section
variable {X : Cx} {exc : Str → Option (Addr × Str)} {T : List (Addr × Str)} {W : WX} {Γ : Ctx} {p a b c : Expr} {e ea eb ec : E} {pos px : Pos} {k : Nat} {x : Str} {ps : List Str} {f : Nat}
theorem call_run {pins : List (Addr × Obj)} {σ : L2.St} {H : Hp} {s : Shared} {Q : VK} {args : Args} {us : List Value} {vs : List V} {as : List Av} {ρ : List Addr} {env : Env} {S : Store} {fa : Addr} {fd : FuncData}
    (F : FnOk X.prog X.w X.K X.mg X.base (L2.CX X.prog X.w) k fa fd ps (spF (gl X exc T) ps.length (Γ.call f))) (hr : Room k X.A) (hb : BindsTo s fd args (ps.zip us)) (tk : Takes X W) (I : Inv X pins σ H s) (r : Vals vs us) (hl : vs.length = ps.length) (hA : AvsR (gl X exc T) ρ H vs as)
    (h : At (gl X exc T) W (RR (gl X exc T) .pers) ρ env S σ H (DL.bnd (Γ.call f as) fun r => match r with
      | .d x => DL.ret x
      | .c _ => DL.fail) Q) : wpAny (model X.prog X.w) X.A (call (.ref fa) args.pos args.kw) (EP X pins σ Q) X.xe s := by
  have hsp : spF (gl X exc T) ps.length (Γ.call f) vs H Q (fun cls d H' => W cls d σ H') := by
    obtain ⟨sr, rr, S', ev, fin⟩ := h
    unfold DL.bnd at ev
    cases q : Γ.call f as S with
    | none => rw [q] at ev; cases ev
    | some pr =>
      obtain ⟨r1, Sa⟩ := pr
      rw [q] at ev
      refine ⟨hl, ρ, as, S, r1, Sa, q, sr.st, sr.tabs, hA, ?_⟩
      cases r1 with
      | err cc y => cases ev; exact fin
      | ok v =>
        cases v with
        | d d =>
          have ev : some (Res.ok d, Sa) = some (rr, S') := ev
          cases ev
          exact fin
        | c c =>
          have ev : (none : Option (Res D × Store)) = some (rr, S') := ev
          cases ev
  refine wpAny_call (codeAny_mono (F.run X.A X.stack s H ⟨args.pos, args.kw⟩ us vs Q _ hr I.env0 hb r hsp) fun r s' hq => ?_)
  cases r with
  | error e => exact tk _ _ (XE.of_call I (fun _ _ _ z => z) hq)
  | ok fl =>
    cases fl with
    | ret u => exact I.after hq
    | next => exact False.elim hq
    | brk => exact False.elim hq
    | cont => exact False.elim hq
theorem se_call0 (C : Callee (gl X exc T) k x [] (Γ.call f)) (hr : Room k X.A) (tk : Takes X W) (hg : Gl X x) (hdb : (x == ("__debug__" : Str)) = false) :
    SE X exc T W Γ .pers (.Call (.Name x px) [] [] pos) (.call f .nil) := by
  obtain ⟨fa, fd, hm, hk, hb, _, F⟩ := C.ex
  refine ⟨fun pins s σ H Q I h => ?_⟩
  obtain ⟨ρ, env, S, h⟩ := h
  refine wpAny_Call_Name_kw (ld_glob I hg hm ?_ hdb)
  exact PySem.W.callWith_K0 I.kIn hk (call_run (args := ⟨[], []⟩) (us := []) (vs := []) (as := []) F hr (hb s [] I.kIn rfl) tk I .nil rfl trivial h)
theorem se_call {e0 : Expr} {args : List Expr} {es : As} (C : Callee (gl X exc T) k x ps (Γ.call f)) (hr : Room k X.A) (tk : Takes X W) (hg : Gl X x) (ha : SAs X exc T W Γ (e0 :: args) es) (hs : (e0 :: args).all nost = true) (hl : asLen es = ps.length) (hdb : (x == ("__debug__" : Str)) = false) :
    SE X exc T W Γ .pers (.Call (.Name x px) (e0 :: args) [] pos) (.call f es) := by
  obtain ⟨fa, fd, hm, hk, hb, _, F⟩ := C.ex
  refine ⟨fun pins s σ H Q I h => ?_⟩
  obtain ⟨ρ, env, S, h⟩ := h
  have h : At (gl X exc T) W (RR _ .pers) ρ env S σ H (DL.bnd (evAs Γ es env) fun vs => DL.bnd (Γ.call f vs) fun r => match r with
      | .d x => DL.ret x
      | .c _ => DL.fail) Q := h
  have hA := ha.run pos pins s σ H _ I (At.tm (c := evAs Γ es) (At.bnd (anti_RR _ .pers) (Rel1 := AvsN _ (asLen es)) h))
  refine wpAny_Call_Name_kw (ld_glob I hg hm ?_ hdb)
  rw [List.all_cons, Bool.and_eq_true] at hs
  refine PySem.W.callWith_K (h₀ := X.base) I.ok.mod.kin hk (thn hA fun us s1 q => ?_) (star_cons hs.1 _ _) (star_any _ _ hs.2)
  obtain ⟨vs, H1, I1, rv, ρ1, as, S1, e1, hav, h1⟩ := q
  have hlen : vs.length = ps.length := by rw [hav.2, hl]
  have hb1 := hb s1 us I1.kIn (by rw [List.append_nil, ← rv.length]; exact hlen)
  rw [List.append_nil] at hb1
  exact ⟨I1.kIn, call_run (args := ⟨us, []⟩) F hr hb1 tk I1 rv hlen hav.1 h1⟩
/-- keywords: the parameters' names in their order -/
abbrev SKs (X : Cx) (exc : Str → Option (Addr × Str)) (T : List (Addr × Str)) (W : WX) (Γ : Ctx) (kws : List Keyword) (e : As) : Prop := PK X kws (tM (gl X exc T) W (AvsN (gl X exc T) (asLen e)) (evAs Γ e))
theorem PK.imp {kws : List Keyword} {t t' : TA} (h : PK X kws t) (k : ∀ σ H Q, t' σ H Q → t σ H Q) : PK X kws t' := ⟨fun pos pins s σ H Q I q => h.run pos pins s σ H Q I (k σ H Q q)⟩
theorem sks_nil : SKs X exc T W Γ [] .nil := PK.imp pk_nil fun σ H Q ⟨ρ, env, S, h⟩ => At.retNow (d := []) h ⟨trivial, rfl⟩
theorem sks_cons {kws : List Keyword} {es : As} {nm : Option Str} {kpos : Pos} (ha : SE X exc T W Γ .pers a ea) (hr : SKs X exc T W Γ kws es) : SKs X exc T W Γ (⟨nm, a, kpos⟩ :: kws) (.cons ea es) :=
  PK.imp (pk_cons ha hr) fun σ H Q ⟨ρ, env, S, h⟩ => by
    have h : At (gl X exc T) W (AvsN _ (asLen es + 1)) ρ env S σ H (DL.bnd (evE Γ ea env) fun x => DL.bnd (evAs Γ es env) fun xs => DL.ret (.d x :: xs)) Q := h
    refine At.tm (c := evE Γ ea) (At.mono (At.bnd (anti_AvsN _ _) (Rel1 := RR _ .pers) h) fun x H1 q => ?_)
    obtain ⟨ρ1, d, S1, e1, r1, h1⟩ := q
    refine At.tm (c := evAs Γ es) (At.mono (At.bnd (anti_AvsN _ _) (Rel1 := AvsN _ (asLen es)) h1) fun xs H2 q => ?_)
    obtain ⟨ρ2, ds, S2, e2, r2, h2⟩ := q
    exact h2.retNow (d := Av.d d :: ds) ⟨⟨Rp.mono e2.per r1, r2.1⟩, by rw [List.length_cons, r2.2]⟩
theorem kw_some (pos : Pos) (env : PySem.Env) : ∀ {kws : List Keyword}, kws.all (·.arg.isSome) = true → (backToKw pos (keywordEach kws env)).all (·.1.isSome) = true ∧ (backToKw pos (keywordEach kws env)).any (·.1.isNone) = false ∧ (backToKw pos (keywordEach kws env)).filterMap (·.1) = kws.filterMap (·.arg)
  | [], _ => ⟨rfl, rfl, rfl⟩
  | ⟨nm, e, p⟩ :: kws, h => by
    rw [List.all_cons, Bool.and_eq_true] at h
    obtain ⟨h1, h2, h3⟩ := kw_some pos env h.2
    cases nm with
    | none => cases h.1
    | some n => exact ⟨h1, h2, congrArg (n :: ·) h3⟩
theorem se_callK {kws : List Keyword} {es : As} (C : Callee (gl X exc T) k x ps (Γ.call f)) (hr : Room k X.A) (tk : Takes X W) (hg : Gl X x) (ha : SKs X exc T W Γ kws es) (hall : kws.all (·.arg.isSome) = true) (hks : kws.filterMap (·.arg) = ps) (hl : asLen es = ps.length) (hdb : (x == ("__debug__" : Str)) = false) :
    SE X exc T W Γ .pers (.Call (.Name x px) [] kws pos) (.call f es) := by
  obtain ⟨fa, fd, hm, hk, _, hb, F⟩ := C.ex
  refine ⟨fun pins s σ H Q I h => ?_⟩
  obtain ⟨ρ, env, S, h⟩ := h
  have h : At (gl X exc T) W (RR _ .pers) ρ env S σ H (DL.bnd (evAs Γ es env) fun vs => DL.bnd (Γ.call f vs) fun r => match r with
      | .d x => DL.ret x
      | .c _ => DL.fail) Q := h
  have hA := ha.run pos pins s σ H _ I (At.tm (c := evAs Γ es) (At.bnd (anti_RR _ .pers) (Rel1 := AvsN _ (asLen es)) h))
  refine wpAny_Call_Name_kw (ld_glob I hg hm ?_ hdb)
  obtain ⟨k1, k2, k3⟩ := kw_some pos X.env hall
  refine PySem.W.callWith_KW0 (h₀ := X.base) I.ok.mod.kin hk k1 (thn hA fun us s1 q => ?_) (by rw [k2]; rfl)
  obtain ⟨vs, H1, I1, rv, ρ1, as, S1, e1, hav, h1⟩ := q
  have hlen : vs.length = ps.length := by rw [hav.2, hl]
  rw [k3, hks]
  exact ⟨I1.kIn, call_run (args := ⟨[], ps.zip us⟩) F hr (hb s1 us I1.kIn (by rw [← rv.length]; exact hlen)) tk I1 rv hlen hav.1 h1⟩

/-! ### the rest of the tests -/
theorem st_of_bool {t : TE} (hb : ∀ S r S' d env, evE Γ e env S = some (r, S') → r = .ok d → ∃ k, d = .bool k) (h : PT X p (tTest t)) (hk : ∀ σ H Q, tE (gl X exc T) W .new Γ e σ H Q → t σ H Q) : ST X exc T W Γ p (.e e) :=
  PT.imp h fun σ H Q ⟨ρ, env, S, h⟩ => by
    have h : At (gl X exc T) W EqR ρ env S σ H (DL.bnd (evE Γ e env) fun x => DL.lift (truth x)) Q := h
    have h2 := At.bnd anti_Eq (Rel1 := RR (gl X exc T) .new) h
    refine hk σ H _ ⟨ρ, env, S, ?_⟩
    obtain ⟨sr, r, S', ev, fin⟩ := h2
    refine ⟨sr, r, S', ev, ?_⟩
    cases r with
    | err c y => exact fin
    | ok d =>
      obtain ⟨k, rfl⟩ := hb S _ S' d env ev rfl
      intro x ρ' H' ex st rel
      obtain ⟨ρ1, d1, S1, e1, r1, h1⟩ := fin x ρ' H' ex st rel
      have hx : x = .bl k := by
        have z : Rp X.K H' x (.bool k) := rel
        cases z; rfl
      subst hx
      refine ⟨k, rfl, ?_⟩
      obtain ⟨k', hk, f⟩ := h1.lift
      have hd1 : d1 = .bool k := by
        have z : NewR (gl X exc T) H ρ1 H' (.bl k) d1 := r1
        cases d1 with
        | list ds => obtain ⟨a, vs, q, _⟩ := z; cases q
        | bool b => have z : Rp X.K H' (.bl k) (.bool b) := z; cases z; rfl
        | none => have z : Rp X.K H' (.bl k) .none := z; cases z
        | int i => have z : Rp X.K H' (.bl k) (.int i) := z; cases z
        | str i => have z : Rp X.K H' (.bl k) (.str i) := z; cases z
        | tuple i => have z : Rp X.K H' (.bl k) (.tuple i) := z; cases z
        | dict i => have z : Rp X.K H' (.bl k) (.dict i) := z; cases z
      subst hd1
      cases hk
      exact f k ρ1 H' (Ext.refl _ _ _) h1.1.st rfl
theorem bnd_val {α β : Type} {m : M α} {f : α → M β} {S S' : Store} {d : β} (h : DL.bnd m f S = some (.ok d, S')) : ∃ a S1, m S = some (.ok a, S1) ∧ f a S1 = some (.ok d, S') := bnd_ok h
theorem st_chain {op op' : CmpOp} {o o' : O2} (hb2 : boolO2 o = true) (hb3 : boolO2 o' = true) (ho : OpR X (compareOp op) (rD2 (gl X exc T) true (op2 o))) (ho' : OpR X (compareOp op') (rD2 (gl X exc T) true (op2 o'))) (ha : SE X exc T W Γ .tran a ea) (hb : SE X exc T W Γ .tran b eb) (hc : SE X exc T W Γ .tran c ec)
    (hm : lastMarks [op, op'] [b, c] = false) : ST X exc T W Γ (.Compare a [op, op'] [b, c] pos) (.e (.chain o o' ea eb ec)) := by
  refine st_of_bool (t := tChain (rD2 (gl X exc T) true (op2 o)) (rD2 (gl X exc T) true (op2 o')) (tE (gl X exc T) W .tran Γ ea) (tE (gl X exc T) W .tran Γ eb) (tE (gl X exc T) W .tran Γ ec)) (fun S r S' d env ev er => ?_) (pt_chain ho ho' ha hb hc hm) (fun σ H Q h => chain_at hb2 h)
  subst er
  have ev : DL.bnd (evE Γ ea env) (fun x => DL.bnd (evE Γ eb env) fun y => DL.bnd (DL.lift ((op2 o x y).bind asB)) fun r =>
      if r then DL.bnd (evE Γ ec env) fun z => DL.lift (op2 o' y z) else DL.ret (.bool false)) S = some (.ok d, S') := ev
  obtain ⟨x, S1, _, ev⟩ := bnd_ok ev
  obtain ⟨y, S2, _, ev⟩ := bnd_ok ev
  obtain ⟨r, S3, _, ev⟩ := bnd_ok ev
  cases r with
  | false => cases ev; exact ⟨_, rfl⟩
  | true =>
    obtain ⟨z, S4, _, ev⟩ := bnd_ok (m := evE Γ ec env) (f := fun z => DL.lift (op2 o' y z)) ev
    obtain ⟨w, hw, e1, _⟩ := lift_ok ev
    cases e1
    exact bool_op2 hb3 hw
theorem st_is {o : O1} {op : CmpOp} {j pos'} (hbo : ∀ d r, op1 o d = some r → ∃ k, r = .bool k) (ho : OpR X (compareOp op) (fun x y H Q => y = .non ∧ rD1 (gl X exc T) true (op1 o) x H Q)) (ha : SE X exc T W Γ .tran a ea) (hm : behindInMarks op (.Constant .none j pos') = false) :
    ST X exc T W Γ (.Compare a [op] [.Constant .none j pos'] pos) (.e (.op1 o ea)) := by
  refine st_of_bool (fun S r S' d env ev er => ?_) (pt_cmpR ho ha pe_non hm) (fun σ H Q h => ?_)
  · subst er
    have ev : DL.bnd (evE Γ ea env) (fun x => DL.lift (op1 o x)) S = some (.ok d, S') := ev
    obtain ⟨x, S1, _, ev⟩ := bnd_ok ev
    obtain ⟨w, hw, e1, _⟩ := lift_ok ev
    cases e1
    exact hbo _ _ hw
  · obtain ⟨ρ, env, S, q⟩ := one_at (f := op1 o) rfl h
    exact ⟨ρ, env, S, q.mono fun x H1 r => ⟨rfl, r⟩⟩
theorem st_not {t : DL.T} (ha : ST X exc T W Γ a t) : ST X exc T W Γ (.UnaryOp .Not a pos) (.not t) :=
  PT.imp (pt_not ha) fun σ H Q ⟨ρ, env, S, h⟩ => by
    have h : At (gl X exc T) W EqR ρ env S σ H (DL.bnd (evT Γ t env) fun r => DL.ret (!r)) Q := h
    refine At.tm (c := evT Γ t) (At.mono (At.bnd anti_Eq (Rel1 := EqR) h) fun x H1 q => ?_)
    obtain ⟨ρ1, d, S1, e1, r1, h1⟩ := q
    cases (show x = d from r1)
    exact h1.retNow rfl
abbrev SW (X : Cx) (exc : Str → Option (Addr × Str)) (T : List (Addr × Str)) (W : WX) (Γ : Ctx) (p : Expr) (t : DL.T) : Prop := PW X p (tT (gl X exc T) W Γ t)
theorem sw_one {op : BoolOp} {t : DL.T} (ha : ST X exc T W Γ a t) : SW X exc T W Γ (.BoolOp op [a] pos) t := by
  cases op
  · exact pw_and1 ha
  · exact pw_or1 ha
theorem sw_and {rest : List Expr} {t u : DL.T} (ha : ST X exc T W Γ a t) (hb : SW X exc T W Γ (.BoolOp .And (b :: rest) pos) u) : SW X exc T W Γ (.BoolOp .And (a :: b :: rest) pos) (.and t u) :=
  PW.imp (pw_and ha hb) fun σ H Q ⟨ρ, env, S, h⟩ => by
    have h : At (gl X exc T) W EqR ρ env S σ H (DL.bnd (evT Γ t env) fun r => if r then evT Γ u env else DL.ret false) Q := h
    refine At.tm (c := evT Γ t) (At.mono (At.bnd anti_Eq (Rel1 := EqR) h) fun x H1 q => ?_)
    obtain ⟨ρ1, d, S1, e1, r1, h1⟩ := q
    cases (show x = d from r1)
    cases x with
    | true => rw [if_pos rfl]; exact At.tm (c := evT Γ u) h1
    | false => rw [if_neg (by decide)]; exact h1.retNow rfl
theorem sw_or {rest : List Expr} {t u : DL.T} (ha : ST X exc T W Γ a t) (hb : SW X exc T W Γ (.BoolOp .Or (b :: rest) pos) u) : SW X exc T W Γ (.BoolOp .Or (a :: b :: rest) pos) (.or t u) :=
  PW.imp (pw_or ha hb) fun σ H Q ⟨ρ, env, S, h⟩ => by
    have h : At (gl X exc T) W EqR ρ env S σ H (DL.bnd (evT Γ t env) fun r => if r then DL.ret true else evT Γ u env) Q := h
    refine At.tm (c := evT Γ t) (At.mono (At.bnd anti_Eq (Rel1 := EqR) h) fun x H1 q => ?_)
    obtain ⟨ρ1, d, S1, e1, r1, h1⟩ := q
    cases (show x = d from r1)
    cases x with
    | true => rw [if_pos rfl]; exact h1.retNow rfl
    | false => rw [if_neg (by decide)]; exact At.tm (c := evT Γ u) h1

/-! ### more stores -/
variable {ρ0 : List Addr} {H0 : Hp} {y : Str} {i j : Nat} {py : Pos}
/-- name = [..] on one line: the list's own name takes it at once -/
theorem s_setC {elt tg iter : Expr} {ifs : List Expr} {scope : Scope} {own : List (Str × Nat)} {cpos : Pos} {ce : E} {ctg : Tg} {src : DL.I} {cd : DL.T} (hc : X.calm = true) (hN : X.N.Nodup) (hy : X.N[i]? = some y) (hyl : X.env.scope.names.lookup y = some .local)
    (hsw : swapsWith (.ListComp elt [⟨tg, iter, ifs, 0⟩] scope cpos) (some (.Name y py)) pos.line X.env = pure true) (hi : PI X tg iter (tI (gl X exc T) W false Γ src)) (ok : BlkOk X.N X.env.scope scope own)
    (hg : ∀ (s : Shared) (H : Hp) (C : Addr) (cl : List (Str × Addr)) (fp : List Addr), PG (X.blk s H scope (compEnvC scope cl C X.env) fp) tg (gK X.K ctg)) (ht : ∀ (s : Shared) (H : Hp) (C : Addr) (cl : List (Str × Addr)) (fp : List Addr), PTs (X.blk s H scope (compEnvC scope cl C X.env) fp) ifs (tT (gl X exc T) W0 Γ cd))
    (he : ∀ (s : Shared) (H : Hp) (C : Addr) (cl : List (Str × Addr)) (fp : List Addr), PE (X.blk s H scope (compEnvC scope cl C X.env) fp) elt (tE (gl X exc T) W0 .pers Γ ce)) (hs : ∀ x, foldedSetIterable iter X.env x = pure x) (htg : ∀ i ∈ tgIx ctg, i ∈ own.map (·.2)) :
    S1 X exc T W Γ ρ0 H0 (.Assign [.Name y py] (.ListComp elt [⟨tg, iter, ifs, 0⟩] scope cpos) pos) (.set i (.own (.comp (own.map (·.2)) ce ctg src cd))) :=
  PS.imp (ps_setLc hc hN hy hyl hsw hi ok hg ht he hs) fun Dn σ H h => by
    have q := asg_at h
    have q : tM (gl X exc T) W (SlN (gl X exc T)) (evR Γ (.own (.comp (own.map (·.2)) ce ctg src cd))) σ H (fun x H1 => gName i x σ H1 Dn.nx) := q
    refine comp_at htg ?_
    obtain ⟨ρ, env, S, q⟩ := q
    have q : At (gl X exc T) W (SlN _) ρ env S σ H (DL.bnd (evE Γ (.comp (own.map (·.2)) ce ctg src cd) env) fun x => match x with
      | .list xs => DL.ret (.own xs)
      | _ => DL.fail) _ := q
    obtain ⟨sr, rr, S', ev, fin⟩ := q
    refine At.tm (c := evE Γ (.comp (own.map (·.2)) ce ctg src cd)) ⟨sr, ?_⟩
    unfold DL.bnd at ev
    cases q : evE Γ (.comp (own.map (·.2)) ce ctg src cd) env S with
    | none => rw [q] at ev; cases ev
    | some p =>
      obtain ⟨r1, Sa⟩ := p
      rw [q] at ev
      cases r1 with
      | err c y => cases ev; exact ⟨.err c y, _, rfl, fin⟩
      | ok d =>
        cases d with
        | list xs =>
          have ev : some (Res.ok (Slot.own xs), Sa) = some (rr, S') := ev
          cases ev
          exact ⟨.ok (.list xs), _, rfl, fun x ρ' H' e1 st rel => fin x ρ' H' e1 st rel⟩
        | _ => cases ev
theorem par_ev {r q : DL.R} (env : Env) : evS Γ (.par i j r q) env = DL.bnd (evR Γ r env) fun s => DL.bnd (evR Γ q env) fun t => DL.ret (.next ((env.set i (some s)).set j (some t))) := by
  simp only [evS]
theorem par_at {G : Glob} {r q : DL.R} {Dn : Ends} {σ : L2.St} {H : Hp} (h : tS G W ρ0 H0 (evS Γ (.par i j r q)) Dn σ H) :
    tM G W (SlN G) (evR Γ r) σ H fun v H1 => tM G W (SlN G) (evR Γ q) σ H1 fun w H2 => ∀ H3, Grow H2 H3 → Dn.nx ((σ.set i (some v)).set j (some w)) H3 := by
  obtain ⟨ρ, env, S, h⟩ := h
  have sr := h.1
  rw [par_ev] at h
  refine At.tm (c := evR Γ r) (At.mono (AtS.bndE (Rel1 := SlN G) h) fun x H1 z => ?_)
  obtain ⟨ρ1, d, S1, e1, r1, h1⟩ := z
  refine At.tm (c := evR Γ q) (At.mono (AtS.bndE (Rel1 := SlN G) h1) fun w H2 z => ?_)
  obtain ⟨ρ2, d2, S2, e2, r2, h2⟩ := z
  intro H3 g
  have p1 := sr.put (i := i) e1 h1.1.sr.st r1
  have p2 := p1.put (i := j) (e2.trans (.grow g)) (h2.1.sr.st.grow g) (s := d2) (x := w) ?_
  · exact h2.next _ ρ2 H3 p2 (Per.of g)
  · cases d2 with
    | dat d => exact Rp.mono (Per.of g) r2
    | cel c => exact r2
    | own xs =>
      obtain ⟨a, vs, z1, z2, z3, z4, z5⟩ := r2
      exact ⟨a, vs, z1, z2, z3, g _ _ z4, z5.mono (Per.of g)⟩
/-- a, b = x, y, the names plain local ones -/
theorem s_parA {kt k2 : Nat} {pt pt2 : Pos} {r q : DL.R} (hc : X.calm = true) (hN : X.N.Nodup) (hi : X.N[i]? = some x) (hj : X.N[j]? = some y) (hij : i ≠ j) (hx : X.env.scope.names.lookup x = some .local) (hy : X.env.scope.names.lookup y = some .local)
    (ha : SR' X exc T W Γ a r) (hb : SR' X exc T W Γ b q) (hs1 : nost a = true) (hs2 : nost b = true) (hw : swappedStores [.Tuple [.Name x px, .Name y py] kt pt] (.Tuple [a, b] k2 pt2) X.env = pure (some [x, y])) :
    S1 X exc T W Γ ρ0 H0 (.Assign [.Tuple [.Name x px, .Name y py] kt pt] (.Tuple [a, b] k2 pt2) pos) (.par i j r q) :=
  PS.imp (ps_par hc hN hi hj hij hx hy (pa_cons ha (pa_cons hb pa_nil (star_cons hs2 _ _)) (star_cons hs1 _ _)) hw rfl) fun Dn σ H h => by
    obtain ⟨ρ, env, S, h⟩ := par_at h
    refine ⟨ρ, env, S, h.mono fun v H1 z => ?_⟩
    obtain ⟨ρ1, env1, S1, z⟩ := z
    exact ⟨ρ1, env1, S1, z.mono fun w H2 k => ⟨v, w, rfl, k H2 (Grow.refl _)⟩⟩
/-- .. by a pair that is made and taken apart -/
theorem s_parB {kt k2 : Nat} {pt pt2 : Pos} {r q : DL.R} (hc : X.calm = true) (hN : X.N.Nodup) (hi : X.N[i]? = some x) (hj : X.N[j]? = some y) (hx : Loc X.env.scope x) (hy : Loc X.env.scope y) (hf : X.fn x = true ∨ X.env.scope.names.lookup x = some .local) (hf2 : X.fn y = true ∨ X.env.scope.names.lookup y = some .local)
    (ha : SR' X exc T W Γ a r) (hb : SR' X exc T W Γ b q) (hs1 : nost a = true) (hs2 : nost b = true) (hw : swappedStores [.Tuple [.Name x px, .Name y py] kt pt] (.Tuple [a, b] k2 pt2) X.env = pure none) :
    S1 X exc T W Γ ρ0 H0 (.Assign [.Tuple [.Name x px, .Name y py] kt pt] (.Tuple [a, b] k2 pt2) pos) (.par i j r q) :=
  PS.imp (ps_asg (pe_tup (pa_cons ha (pa_cons hb pa_nil (star_cons hs2 _ _)) (star_cons hs1 _ _))) (pg_tup (n := 2) hc (pgs_cons (pg_name hN hi hx hf) (pgs_cons (pg_name hN hj hy hf2) pgs_nil)) rfl rfl) rfl hw rfl) fun Dn σ H h => by
    obtain ⟨ρ, env, S, h⟩ := par_at h
    refine ⟨ρ, env, S, h.mono fun v H1 z => ?_⟩
    obtain ⟨ρ1, env1, S1, z⟩ := z
    refine ⟨ρ1, env1, S1, z.mono fun w H2 k => ⟨by show 2 ≤ sizeLine; decide, fun p hp => ?_⟩⟩
    exact ⟨p, [v, w], rfl, SqT.of upd_same, rfl, v, [w], rfl, w, [], rfl, rfl, k _ (grow_upd hp)⟩
end
end DL
end

section
/-! Sx1: more statements: pop of a place, three and four stores at once -/
namespace DL
open PySem PySem.Spec PyProof.Rows L2
theorem seqIx_eq (i : Int) (n : Nat) : seqIndex? i n = ixI n i := by
  unfold seqIndex? ixI
  by_cases h : i < 0
  · have h0 : ¬ 0 ≤ i := by omega
    simp only [h, if_true, h0, if_false]
    by_cases h1 : 0 ≤ i + (n : Int)
    · have h2 : i + (n : Int) < n := by omega
      simp [h1, h2, h]
    · simp [h1]
  · have h0 : 0 ≤ i := by omega
    simp only [h, if_false, h0, if_true]
    by_cases h1 : i < n
    · simp [h0, h1]
    · simp [h1]
theorem ixI_bd {n : Nat} {i : Int} {k : Nat} (h : ixI n i = some k) (hn : n ≤ LIM) : -(2 ^ 63) ≤ i ∧ i < 2 ^ 63 ∧ k < n := by
  have hl : (LIM : Nat) = 16777216 := rfl
  unfold ixI at h
  split at h
  · split at h
    · cases h; omega
    · cases h
  · split at h
    · cases h; omega
    · cases h
theorem RpAll.erase' {K : PySem.W.Frag} {H : Hp} {vs : List V} {ds : List D} (h : RpAll K H vs ds) (n : Nat) : RpAll K H (vs.eraseIdx n) (ds.eraseIdx n) := h.erase n
section
variable {X : Cx} {exc : Str → Option (Addr × Str)} {T : List (Addr × Str)} {W : WX} {Γ : Ctx} {ρ0 : List Addr} {H0 : Hp} {p a b c : Expr} {e ea eb ec : E} {pos px py pz apos cpos apos2 cpos2 : Pos} {x y z : Str} {i j l : Nat}
/-- the item that goes, from an own list -/
theorem pop_at (hn : NmI X i x) (he : SE X exc T W Γ .tran p e) (hs : nost p = true) (hline : (apos.endLine == cpos.line) = true) :
    PE X (.Call (.Attribute (.Name x px) "pop" apos) [p] [] cpos) (tBM X.K "list" rPopAt (tVar i) (tCons (tE (gl X exc T) W .tran Γ e) tNil)) :=
  pe_bm (apos := apos) (cpos := cpos) F.plainAttrs_list F.slot_list_pop F.type_list_pop mt_popAt (hn.pe (px := px)) (pa_cons he pa_nil (star_cons hs _ _)) rfl (by rw [star_cons hs]; rfl) hline (star_cons hs _ _) rfl
theorem s_popi (hn : NmI X i x) (he : SE X exc T W Γ .tran p e) (hs : nost p = true) (hline : (apos.endLine == cpos.line) = true) :
    S1 X exc T W Γ ρ0 H0 (.Expr (.Call (.Attribute (.Name x px) "pop" apos) [p] [] cpos) pos) (.popi i e) := by
  refine PS.imp (ps_expr (pop_at (px := px) hn he hs hline) rfl) fun Dn σ H ⟨ρ, env, S, h⟩ => ?_
  have sr0 := h.1
  have h : AtS (gl X exc T) W ρ0 H0 ρ env S σ H (DL.bnd (DL.lift (getO env i)) fun xs => DL.bnd (evE Γ e env) fun k => DL.bnd (DL.lift (if xs.length ≤ LIM then (asInt k).bind (ixI xs.length) else none)) fun k => DL.ret (.next (env.set i (some (.own (xs.eraseIdx k)))))) Dn := h
  obtain ⟨xs, hx, h⟩ := h.bndLift
  have hx := getO_own hx
  obtain ⟨x', h1, l, vs, h2, h3, h4, h5⟩ := sr0.sr.env.slot i _ hx
  subst h2
  refine ⟨.ref l, h1, .inl ⟨rfl, vs, SqL.of h3⟩, ?_⟩
  refine At.tm (c := evE Γ e) (At.mono (AtS.bndE (Rel1 := RR _ .tran) h) fun y H1 q => ?_)
  obtain ⟨ρ1, d, Sa, e1, r1, hA⟩ := q
  have hl : H1 l = some (.lst vs) := e1.keep _ _ h3 (not_tbl_lst _) h5
  obtain ⟨k, hk, hB⟩ := hA.bndLift
  split at hk
  · rename_i hlim
    rw [Option.bind_eq_some_iff] at hk
    obtain ⟨n, hn1, hn2⟩ := hk
    cases asInt_eq hn1
    obtain ⟨b1, b2, b3⟩ := ixI_bd hn2 hlim
    have hlen := h4.length
    obtain ⟨m1, m2⟩ := hB.1.mutOwn (i := i) hx h1 hl ((h4.mono e1.per).erase' k)
    exact ⟨l, vs, n, k, vs[k]'(by omega), rfl, by rw [Tr.int r1], hl, b1, b2, by rw [seqIx_eq, hlen]; exact hn2, List.getElem?_eq_getElem _, hB.next σ ρ1 _ m1 m2⟩
  · cases hk
theorem s_apop (hn : NmI X i x) (hm : NmI X j y) (he : SE X exc T W Γ .tran p e) (hs : nost p = true) (hline : (apos.endLine == cpos.line) = true) (hline2 : (apos2.endLine == cpos2.line) = true) :
    S1 X exc T W Γ ρ0 H0 (.Expr (.Call (.Attribute (.Name x px) "append" apos2) [.Call (.Attribute (.Name y py) "pop" apos) [p] [] cpos] [] cpos2) pos) (.apop i j e) := by
  have hpe := pe_bm (apos := apos2) (cpos := cpos2) F.plainAttrs_list F.slot_list_append F.type_list_append mt_append (hn.pe (px := px)) (pa_cons (pop_at (px := py) hm he hs hline) pa_nil (star_cons rfl _ _)) rfl (by rw [star_cons rfl]; rfl) hline2 (star_cons rfl _ _) rfl
  refine PS.imp (ps_expr hpe rfl) fun Dn σ H ⟨ρ, env, S, h⟩ => ?_
  have sr0 := h.1
  have h : AtS (gl X exc T) W ρ0 H0 ρ env S σ H (DL.bnd (DL.lift (getO env i)) fun xs => DL.bnd (DL.lift (getO env j)) fun ys => DL.bnd (evE Γ e env) fun k => DL.bnd (DL.lift (if ys.length ≤ LIM then (asInt k).bind (ixI ys.length) else none)) fun k => DL.bnd (DL.lift ys[k]?) fun x =>
      if i = j ∨ ¬ xs.length < LIM then DL.fail else DL.ret (.next ((env.set j (some (.own (ys.eraseIdx k)))).set i (some (.own (xs ++ [x])))))) Dn := h
  obtain ⟨xs, hx, h⟩ := h.bndLift
  obtain ⟨ys, hy, h⟩ := h.bndLift
  have hx := getO_own hx
  have hy := getO_own hy
  obtain ⟨x', h1, l, vs, h2, h3, h4, h5⟩ := sr0.sr.env.slot i _ hx
  obtain ⟨y', g1, m, ws, g2, g3, g4, g5⟩ := sr0.sr.env.slot j _ hy
  subst h2 g2
  refine ⟨.ref l, h1, .inl ⟨rfl, vs, SqL.of h3⟩, .ref m, g1, .inl ⟨rfl, ws, SqL.of g3⟩, ?_⟩
  refine At.tm (c := evE Γ e) (At.mono (AtS.bndE (Rel1 := RR _ .tran) h) fun y H1 q => ?_)
  obtain ⟨ρ1, d, Sa, e1, r1, hA⟩ := q
  have hl : H1 l = some (.lst vs) := e1.keep _ _ h3 (not_tbl_lst _) h5
  have hm' : H1 m = some (.lst ws) := e1.keep _ _ g3 (not_tbl_lst _) g5
  obtain ⟨k, hk, hB⟩ := hA.bndLift
  obtain ⟨xd, hxd, hC⟩ := hB.bndLift
  split at hC
  · obtain ⟨_, _, _, zz, _⟩ := hC
    cases zz
  · rename_i hc
    have hij : i ≠ j := fun zz => hc (.inl zz)
    have hz : xs.length < LIM := by
      by_cases zz : xs.length < LIM
      · exact zz
      · exact absurd (.inr zz) hc
    split at hk
    · rename_i hlim
      rw [Option.bind_eq_some_iff] at hk
      obtain ⟨n, hn1, hn2⟩ := hk
      cases asInt_eq hn1
      obtain ⟨b1, b2, b3⟩ := ixI_bd hn2 hlim
      have hlen := g4.length
      have g4' := g4.mono e1.per
      obtain ⟨v, hv, rv⟩ := g4'.get hxd
      obtain ⟨m1, m2⟩ := hC.1.mutOwn (i := j) hy g1 hm' (g4'.erase' k)
      have hne : l ≠ m := fun zz => hij (sr0.sr.env.own i j xs ys l hx hy h1 (by rw [zz]; exact g1))
      have hl2 : upd H1 m (.lst (ws.eraseIdx k)) l = some (.lst vs) := by rw [upd_ne hne]; exact hl
      have hx2 : (env.set j (some (Slot.own (ys.eraseIdx k))))[i]? = some (some (.own xs)) := by rw [List.getElem?_set_ne (fun zz => hij zz.symm)]; exact hx
      obtain ⟨n1, n2⟩ := m1.mutOwn (i := i) hx2 h1 hl2 (((h4.mono e1.per).mono m2).snoc (rv.mono m2))
      refine ⟨m, ws, n, k, v, rfl, by rw [Tr.int r1], hm', b1, b2, by rw [seqIx_eq, hlen]; exact hn2, hv, ?_⟩
      exact ⟨l, vs, v, rfl, rfl, hl2, by rw [h4.length, ← line_eq]; exact hz, hC.next σ ρ1 _ n1 (m2.trans n2)⟩
    · cases hk
end
end DL
end

section
/-! Sx1b: three and four stores at once -/
namespace DL
open PySem PySem.Spec PyProof.Rows L2
section
variable {G : Glob} {H H1 H2 : Hp} {ρ : List Addr}
theorem SlN.grow {x : V} {s : Slot} (g : Grow H1 H2) (h : SlN G H ρ H1 x s) : SlN G H ρ H2 x s := by
  cases s with
  | dat d => exact Rp.mono (Per.of g) h
  | cel c => exact h
  | own xs =>
    obtain ⟨a, vs, z1, z2, z3, z4, z5⟩ := h
    exact ⟨a, vs, z1, z2, z3, g _ _ z4, z5.mono (Per.of g)⟩
end
section
variable {X : Cx} {exc : Str → Option (Addr × Str)} {T : List (Addr × Str)} {W : WX} {Γ : Ctx} {ρ0 : List Addr} {H0 : Hp} {a b c d : Expr} {pos px py pz pw pt pt2 : Pos} {kt k2 : Nat} {x y z w : Str} {i j l m : Nat} {r q u v : DL.R}
theorem par3_ev (env : Env) : evS Γ (.par3 i j l r q u) env = DL.bnd (evR Γ r env) fun s => DL.bnd (evR Γ q env) fun t => DL.bnd (evR Γ u env) fun w => DL.ret (.next (((env.set i (some s)).set j (some t)).set l (some w))) := by
  simp only [evS]
theorem par4_ev (env : Env) : evS Γ (.par4 i j l m r q u v) env = DL.bnd (evR Γ r env) fun s => DL.bnd (evR Γ q env) fun t => DL.bnd (evR Γ u env) fun w => DL.bnd (evR Γ v env) fun x => DL.ret (.next ((((env.set i (some s)).set j (some t)).set l (some w)).set m (some x))) := by
  simp only [evS]
theorem par3_at {G : Glob} {Dn : Ends} {σ : L2.St} {H : Hp} (h : tS G W ρ0 H0 (evS Γ (.par3 i j l r q u)) Dn σ H) :
    tM G W (SlN G) (evR Γ r) σ H fun v H1 => tM G W (SlN G) (evR Γ q) σ H1 fun w H2 => tM G W (SlN G) (evR Γ u) σ H2 fun t H3 => ∀ H4, Grow H3 H4 → Dn.nx (((σ.set i (some v)).set j (some w)).set l (some t)) H4 := by
  obtain ⟨ρ, env, S, h⟩ := h
  have sr := h.1
  rw [par3_ev] at h
  refine At.tm (c := evR Γ r) (At.mono (AtS.bndE (Rel1 := SlN G) h) fun x H1 z => ?_)
  obtain ⟨ρ1, d1, S1, e1, r1, h1⟩ := z
  refine At.tm (c := evR Γ q) (At.mono (AtS.bndE (Rel1 := SlN G) h1) fun w H2 z => ?_)
  obtain ⟨ρ2, d2, S2, e2, r2, h2⟩ := z
  refine At.tm (c := evR Γ u) (At.mono (AtS.bndE (Rel1 := SlN G) h2) fun t H3 z => ?_)
  obtain ⟨ρ3, d3, S3, e3, r3, h3⟩ := z
  intro H4 g
  have p1 := sr.put (i := i) e1 h1.1.sr.st r1
  have p2 := p1.put (i := j) e2 h2.1.sr.st r2
  have p3 := p2.put (i := l) (e3.trans (.grow g)) (h3.1.sr.st.grow g) (s := d3) (x := t) (r3.grow g)
  exact h3.next _ ρ3 H4 p3 (Per.of g)
theorem par4_at {G : Glob} {Dn : Ends} {σ : L2.St} {H : Hp} (h : tS G W ρ0 H0 (evS Γ (.par4 i j l m r q u v)) Dn σ H) :
    tM G W (SlN G) (evR Γ r) σ H fun v1 H1 => tM G W (SlN G) (evR Γ q) σ H1 fun w H2 => tM G W (SlN G) (evR Γ u) σ H2 fun t H3 => tM G W (SlN G) (evR Γ v) σ H3 fun y H4 => ∀ H5, Grow H4 H5 → Dn.nx ((((σ.set i (some v1)).set j (some w)).set l (some t)).set m (some y)) H5 := by
  obtain ⟨ρ, env, S, h⟩ := h
  have sr := h.1
  rw [par4_ev] at h
  refine At.tm (c := evR Γ r) (At.mono (AtS.bndE (Rel1 := SlN G) h) fun x H1 z => ?_)
  obtain ⟨ρ1, d1, S1, e1, r1, h1⟩ := z
  refine At.tm (c := evR Γ q) (At.mono (AtS.bndE (Rel1 := SlN G) h1) fun w H2 z => ?_)
  obtain ⟨ρ2, d2, S2, e2, r2, h2⟩ := z
  refine At.tm (c := evR Γ u) (At.mono (AtS.bndE (Rel1 := SlN G) h2) fun t H3 z => ?_)
  obtain ⟨ρ3, d3, S3, e3, r3, h3⟩ := z
  refine At.tm (c := evR Γ v) (At.mono (AtS.bndE (Rel1 := SlN G) h3) fun y H4 z => ?_)
  obtain ⟨ρ4, d4, S4, e4, r4, h4⟩ := z
  intro H5 g
  have p1 := sr.put (i := i) e1 h1.1.sr.st r1
  have p2 := p1.put (i := j) e2 h2.1.sr.st r2
  have p3 := p2.put (i := l) e3 h3.1.sr.st r3
  have p4 := p3.put (i := m) (e4.trans (.grow g)) (h4.1.sr.st.grow g) (s := d4) (x := y) (r4.grow g)
  exact h4.next _ ρ4 H5 p4 (Per.of g)
theorem s_par3A (hc : X.calm = true) (hN : X.N.Nodup) (hi : X.N[i]? = some x) (hj : X.N[j]? = some y) (hl : X.N[l]? = some z) (hij : i ≠ j) (hil : i ≠ l) (hjl : j ≠ l)
    (hx : X.env.scope.names.lookup x = some .local) (hy : X.env.scope.names.lookup y = some .local) (hz : X.env.scope.names.lookup z = some .local)
    (ha : SR' X exc T W Γ a r) (hb : SR' X exc T W Γ b q) (hd : SR' X exc T W Γ c u) (hs1 : nost a = true) (hs2 : nost b = true) (hs3 : nost c = true)
    (hw : swappedStores [.Tuple [.Name x px, .Name y py, .Name z pz] kt pt] (.Tuple [a, b, c] k2 pt2) X.env = pure (some [x, y, z])) :
    S1 X exc T W Γ ρ0 H0 (.Assign [.Tuple [.Name x px, .Name y py, .Name z pz] kt pt] (.Tuple [a, b, c] k2 pt2) pos) (.par3 i j l r q u) :=
  PS.imp (ps_par3 hc hN hi hj hl hij hil hjl hx hy hz (pa_cons ha (pa_cons hb (pa_cons hd pa_nil (star_cons hs3 _ _)) (star_cons hs2 _ _)) (star_cons hs1 _ _)) hw rfl) fun Dn σ H h => by
    obtain ⟨ρ, env, S, h⟩ := par3_at h
    refine ⟨ρ, env, S, h.mono fun v1 H1 z => ?_⟩
    obtain ⟨ρ1, env1, S1, z⟩ := z
    refine ⟨ρ1, env1, S1, z.mono fun w H2 z => ?_⟩
    obtain ⟨ρ2, env2, S2, z⟩ := z
    exact ⟨ρ2, env2, S2, z.mono fun t H3 k => ⟨v1, w, t, rfl, k H3 (Grow.refl _)⟩⟩
theorem s_par3B (hc : X.calm = true) (hN : X.N.Nodup) (hi : X.N[i]? = some x) (hj : X.N[j]? = some y) (hl : X.N[l]? = some z) (hx : Loc X.env.scope x) (hy : Loc X.env.scope y) (hz : Loc X.env.scope z)
    (hf : X.fn x = true ∨ X.env.scope.names.lookup x = some .local) (hf2 : X.fn y = true ∨ X.env.scope.names.lookup y = some .local) (hf3 : X.fn z = true ∨ X.env.scope.names.lookup z = some .local)
    (ha : SR' X exc T W Γ a r) (hb : SR' X exc T W Γ b q) (hd : SR' X exc T W Γ c u) (hs1 : nost a = true) (hs2 : nost b = true) (hs3 : nost c = true)
    (hw : swappedStores [.Tuple [.Name x px, .Name y py, .Name z pz] kt pt] (.Tuple [a, b, c] k2 pt2) X.env = pure none) :
    S1 X exc T W Γ ρ0 H0 (.Assign [.Tuple [.Name x px, .Name y py, .Name z pz] kt pt] (.Tuple [a, b, c] k2 pt2) pos) (.par3 i j l r q u) :=
  PS.imp (ps_asg (pe_tup (pa_cons ha (pa_cons hb (pa_cons hd pa_nil (star_cons hs3 _ _)) (star_cons hs2 _ _)) (star_cons hs1 _ _))) (pg_tup (n := 3) hc (pgs_cons (pg_name hN hi hx hf) (pgs_cons (pg_name hN hj hy hf2) (pgs_cons (pg_name hN hl hz hf3) pgs_nil))) rfl rfl) rfl hw rfl) fun Dn σ H h => by
    obtain ⟨ρ, env, S, h⟩ := par3_at h
    refine ⟨ρ, env, S, h.mono fun v1 H1 z => ?_⟩
    obtain ⟨ρ1, env1, S1, z⟩ := z
    refine ⟨ρ1, env1, S1, z.mono fun w H2 z => ?_⟩
    obtain ⟨ρ2, env2, S2, z⟩ := z
    refine ⟨ρ2, env2, S2, z.mono fun t H3 k => ⟨by show 3 ≤ sizeLine; decide, fun p hp => ?_⟩⟩
    exact ⟨p, [v1, w, t], rfl, SqT.of upd_same, rfl, v1, [w, t], rfl, w, [t], rfl, t, [], rfl, rfl, k _ (grow_upd hp)⟩
theorem s_par4B (hc : X.calm = true) (hN : X.N.Nodup) (hi : X.N[i]? = some x) (hj : X.N[j]? = some y) (hl : X.N[l]? = some z) (hm : X.N[m]? = some w) (hx : Loc X.env.scope x) (hy : Loc X.env.scope y) (hz : Loc X.env.scope z) (hw' : Loc X.env.scope w)
    (hf : X.fn x = true ∨ X.env.scope.names.lookup x = some .local) (hf2 : X.fn y = true ∨ X.env.scope.names.lookup y = some .local) (hf3 : X.fn z = true ∨ X.env.scope.names.lookup z = some .local) (hf4 : X.fn w = true ∨ X.env.scope.names.lookup w = some .local)
    (ha : SR' X exc T W Γ a r) (hb : SR' X exc T W Γ b q) (hd : SR' X exc T W Γ c u) (he : SR' X exc T W Γ d v) (hs1 : nost a = true) (hs2 : nost b = true) (hs3 : nost c = true) (hs4 : nost d = true) :
    S1 X exc T W Γ ρ0 H0 (.Assign [.Tuple [.Name x px, .Name y py, .Name z pz, .Name w pw] kt pt] (.Tuple [a, b, c, d] k2 pt2) pos) (.par4 i j l m r q u v) :=
  PS.imp (ps_asg (pe_tup (pa_cons ha (pa_cons hb (pa_cons hd (pa_cons he pa_nil (star_cons hs4 _ _)) (star_cons hs3 _ _)) (star_cons hs2 _ _)) (star_cons hs1 _ _))) (pg_tup (n := 4) hc (pgs_cons (pg_name hN hi hx hf) (pgs_cons (pg_name hN hj hy hf2) (pgs_cons (pg_name hN hl hz hf3) (pgs_cons (pg_name hN hm hw' hf4) pgs_nil)))) rfl rfl) rfl rfl rfl) fun Dn σ H h => by
    obtain ⟨ρ, env, S, h⟩ := par4_at h
    refine ⟨ρ, env, S, h.mono fun v1 H1 z => ?_⟩
    obtain ⟨ρ1, env1, S1, z⟩ := z
    refine ⟨ρ1, env1, S1, z.mono fun w H2 z => ?_⟩
    obtain ⟨ρ2, env2, S2, z⟩ := z
    refine ⟨ρ2, env2, S2, z.mono fun t H3 z => ?_⟩
    obtain ⟨ρ3, env3, S3, z⟩ := z
    refine ⟨ρ3, env3, S3, z.mono fun y1 H4 k => ⟨by show 4 ≤ sizeLine; decide, fun p hp => ?_⟩⟩
    exact ⟨p, [v1, w, t, y1], rfl, SqT.of upd_same, rfl, v1, [w, t, y1], rfl, w, [t, y1], rfl, t, [y1], rfl, y1, [], rfl, rfl, k _ (grow_upd hp)⟩
end
end DL
end

section
/-! Sx2: pairs = zip(a, b); return tuple([.. for .. in pairs]) -/
namespace DL
open PySem PySem.Spec PyProof.Rows L2
/-! ### an object of ours is tracked as it stands -/
theorem inv_track {X : Cx} {pins : List (Addr × Obj)} {σ : L2.St} {H : Hp} {s : Shared} {a : Addr} {φ : Heap → Prop} (I : Inv X pins σ H s) (f : FpOk X pins H a) (hsz : X.s_0.heap.objs.size ≤ a) (new : φ s.heap) (ho : ∃ o, s.heap.get? a = some o)
    (st : ∀ h1 h2 : Heap, φ h1 → (∀ o, h1.get? a = some o → h2.get? a = some o) → φ h2) : Inv X pins σ (upd H a (.ext φ)) s := by
  obtain ⟨f0, f1, f2, f3, f4, f5⟩ := f
  have other : ∀ b u, H b = some u → upd H a (.ext φ) b = some u := fun b u e => by
    rw [upd_ne (ne_of_none e f0)]
    exact e
  refine ⟨I.ok, I.os, I.bare, ⟨I.base.keep, I.base.slot, fun b o e n x => ?_, I.base.there, fun b xs e => other _ _ (I.base.tups b xs e), fun b o u e => other _ _ (I.base.frzs b o u e), fun b ps e => ?_⟩, I.loc, I.cell, ?_, fun x c e => ?_, fun p hp => ?_, fun b u e => ?_, I.len⟩
  · rw [upd_ne (Nat.ne_of_lt (Nat.lt_of_lt_of_le (Heap.lt_size e) hsz))]
    exact I.base.free b o e n x
  · obtain ⟨more, q⟩ := I.base.tbls b ps e
    exact ⟨more, other _ _ q⟩
  · rw [upd_ne (fun z => f1 z.symm)]
    exact I.free
  · rw [upd_ne (f4 x c e)]
    exact I.freeC x c e
  · obtain ⟨g1, g2, g3⟩ := I.pin p hp
    exact ⟨g1, by rw [upd_ne (f5 p hp)]; exact g2, g3⟩
  · by_cases hb : b = a
    · subst hb
      rw [upd_same] at e
      cases e
      exact ⟨new, ho, st⟩
    · rw [upd_ne hb] at e
      exact (I.hok b u e).stay (fun _ _ _ z => z) (fun c z => other c _ z) fun c xs z => other c _ z
def pinO (a : Addr) (o : Obj) : HO := .ext fun h => h.get? a = some o
theorem inv_pinO {X : Cx} {pins : List (Addr × Obj)} {σ : L2.St} {H : Hp} {s : Shared} {a : Addr} {o : Obj} (I : Inv X pins σ H s) (f : FpOk X pins H a) (hsz : X.s_0.heap.objs.size ≤ a) (ho : s.heap.get? a = some o) : Inv X pins σ (upd H a (pinO a o)) s :=
  inv_track I f hsz ho ⟨o, ho⟩ fun h1 h2 p k => k o p
theorem ad0 (n a : Nat) (h : 0 < a) : n + a ≠ n := fun e => by omega
theorem ad (n a b : Nat) (h : a ≠ b) : n + a ≠ n + b := fun e => h (Nat.add_left_cancel e)
structure Z5 where
  z : Obj
  ti : Obj
  to : Obj
  o1 : Obj
  o2 : Obj
def zipH (H : Hp) (N : Addr) (o : Z5) : Hp := upd (upd (upd (upd (upd H N (pinO N o.o1)) (N + 1) (pinO (N + 1) o.o2)) (N + 2) (pinO (N + 2) o.ti)) (N + 3) (pinO (N + 3) o.to)) (N + 4) (pinO (N + 4) o.z)
def free5 (H : Hp) (N : Addr) : Prop := ∀ k : Nat, k ≤ 4 → H (N + k) = none
structure ZpOk (X : Cx) (N : Addr) (o : Z5) (Ok : Hp → Prop) (xs ys : List D) : Prop where
  ex : ∃ si1 si2, SeqIt X.prog X.w X.K N N Ok xs si1 ∧ SeqIt X.prog X.w X.K (N + 1) N Ok ys si2 ∧ ∀ h : Heap, h.get? N = some o.o1 → h.get? (N + 1) = some o.o2 → h.get? (N + 2) = some o.ti → h.get? (N + 3) = some o.to → h.get? (N + 4) = some o.z →
    IsZip h (N + 4) (N + 2) (N + 3) .none ∧ IsTupOf2 h (N + 2) (.ref N) (.ref (N + 1)) ∧ (∃ x y, IsTupOf2 h (N + 3) x y) ∧ si1 0 h ∧ si2 0 h
section
variable {X : Cx} {exc : Str → Option (Addr × Str)} {T : List (Addr × Str)} {W : WX} {Γ : Ctx} {a b : Expr} {ea eb : E} {pos px tpos : Pos} {elts : List Expr} {kk : Nat} {i : Nat} {x : Str}
theorem fp_moved {pins : List (Addr × Obj)} {H H' : Hp} {b : Addr} (f : FpOk X pins H b) (h : H' b = none) : FpOk X pins H' b := ⟨h, f.2⟩
theorem upd_none {H : Hp} {a b : Addr} {o : HO} (h : H b = none) (n : b ≠ a) : upd H a o b = none := by rw [upd_ne n]; exact h
/-- zip(a, b), its five objects tracked -/
def tZip (G : Glob) (n0 : Nat) (zp : Addr → Z5 → (Hp → Prop) → List D → List D → Prop) (ta tb : TE) : TE := fun σ H Q => ta σ H fun x H1 => tb σ H1 fun y H2 => ∃ (d1 d2 : D) (xs ys : List D), Rp G.K H2 x d1 ∧ Rp G.K H2 y d2 ∧ items d1 = some xs ∧ items d2 = some ys ∧
  ∀ (N : Addr) (o : Z5) (Ok : Hp → Prop), n0 ≤ N → free5 H2 N → zp N o Ok xs ys → Ok H2 → (∀ H H' : Hp, Per H H' → Ok H → Ok H') → xs.length ≤ sizeLine → Q (.ref (N + 4)) (zipH H2 N o)
theorem pe_zipV (hg : Gl X "zip") (hm : X.mg "zip" = none) (ha : SE X exc T W Γ .pers a ea) (hb : SE X exc T W Γ .pers b eb) (hs : nost a = true) (hs2 : nost b = true) :
    PE X (.Call (.Name "zip" px) [a, b] [] pos) (tZip (gl X exc T) X.s_0.heap.objs.size (ZpOk X) (tE (gl X exc T) W .pers Γ ea) (tE (gl X exc T) W .pers Γ eb)) := by
  refine ⟨fun pins s σ H Q I h => ?_⟩
  have hA := (pa_cons ha (pa_cons hb pa_nil (star_cons hs2 _ _)) (star_cons hs _ _)).run pos pins s σ H (fun vs H2 => ∃ x y, vs = [x, y] ∧ ∃ (d1 d2 : D) (xs ys : List D), Rp X.K H2 x d1 ∧ Rp X.K H2 y d2 ∧ items d1 = some xs ∧ items d2 = some ys ∧
    ∀ (N : Addr) (o : Z5) (Ok : Hp → Prop), X.s_0.heap.objs.size ≤ N → free5 H2 N → ZpOk X N o Ok xs ys → Ok H2 → (∀ H H' : Hp, Per H H' → Ok H → Ok H') → xs.length ≤ sizeLine → Q (.ref (N + 4)) (zipH H2 N o)) I (by
      obtain ⟨ρ, env, S, h⟩ := h
      refine ⟨ρ, env, S, h.mono fun x H1 q => ?_⟩
      obtain ⟨ρ1, env1, S1, q⟩ := q
      exact ⟨ρ1, env1, S1, q.mono fun y H2 q => ⟨x, y, rfl, q⟩⟩)
  refine Call_ (ld_blt I hg hm PyProof.Rows.boot_zip (PyProof.Rows.callWith_type1 (thn hA fun us s1 q => ?_) (star_cons hs _ _) (star_any _ _ (by simp [hs2]))))
  obtain ⟨vs, H1, I1, rv, x, y, rfl, d1, d2, xs, ys, rd1, rd2, hxs, hys, k⟩ := q
  obtain ⟨v1, v2, rfl, r1, r2⟩ := vals2 rv
  obtain ⟨o1, Hb1, Ok1, si1, B1, hb1, ok1, hlen1, oe1, op1', mk1, s01⟩ := seq_begin (exc := exc) (T := T) (pf := true) (ρ1 := []) I1 rd1 r1 hxs
  obtain ⟨o2, Hb2, Ok2, si2, B2, hb2, ok2, hlen2, oe2, op2', mk2, s02⟩ := seq_begin (exc := exc) (T := T) (pf := true) (ρ1 := []) I1 rd2 r2 hys
  refine zip_begins2 B1 B2 hb1 hb2 fun h' hz hTI hTO g1 g2 hsz hk => ?_
  have I2 : Inv X pins σ H1 { s1 with heap := h' } := I1.kept (t' := s1.toks) hk
  have hf : free5 H1 s1.heap.objs.size := fun j _ => I1.hok.fresh (Nat.le_add_right _ _)
  have fp : ∀ (H' : Hp) (j : Nat), H' (s1.heap.objs.size + j) = none → FpOk X pins H' (s1.heap.objs.size + j) := fun H' j hn => I1.fpOk (Nat.le_add_right _ _) hn
  have sz : ∀ j, X.s_0.heap.objs.size ≤ s1.heap.objs.size + j := fun j => Nat.le_trans I1.sz (Nat.le_add_right _ _)
  have J1 := inv_pinO I2 (fp _ 0 (hf 0 (by omega))) (sz 0) g1
  have J2 := inv_pinO J1 (fp _ 1 (upd_none (hf 1 (by omega)) (ad0 _ 1 (by decide)))) (sz 1) g2
  have J3 := inv_pinO J2 (fp _ 2 (upd_none (upd_none (hf 2 (by omega)) (ad0 _ 2 (by decide))) (ad _ 2 1 (by decide)))) (sz 2) hTI
  have J4 := inv_pinO J3 (fp _ 3 (upd_none (upd_none (upd_none (hf 3 (by omega)) (ad0 _ 3 (by decide))) (ad _ 3 1 (by decide))) (ad _ 3 2 (by decide)))) (sz 3) hTO
  have J5 := inv_pinO J4 (fp _ 4 (upd_none (upd_none (upd_none (upd_none (hf 4 (by omega)) (ad0 _ 4 (by decide))) (ad _ 4 1 (by decide))) (ad _ 4 2 (by decide))) (ad _ 4 3 (by decide)))) (sz 4) hz
  refine ⟨.ref (s1.heap.objs.size + 4), _, J5, rfl, k s1.heap.objs.size ⟨_, _, _, _, _⟩ (fun H => (∃ ρ, Ok1 ρ H) ∧ ∃ ρ, Ok2 ρ H) I1.sz hf ⟨si1 s1.heap.objs.size, si2 (s1.heap.objs.size + 1), ?_, ?_, fun h e1 e2 e3 e4 e5 => ⟨e5, e3, ⟨_, _, e4⟩, s01 _ _ e1, s02 _ _ e2⟩⟩ ⟨⟨_, ok1⟩, ⟨_, ok2⟩⟩ (fun H H' p q => ?_) hlen1⟩
  · exact SeqIt.any (fun ρ => mk1 ρ _ (Nat.le_refl _)) [] (fun H h => h.1)
  · exact SeqIt.any (fun ρ => mk2 ρ _ (Nat.le_succ _)) [] (fun H h => h.2)
  · obtain ⟨⟨ρ, q1⟩, ρ', q2⟩ := q
    exact ⟨⟨ρ, op1' rfl _ _ _ _ p q1⟩, ρ', op2' rfl _ _ _ _ p q2⟩
/-- the name is walked: the five objects are forgotten -/
def iZp (X : Cx) (i : Nat) : TI := fun σ H R => ∃ (N : Addr) (o : Z5) (Ok : Hp → Prop) (xs ys : List D) (H' : Hp), σ[i]? = some (some (.ref (N + 4))) ∧ H = zipH H' N o ∧ X.s_0.heap.objs.size ≤ N ∧ free5 H' N ∧ ZpOk X N o Ok xs ys ∧ Ok H' ∧ R (ItZ X.K Ok xs ys) H'
theorem drop5 {H : Hp} {N : Addr} {o : Z5} (hf : free5 H N) : ItX.dropH (ItX.dropH (ItX.dropH (ItX.dropH (ItX.dropH (zipH H N o) (N + 4)) (N + 3)) (N + 2)) (N + 1)) N = H := by
  unfold zipH
  rw [ItX.dropH_upd (upd_none (upd_none (upd_none (upd_none (hf 4 (by omega)) (ad0 _ 4 (by decide))) (ad _ 4 1 (by decide))) (ad _ 4 2 (by decide))) (ad _ 4 3 (by decide))), ItX.dropH_upd (upd_none (upd_none (upd_none (hf 3 (by omega)) (ad0 _ 3 (by decide))) (ad _ 3 1 (by decide))) (ad _ 3 2 (by decide))),
    ItX.dropH_upd (upd_none (upd_none (hf 2 (by omega)) (ad0 _ 2 (by decide))) (ad _ 2 1 (by decide))), ItX.dropH_upd (upd_none (hf 1 (by omega)) (ad0 _ 1 (by decide))), ItX.dropH_upd (show H N = none from hf 0 (by omega))]
theorem zipH_at {H : Hp} {N : Addr} {o : Z5} : zipH H N o N = some (pinO N o.o1) ∧ zipH H N o (N + 1) = some (pinO (N + 1) o.o2) ∧ zipH H N o (N + 2) = some (pinO (N + 2) o.ti) ∧ zipH H N o (N + 3) = some (pinO (N + 3) o.to) ∧ zipH H N o (N + 4) = some (pinO (N + 4) o.z) := by
  unfold zipH
  refine ⟨?_, ?_, ?_, ?_, upd_same⟩
  · rw [upd_ne ((ad0 N 4 (by decide)).symm), upd_ne ((ad0 N 3 (by decide)).symm), upd_ne ((ad0 N 2 (by decide)).symm), upd_ne ((ad0 N 1 (by decide)).symm)]; exact upd_same
  · rw [upd_ne (ad _ 1 4 (by decide)), upd_ne (ad _ 1 3 (by decide)), upd_ne (ad _ 1 2 (by decide))]; exact upd_same
  · rw [upd_ne (ad _ 2 4 (by decide)), upd_ne (ad _ 2 3 (by decide))]; exact upd_same
  · rw [upd_ne (ad _ 3 4 (by decide))]; exact upd_same
theorem pi_zipN (hN : X.N[i]? = some x) (hv : Vis X.env.scope x) (hd : (x == ("__debug__" : Str)) = false) (hcd : (x == ("__classdict__" : Str)) = false) : PI X (.Tuple elts kk tpos) (.Name x px) (iZp X i) := by
  refine ⟨fun pins s σ H R I h => ?_⟩
  obtain ⟨N, o, Ok, xs, ys, H', hσ, rfl, hsz, hf, ⟨si1, si2, S1, S2, hst⟩, ok, hR⟩ := h
  refine thn ((pe_var (pos := px) hN hv hd hcd).run pins s σ _ (fun v H1 => v = .ref (N + 4) ∧ H1 = zipH H' N o) I ⟨_, hσ, rfl, rfl⟩) fun v s1 ⟨w, H1, I1, r1, ew, eH⟩ => ?_
  subst ew eH
  cases (show v = Value.ref (N + 4) from r1)
  obtain ⟨z0, z1, z2, z3, z4⟩ := zipH_at (H := H') (N := N) (o := o)
  have g0 : s1.heap.get? N = some o.o1 := (I1.hok _ _ z0).1
  have g1 : s1.heap.get? (N + 1) = some o.o2 := (I1.hok _ _ z1).1
  have g2 : s1.heap.get? (N + 2) = some o.ti := (I1.hok _ _ z2).1
  have g3 : s1.heap.get? (N + 3) = some o.to := (I1.hok _ _ z3).1
  have g4 : s1.heap.get? (N + 4) = some o.z := (I1.hok _ _ z4).1
  obtain ⟨st1, st2, st3, st4, st5⟩ := hst s1.heap g0 g1 g2 g3 g4
  have e5 := drop5 (o := o) hf
  have d4 : ItX.dropH (zipH H' N o) (N + 4) (N + 3) = some (pinO (N + 3) o.to) := by rw [ItX.dropH_ne (ad _ 3 4 (by decide))]; exact z3
  have d3 : ItX.dropH (ItX.dropH (zipH H' N o) (N + 4)) (N + 3) (N + 2) = some (pinO (N + 2) o.ti) := by rw [ItX.dropH_ne (ad _ 2 3 (by decide)), ItX.dropH_ne (ad _ 2 4 (by decide))]; exact z2
  have d2 : ItX.dropH (ItX.dropH (ItX.dropH (zipH H' N o) (N + 4)) (N + 3)) (N + 2) (N + 1) = some (pinO (N + 1) o.o2) := by rw [ItX.dropH_ne (ad _ 1 2 (by decide)), ItX.dropH_ne (ad _ 1 3 (by decide)), ItX.dropH_ne (ad _ 1 4 (by decide))]; exact z1
  have d1 : ItX.dropH (ItX.dropH (ItX.dropH (ItX.dropH (zipH H' N o) (N + 4)) (N + 3)) (N + 2)) (N + 1) N = some (pinO N o.o1) := by rw [ItX.dropH_ne ((ad0 N 1 (by decide)).symm), ItX.dropH_ne ((ad0 N 2 (by decide)).symm), ItX.dropH_ne ((ad0 N 3 (by decide)).symm), ItX.dropH_ne ((ad0 N 4 (by decide)).symm)]; exact z0
  have I2 := ItX.inv_drop (ItX.inv_drop (ItX.inv_drop (ItX.inv_drop (ItX.inv_drop I1 z4) d4) d3) d2) d1
  rw [e5] at I2
  have sz : ∀ j, X.s_0.heap.objs.size ≤ N + j := fun j => Nat.le_trans hsz (Nat.le_add_right _ _)
  have f4 := fp_moved (ItX.inv_fp I1 z4 (sz 4)) (hf 4 (by omega))
  have f3 := fp_moved (ItX.inv_fp I1 z3 (sz 3)) (hf 3 (by omega))
  have f2 := fp_moved (ItX.inv_fp I1 z2 (sz 2)) (hf 2 (by omega))
  have f1 := fp_moved (ItX.inv_fp I1 z1 (sz 1)) (hf 1 (by omega))
  have f0 := fp_moved (ItX.inv_fp I1 z0 hsz) (hf 0 (by omega))
  refine wpAny_pyIter_zip st1 ?_
  refine ⟨N + 4, _, _, ItZ X.K Ok xs ys, H', rfl, I2, turn_zipD S1 S2, ⟨Nat.zero_le _, st1, st2, st3, st4, st5⟩, fun c hc => ?_, hR⟩
  have e' : c = N + 4 ∨ c = N + 2 ∨ c = N + 3 ∨ c = N ∨ c = N + 1 := by simpa using hc
  rcases e' with e | e | e | e | e
  · rw [e]; exact f4
  · rw [e]; exact f2
  · rw [e]; exact f3
  · rw [e]; exact f0
  · rw [e]; exact f1
end
/-! ### the two statements -/
theorem EnvR.hide {G : Glob} {ρ : List Addr} {env : Env} {σ : L2.St} {H : Hp} {i : Nat} {v : Option V} (h : EnvR G ρ env σ H) : EnvR G ρ (env.set i none) (σ.set i v) H := by
  have fact : ∀ j s, (env.set i none)[j]? = some (some s) → i ≠ j ∧ env[j]? = some (some s) := fun j s e => by
    by_cases hj : i = j
    · subst hj
      by_cases hl : i < env.length
      · rw [List.getElem?_set_self hl] at e; cases e
      · rw [List.getElem?_eq_none (by rw [List.length_set]; omega)] at e; cases e
    · rw [List.getElem?_set_ne hj] at e
      exact ⟨hj, e⟩
  refine ⟨by rw [List.length_set, List.length_set]; exact h.len, fun j s e => ?_, fun j k xs ys b e1 e2 e3 e4 => ?_⟩
  · obtain ⟨hj, e⟩ := fact j s e
    obtain ⟨y, h1, h2⟩ := h.slot j s e
    exact ⟨y, by rw [List.getElem?_set_ne hj]; exact h1, h2⟩
  · obtain ⟨n1, f1⟩ := fact j _ e1
    obtain ⟨n2, f2⟩ := fact k _ e2
    rw [List.getElem?_set_ne n1] at e3
    rw [List.getElem?_set_ne n2] at e4
    exact h.own j k xs ys b f1 f2 e3 e4
theorem bnd_assoc {α β γ : Type} (m : M α) (f : α → M β) (g : β → M γ) : DL.bnd (DL.bnd m f) g = DL.bnd m fun x => DL.bnd (f x) g := by
  funext S
  unfold DL.bnd
  cases m S with
  | none => rfl
  | some p =>
    obtain ⟨r, S1⟩ := p
    cases r <;> rfl
theorem bnd_lift_assoc {α β : Type} (o : Option α) (f : α → M β) : DL.bnd (DL.lift o) f = fun S => match o with | some a => f a S | none => none := by
  funext S
  cases o <;> rfl
section
variable {X : Cx} {exc : Str → Option (Addr × Str)} {T : List (Addr × Str)} {W : WX} {Γ : Ctx} {ρ0 : List Addr} {H0 : Hp} {a b : Expr} {ea eb : E} {i : Nat} {x : Str} {p1 p2 p3 p4 p5 p6 p7 p8 p9 tpos : Pos} {elts : List Expr} {kk : Nat}
theorem PSs.lenS {p : List Stmt} {t : TS} (h : PSs X p t) : PSs X p (fun D σ H => σ.length = X.N.length → t D σ H) := ⟨fun pins s σ H D I q => h.run pins s σ H D I (q I.len)⟩
theorem zret_ev {vs : List Nat} {ce : E} {ctg : Tg} (env : Env) : evSs Γ (.cons (.zret i ea eb vs ce ctg) .nil) env = DL.bnd (evE Γ ea env) fun x => DL.bnd (evE Γ eb env) fun y => DL.bnd (DL.lift ((items x).bind fun xs => (items y).map fun ys => zipD xs ys)) fun zs =>
      DL.bnd (compM (wipeE (env.set i none) vs) ctg (evT Γ .yes) (evE Γ ce) zs) fun ys => DL.ret (.ret (.d (.tuple ys))) := by
  rw [evSs_cons]
  simp only [evS, bnd_assoc]
  rfl
theorem ss_zret {elt : Expr} {scope : Scope} {own : List (Str × Nat)} {ce : E} {ctg : Tg} (hc : X.calm = true) (hN : X.N.Nodup) (hn : NmI X i x) (hx : Loc X.env.scope x) (hf : X.fn x = true ∨ X.env.scope.names.lookup x = some .local)
    (hg : Gl X "zip") (hm : X.mg "zip" = none) (hg2 : Gl X "tuple") (hm2 : X.mg "tuple" = none) (ha : SE X exc T W Γ .pers a ea) (hb : SE X exc T W Γ .pers b eb) (hs : nost a = true) (hs2 : nost b = true) (ok : BlkOk X.N X.env.scope scope own)
    (ht : ∀ (s : Shared) (H : Hp) (C : Addr) (cl : List (Str × Addr)) (fp : List Addr), PG (X.blk s H scope (compEnvC scope cl C X.env) fp) (.Tuple elts kk tpos) (gK X.K ctg))
    (he : ∀ (s : Shared) (H : Hp) (C : Addr) (cl : List (Str × Addr)) (fp : List Addr), PE (X.blk s H scope (compEnvC scope cl C X.env) fp) elt (tE (gl X exc T) W0 .pers Γ ce)) (htg : ∀ i ∈ tgIx ctg, i ∈ own.map (·.2)) :
    SSs X exc T W Γ ρ0 H0 [.Assign [.Name x p1] (.Call (.Name "zip" p2) [a, b] [] p3) p4, .Return (some (.Call (.Name "tuple" p5) [.ListComp elt [⟨.Tuple elts kk tpos, .Name x p6, [], 0⟩] scope p7] [] p8)) p9] (.cons (.zret i ea eb (own.map (·.2)) ce ctg) .nil) := by
  refine PSs.imp (PSs.lenS (pss_cons (ps_asg (pe_zipV hg hm ha hb hs hs2) (pg_name hN hn.ix hx hf) rfl rfl) (pss_one (ps_ret (pe_callTy (o1_tuple (exc := exc) (T := T)) hg2 hm2 (by with_unfolding_all rfl) (pa_cons (pe_lc (tt := tT (gl X exc T) W0 Γ .yes) hc hN (pi_zipN hn.ix hn.vis hn.dbg hn.cdi) ok ht (fun _ _ _ _ _ => pts_yes (exc := exc) (T := T) (W := W0) (Γ := Γ)) he) pa_nil (star_cons rfl _ _)) (by decide) (by decide) (star_cons rfl _ _) rfl))))) fun Dn σ H ⟨ρ, env, S, h⟩ hlen0 => ?_
  rw [zret_ev] at h
  refine At.tm (c := evE Γ ea) (At.mono (AtS.bndE (Rel1 := RR _ .pers) h) fun x1 H1 q => ?_)
  obtain ⟨ρ1, d1, S1, e1, r1, h1⟩ := q
  refine At.tm (c := evE Γ eb) (At.mono (AtS.bndE (Rel1 := RR _ .pers) h1) fun y1 H2 q => ?_)
  obtain ⟨ρ2, d2, S2, e2, r2, h2⟩ := q
  obtain ⟨zs, hzs, h3⟩ := h2.bndLift
  rw [Option.bind_eq_some_iff] at hzs
  obtain ⟨xs, hxs, hzs⟩ := hzs
  rw [Option.map_eq_some_iff] at hzs
  obtain ⟨ys, hys, rfl⟩ := hzs
  refine ⟨d1, d2, xs, ys, Rp.mono e2.per r1, r2, hxs, hys, fun N o Ok hsz hf5 zp ok2 okp hlen => ?_⟩
  obtain ⟨srb, r, Sf, ev, fin⟩ := h3
  have hls : i < σ.length := by
    rw [hlen0]
    exact (List.getElem?_eq_some_iff.mp hn.ix).1
  obtain ⟨zs, ec0, rfl⟩ : ∃ zs, compM (wipeE (env.set i none) (own.map (·.2))) ctg (evT Γ .yes) (evE Γ ce) (zipD xs ys) S2 = some (.ok zs, Sf) ∧ r = .ok (.ret (.d (.tuple zs))) := by
    unfold DL.bnd at ev
    split at ev
    · cases ev
    · cases ev; exact ⟨_, by assumption, rfl⟩
    · rename_i q
      obtain ⟨_, z⟩ := compM_ne _ _ _ _ q
      cases z
  have sr1 : SR (gl X exc T) ρ2 (env.set i none) S2 (σ.set i (some (.ref (N + 4)))) H2 := ⟨srb.sr.env.hide, srb.sr.st, srb.sr.tabs⟩
  refine ⟨N, o, Ok, xs, ys, H2, List.getElem?_set_self hls, rfl, hsz, hf5, zp, ok2, ?_⟩
  have wk : Wk (gl X exc T) false (ItZ X.K Ok xs ys) (fun _ H => Ok H) (zipD xs ys) := wk_zip (G := gl X exc T) (pf := false) hlen (fun _ _ H H' e q => okp H H' e.per q) (fun _ _ _ H H' p q => okp H H' p q) (fun _ H q => q)
  refine comp_core (Q := fun x H1 => rC1 (gl X exc T) true (op1 .tuple) [x] H1 Dn.rt) htg wk ok2 sr1 ec0 fun z ρ' H' ex st nr => ?_
  refine ⟨z, rfl, ρ', .list zs, .tuple zs, NewR.tr nr, rfl, fun t H'' g nv => ?_⟩
  have nv : Rp X.K H'' t (.tuple zs) := nv
  exact fin t ρ' H'' (srb.ex.trans (ex.trans (.grow g))) (st.grow g) nv
theorem st_isB {o : O1} {op : CmpOp} {cb : Bool} {j : Nat} {pos' pos : Pos} (hbo : ∀ d r, op1 o d = some r → ∃ k, r = .bool k) (ho : OpR X (compareOp op) (fun x y H Q => y = .bl cb ∧ rD1 (gl X exc T) true (op1 o) x H Q)) (ha : SE X exc T W Γ .tran a ea) (hm : behindInMarks op (.Constant (.bool cb) j pos') = false) :
    ST X exc T W Γ (.Compare a [op] [.Constant (.bool cb) j pos'] pos) (.e (.op1 o ea)) := by
  refine st_of_bool (fun S r S' d env ev er => ?_) (pt_cmpR ho ha pe_bl hm) (fun σ H Q h => ?_)
  · subst er
    have ev : DL.bnd (evE Γ ea env) (fun x => DL.lift (op1 o x)) S = some (.ok d, S') := ev
    obtain ⟨x, S1, _, ev⟩ := bnd_ok ev
    obtain ⟨w, hw, e1, _⟩ := lift_ok ev
    cases e1
    exact hbo _ _ hw
  · obtain ⟨ρ, env, S, q⟩ := one_at (f := op1 o) rfl h
    exact ⟨ρ, env, S, q.mono fun x H1 r => ⟨rfl, r⟩⟩
end
end DL
end

section
/-! Sd11: the package's own error: made, raised, told -/
namespace DL
open PySem PySem.Spec PyProof.Rows L2 PySem.W PySem.Calls PySem.HandSPX

/-! ### the text of BadArgument.__init__ -/
def bA (p1 p2 : Pos) : Arguments := { posonlyargs := [], args := [{ arg := "self", annotation := none, pos := p1 }, { arg := "name", annotation := none, pos := p2 }], vararg := none, kwonlyargs := [], kw_defaults := [], kwarg := none, defaults := [] }
def bB (q1 q2 q3 q4 q5 q6 q7 q8 q9 q10 : Pos) : List Stmt := [.Expr (.Call (.Attribute (.Call (.Name "super" q1) [] [] q2) "__init__" q3) [.Name "name" q4] [] q5) q6, .Assign [.Attribute (.Name "self" q7) "name" q8] (.Name "name" q9) q10]
/-- the def's names -/
structure BadSc (sc : Scope) : Prop where
  kind : sc.kind = .function
  co : sc.isCoroutine = false
  gen : sc.isGenerator = false
  cell : ∀ y ∈ sc.names, y.2 ≠ .cell
  self : sc.names.lookup ("self" : Str) = some .local
  name : sc.names.lookup ("name" : Str) = some .local
  sup : sc.names.lookup ("super" : Str) = some .globalImplicit
  cls : sc.names.lookup ("__class__" : Str) = some .free
structure BadTxt (P : Program) (K : Frag) (mg : Str → Option Value) (C fI : Addr) : Prop where
  gC : mg "BadArgument" = some (.ref C)
  gS : mg "super" = none
  ini : excInitIn K C [.type "ValueError", .type "Exception", .type "BaseException", .type "object"] "ValueError.__new__" = true
  mro : ∃ cd l, clsIn K C = some cd ∧ cd.mro = .ref C :: l ∧ alongIn K "__init__" l = some (some (.builtin "ValueError.__init__")) ∧ refsVE (.ref C :: l) = true ∧ cd.hasDict = true
  sa : findIn K (.ref C) "__setattr__" = some (some (.builtin "object.__setattr__"))
  ga : findIn K (.ref C) "__getattribute__" = some (some (.builtin "BaseException.__getattribute__"))
  gg : findIn K (.ref C) "__getattr__" = some none
  noN : findIn K (.ref C) "name" = some none
  iC : findIn K (.ref C) "__init__" = some (some (.ref fI))
  tC : typeIn K (.ref fI) = some (.type "function")
  kC : keepIn K (.ref C) = true
  exC : subIn K (.ref C) (.type "BaseException") = some true
  tyC : typeIn K (.ref C) = some (.type "type")
  hdC : hasDictIn K C = true
  te : exmOne K (.ref C) (.ref C) = some true
  veC : mroIn K C (.type "ValueError") = some true
  slf : mroIn K C (.ref C) = some true
  tp : nsIn K cStatics "thirdparty.any" = some none
  top : (P.main.scope.names.lookup ("super" : Str)).isSome = false
  fn : ∃ (oc : Value) (od : Option Addr) (doc pm : Value) (an : Option Addr) (cda : Addr) (ct : Value) (cc : Addr) (osl : Array (Option Value)) (sc : Scope) (p1 p2 q1 q2 q3 q4 q5 q6 q7 q8 q9 q10 : Pos) (oc2 : Value) (od2 : Option Addr) (vs : Array Value) (sl2 : Array (Option Value)) (file : Str) (tf : Tok) (oc3 : Value) (od3 : Option Addr) (sl3 : Array (Option Value)),
    K.lookup fI = some ⟨oc, od, .func (ksFn "__init__" "BadArgument.__init__" (bA p1 p2) (bB q1 q2 q3 q4 q5 q6 q7 q8 q9 q10) sc .none .none doc pm an (.ref cda) ct cc), osl⟩ ∧ codeIn K (.ref cda) "BadArgument.__init__" = true ∧ BadSc sc ∧
    K.lookup cda = some ⟨oc2, od2, .fields vs, sl2⟩ ∧ vs[2]? = some (.str file tf) ∧ ((P.main.file : Str) == file) = true ∧ K.lookup cc = some ⟨oc3, od3, .cell (some (.ref C)), sl3⟩
theorem size1 (v : Value) : [v].length ≤ sizeLine := by
  rw [sizeLine_eq]
  exact (by decide : 1 ≤ 16777216)
/-- what __init__ leaves of a fresh exception at x -/
structure BadEnd (h h' : Heap) (x C dx t1 : Addr) (v : Value) : Prop where
  keep : ∀ b o, b ≠ x → h.get? b = some o → h'.get? b = some o
  obj : h'.get? x = some { cls := .ref C, dict := some dx, data := .fields #[.ref t1, .none, .none, .none, .bool false, .none] }
  dbig : h.objs.size ≤ dx
  dne : dx ≠ x
  ns : h'.Ns1 dx (fun y => if y = "name" then some v else none)
section
variable {prog : Program} {w : World} {A : Around} {E : Value → Shared → Prop} {h : Heap} {g : Array GenState} {d : Drawn} {t : Nat} {os : OsState}
variable {nm q : Str} {C N : Addr} {bs bm : List Value} {hdct : Bool} {sn : List Str} {sub : List Value} {ab : Bool} {col : Option Bool} {dd : Option Addr} {k0 k1 k2 k3 k5 : Option Value}
/-- the bound ValueError.__init__, called: the args are laid anew -/
theorem ve_call {u e t0 : Addr} {rest : List Value} {Q : Value → Shared → Prop}
    (hC : h.get? C = some (excClassObj nm q C N bs bm hdct sn sub ab col dd k0 k1 k2 k3 k5 "ValueError.__new__")) (he : h.get? e = some (excO C t0)) (hu : h.get? u = some (kxs_mw "ValueError.__init__" e)) (hrest : rest.length ≤ sizeLine)
    (hq : ∀ h' t1, (∀ b o, b ≠ e → h.get? b = some o → h'.get? b = some o) → h'.get? e = some (excO C t1) → h.objs.size ≤ h'.objs.size → Q .none ⟨h', g, d, t, os⟩) :
    wpAny (model prog w) A (call (.ref u) rest) Q E ⟨h, g, d, t, os⟩ := by
  refine wpAny_call (codeAny_of_tree ?_)
  show wpAny _ A.in1 (callAny (.ref u) ⟨rest, []⟩) _ _ _
  simp only [callAny]
  refine wpAny_bind (wpAny_load hu ?_)
  simp only [kxs_mw, show (Value.type "method-wrapper" == Value.type "method" || Value.type "method-wrapper" == Value.type "builtin_function_or_method" || Value.type "method-wrapper" == Value.type "method-wrapper") = true by decide, if_true]
  refine KFB.if_so (by decide) ?_
  refine wpAny_bind (PySem.ESX.check_bound F.excBase_ValueError hC he rfl ?_)
  refine wpAny_bind (wpAny_pure (wpAny_pure ?_))
  refine ⟨Code.quiet_builtin _ (by decide +kernel), codeAny_builtin F.excBase_ValueError.initEntry ?_⟩
  rw [Around.under_plainId F.excBase_ValueError.init.plain _]
  wp_walk
  refine hq _ h.objs.size (fun b o hb ho => ?_) ?_ ?_
  · rw [Heap.get?_update_other _ _ (Ne.symm hb)]
    exact Heap.get?_push_of_some _ ho
  · rw [Heap.get?_update_self _ (Heap.get?_push_of_some _ he) rfl]
    rfl
  · rw [Heap.size_update, Heap.size_push]
    exact Nat.le_succ _
end
section
variable {P : Program} {w : World} {A : Around} {E : Value → Shared → Prop} {R : Result → Shared → Prop} {s : Shared} {K : Frag} {mg : Str → Option Value} {C fI : Addr}
/-- o.name(x), o a call of super -/
theorem wpAt_super {M : Model} {A : Around} {E : Value → Shared → Prop} {s : Shared} {c : Code} {env : PySem.Env} {p1 p2 p3 : Pos} {name x : Str} {apos pos : Pos} {Q : Value → Shared → Prop}
    (h : _root_.PySem.wpAt M A c (attributeBase (.Call (.Name "super" p1) [] [] p2) name env (eval (.Call (.Name "super" p1) [] [] p2) env)) (fun ov s₁ => ∀ pl pc, wpAny M A (getMethod ov name pl) (fun fx s₂ => wpAny M A (callWith pc fx.1 fx.2 (backTo pos (starEach [.Name x p3] env)) []) Q E s₂) E s₁) E s) :
    _root_.PySem.wpAt M A c (eval (.Call (.Attribute (.Call (.Name "super" p1) [] [] p2) name apos) [.Name x p3] [] pos) env) Q E s := by
  rw [arm_eval_Call]
  have hform : methodCallForm ([Expr.Name x p3].length + ([] : List Keyword).length) (backTo pos (starEach [.Name x p3] env)) (backToKw pos (keywordEach [] env)) = true := by rfl
  refine _root_.PySem.wpAt_bind (_root_.PySem.wpAt_mono h (fun ov s₁ h₁ => _root_.PySem.wpAt_of_wpAny (wpAny_bind (wpAny_standAt ?_))) fun _ _ x => x)
  unfold methodCall
  rw [hform]
  unfold calleeOf
  rw [if_pos rfl]
  have hp : ∃ pc, methodCallPos true (.Call (.Name "super" p1) [] [] p2) env apos pos = pure pc := by
    unfold methodCallPos
    by_cases q : (apos.endLine == pos.line) = true
    · refine ⟨pos, ?_⟩
      rw [q]
      rfl
    · refine ⟨{ pos with line := apos.endLine }, ?_⟩
      have q' : (apos.endLine == pos.line) = false := by
        cases z : (apos.endLine == pos.line) with
        | false => rfl
        | true => exact absurd z q
      rw [q']
      rfl
  obtain ⟨pc, hp⟩ := hp
  rw [hp]
  refine wpAny_bind (wpAny_holding (wpAny_mono (h₁ _ pc) (fun fx s₂ h₂ => ?_) fun _ _ x => x))
  exact h₂
end
theorem kept_but {K : Frag} {h h' : Heap} {x : Addr} (X : K.In h) (hx : K.lookup x = none) (k : ∀ b o, b ≠ x → h.get? b = some o → h'.get? b = some o) : K.In h' := fun a o e =>
  k a o (fun z => by rw [z, hx] at e; cases e) (X a o e)
section
variable {P : Program} {w : World} {A : Around} {E : Value → Shared → Prop} {R : Result → Shared → Prop} {s : Shared} {K : Frag} {mg : Str → Option Value} {C fI : Addr}
theorem bad_init (B : BadTxt P K mg C fI) {x t0 : Addr} {v : Value} (X : K.In s.heap) (hg : s.heap.Ns mainGlobals mg) (hb : ∃ mb, s.heap.Ns builtinsNs mb ∧ ∀ y : Str, y ≠ "__name__" → mb y = bootBuiltins y) (hlim : s.heap.NoLimit) (hx : s.heap.get? x = some (excO C t0)) (hnx : K.lookup x = none)
    (hroom : A.depth < recursionLimit) (hq : ∀ h' tk dx t1, BadEnd s.heap h' x C dx t1 v → R (.ok (.ret .none)) { s with heap := h', toks := tk }) :
    codeAny (model P w) A (.call (.ref fI) ⟨[.ref x, v], []⟩) R s := by
  obtain ⟨oc, od, doc, pm, an, cda, ct, cc, osl, sc, p1, p2, q1, q2, q3, q4, q5, q6, q7, q8, q9, q10, oc2, od2, vs, sl2, file, tf, oc3, od3, sl3, ho, hcd, S, hcode, hvs, hfile, hcell⟩ := B.fn
  obtain ⟨nm, N, qn, bs, bm, hdct, sn, sub, ab, col, dd, k0, k1, k2, k3, k5, hC', hT⟩ := excInit_of X B.ini
  obtain ⟨cd, l, hcl, hmro, hal, hve, hhd⟩ := B.mro
  obtain ⟨mb, hbn, hbb⟩ := hb
  refine ks_codeAny_call_defAt (binds := [("self", .ref x), ("name", v)]) hroom (X _ _ ho) rfl hlim (codeRec_of X hcd) rfl (BindsTo.of_eq (by first | rfl | with_unfolding_all rfl)) S.cell (fun y hy => ?_) (fun h₀ hns kp => ?_) S.co S.gen S.kind
  · rcases List.mem_cons.mp hy with rfl | hy
    · exact S.self
    · rcases List.mem_cons.mp hy with rfl | hy
      · exact S.name
      · cases hy
  have X0 : K.In h₀ := X.keeps kp
  have hx0 := kp _ _ hx
  have lk1 : ([("self", Value.ref x), ("name", v)] : List (Str × Value)).reverse.lookup ("self" : Str) = some (.ref x) := by first | rfl | with_unfolding_all rfl | kernel_rfl
  have lk2 : ([("self", Value.ref x), ("name", v)] : List (Str × Value)).reverse.lookup ("name" : Str) = some v := by first | rfl | with_unfolding_all rfl | kernel_rfl
  have hL : s.heap.objs.size ≠ x := Nat.ne_of_gt (Heap.lt_size hx)
  obtain ⟨oD, hD1, hD2⟩ : ∃ oD, K.lookup C = some oD ∧ oD.data = .cls cd := by
    unfold clsIn at hcl
    split at hcl
    · cases hcl
      exact ⟨_, by assumption, rfl⟩
    · cases hcl
  have hxC : x ≠ C := fun z => by rw [z, hD1] at hnx; cases hnx
  obtain ⟨hp, g, dr, tk, os⟩ := s
  have hint : interactive (callEnv (ksFn "__init__" "BadArgument.__init__" (bA p1 p2) (bB q1 q2 q3 q4 q5 q6 q7 q8 q9 q10) sc .none .none doc pm an (.ref cda) ct cc) hp.objs.size fI) = false := by
    have q : sc.kind = .function := S.kind
    show (sc.kind == .module && _) = false
    rw [q]
    rfl
  -- super().__init__(name)
  refine _root_.PySem.ks_wpAt_execs_cons (PySem.ks_wpAt_Expr_any (wpAt_super (PySem.ks_wpAt_super_base (env := ksEnv "BadArgument.__init__" sc hp.objs.size fI (.ref cda) cc) S.sup S.cls (by decide) rfl (X0 _ _ ho) rfl (ar := ⟨"self", none, p1⟩) rfl rfl (X0 _ _ hcode) rfl hvs hfile B.top ?_)) hint rfl)
  have hsup : mb "super" = some (.type "super") := (hbb _ (by decide +kernel)).trans (by with_unfolding_all rfl)
  refine ks_loadName_global S.kind S.sup (loadGlobal_builtin (env := ksEnv "BadArgument.__init__" sc hp.objs.size fI (.ref cda) cc) (hg.keeps kp) B.gS (hbn.keeps kp) hsup ⟨rfl, ?_⟩)
  refine wpAny_loadName_free S.kind S.cls rfl ⟨_, X0 _ _ hcell, rfl⟩ ?_
  refine wpAny_loadName_local S.kind S.self hns lk1 ?_
  have I0 : InstAt h₀ x (excO C t0) C none := ⟨hx0, rfl, rfl, trivial⟩
  refine ks_wpAny_isType_cls (X0 _ _ hD1) hD2 ⟨rfl, ?_⟩
  refine ks_wpAny_call_super (X0 _ _ hD1) hD2 hx0 rfl (fun c e => ?_) (looks_mroIn X0 B.slf) (fun h1 e1 kp1 pl pc => ?_)
  · cases e
  have X1 : K.In h1 := X0.keeps kp1
  have I1 : InstAt h1 x (excO C t0) C none := ⟨kp1 _ _ hx0, rfl, rfl, trivial⟩
  refine kxs_getMethod kxs_ValueError e1 (looks_opaque X1 B.tp) (l₀ := cd.mro) (l := l) ?_ (by rw [hmro]; exact PySem.ESX.drop_own C l) X1 hal (I1.type.andThen (looks_mroIn X1 B.veC)) hxC (by decide) ?_
  · exact fun A Q E s k q => wpAny_bind ((looks_clsIn X1 hcl) A _ E s k (wpAny_pure q))
  generalize hu : h1.objs.size = u
  have hu1 : (h1.push (kxs_mw "ValueError.__init__" x)).get? u = some (kxs_mw "ValueError.__init__" x) := by rw [← hu]; exact Heap.get?_push_at rfl rfl
  have kp2 : ∀ b o, h1.get? b = some o → (h1.push (kxs_mw "ValueError.__init__" x)).get? b = some o := fun b o e => Heap.get?_push_of_some _ e
  have ns2 : (h1.push (kxs_mw "ValueError.__init__" x)).Ns hp.objs.size _ := (hns.keeps kp1).keeps kp2
  show wpAny (model P w) _ (callWith pc (.ref u) [] _ []) _ _ _
  refine kxs_callWith (i := "ValueError.__init__") (x := x) rfl (evalArgs_plain (spliced_cons (PySem.ESX.ldL ns2 lk2 (spliced_nil ⟨hu1, ?_⟩) S.kind S.name (by decide))))
  refine ve_call (kp2 _ _ (kp1 _ _ (kp _ _ hC'))) (kp2 _ _ (kp1 _ _ hx0)) hu1 (size1 v) fun h3 t1 kp3 e3 sz3 => ?_
  -- self.name = name
  have keep3 : ∀ b o, b ≠ x → hp.get? b = some o → h3.get? b = some o := fun b o hb e => kp3 b o hb (kp2 _ _ (kp1 _ _ (kp _ _ e)))
  have X3 : K.In h3 := kept_but X hnx keep3
  obtain ⟨oL, es, ep, hLo, rL⟩ := ns2
  have ns3 : h3.Ns hp.objs.size (fun y => ([("self", Value.ref x), ("name", v)] : List (Str × Value)).reverse.lookup y) := ⟨oL, es, ep, kp3 _ _ hL hLo, rL⟩
  show _root_.PySem.wpAt (model P w) _ _ (execs [.Assign [.Attribute (.Name "self" q7) "name" q8] (.Name "name" q9) q10] _) _ _ _
  refine _root_.PySem.ks_wpAt_execs_cons (PySem.ks_wpAt_Assign_Attr (_root_.PySem.wpAt_of_wpAny (PySem.ESX.ldL ns3 lk2 (PySem.ESX.ldL ns3 lk1 ?_ S.kind S.self (by decide)) S.kind S.name (by decide))) rfl)
  refine set_plain X3 (ox := excO C t1) (od := none) ⟨e3, rfl, rfl, trivial⟩ B.sa ?_
  refine exc_osa X3 e3 hcl (by rw [hmro]; exact hve) hhd B.noN (fun h4 tk4 dx k4 dn dne hx4 hn4 => ?_)
  refine _root_.PySem.wpAt_of_wpAny (wpAny_execs_nil (hq h4 tk4 dx t1 ⟨fun b o hb e => k4 b o hb (keep3 b o hb e), hx4, ?_, dne, hn4⟩))
  have z1 := Heap.lt_size hLo
  rw [Heap.size_push] at z1
  have z2 := sz3
  rw [Heap.size_push] at z2
  exact Nat.le_trans (Nat.le_of_lt z1) (Nat.le_trans z2 dn)
end
end DL
end

section
/-! Sd12: the own error raised -/
namespace DL
open PySem PySem.Spec PyProof.Rows L2 PySem.W PySem.Calls PySem.HandSPX
/-- a made BadArgument -/
structure BadMade (h h' : Heap) (e C d : Addr) (v : Value) : Prop where
  keep : ∀ b o, h.get? b = some o → h'.get? b = some o
  new : h.objs.size ≤ e
  obj : ∃ oe vs, h'.get? e = some oe ∧ oe.cls = .ref C ∧ oe.dict = some d ∧ oe.data = .fields vs ∧ vs[1]? = some .none
  dbig : h.objs.size ≤ d
  dne : d ≠ e
  ns : h'.Ns1 d (fun y => if y = "name" then some v else none)
section
variable {P : Program} {w : World} {A : Around} {E : Value → Shared → Prop} {R : Result → Shared → Prop} {s : Shared} {K : Frag} {mg : Str → Option Value} {C fI : Addr}
theorem bad_made (B : BadTxt P K mg C fI) {v : Value} (X : K.In s.heap) (hg : s.heap.Ns mainGlobals mg) (hb : ∃ mb, s.heap.Ns builtinsNs mb ∧ ∀ y : Str, y ≠ "__name__" → mb y = bootBuiltins y) (hlim : s.heap.NoLimit) (hroom : A.depth + 1 < recursionLimit)
    (hq : ∀ h' tk e d, BadMade s.heap h' e C d v → R (.ok (.ret (.ref e))) { s with heap := h', toks := tk }) :
    codeAny (model P w) A (.call (.ref C) ⟨[v], []⟩) R s := by
  obtain ⟨nm, N, qn, bs, bm, hdct, sn, sub, ab, col, dd, k0, k1, k2, k3, k5, hC, hT⟩ := excInit_of X B.ini
  obtain ⟨hp, g, dr, tk, os⟩ := s
  have k : ∀ b o, hp.get? b = some o → ((hp.push (kdv_tup [v])).push (excO C hp.objs.size)).get? b = some o := fun b o e => Heap.get?_push_of_some _ (Heap.get?_push_of_some _ e)
  have hget : ((hp.push (kdv_tup [v])).push (excO C hp.objs.size)).get? (hp.objs.size + 1) = some (excO C hp.objs.size) := by heap_get
  have hnx : K.lookup (hp.objs.size + 1) = none := by
    cases e : K.lookup (hp.objs.size + 1) with
    | none => rfl
    | some o =>
      have z : hp.get? (hp.objs.size + 1) = some o := X _ _ e
      exact absurd (Nat.lt_of_succ_lt (Heap.lt_size z)) (Nat.lt_irrefl _)
  obtain ⟨mb, hb1, hb2⟩ := hb
  refine call_own F.excBase_ValueError hT hC (looks_findIn X B.iC) (fun self => bind_fn X self B.tC) (size1 v) ?_
  refine bad_init (s := ⟨(hp.push (kdv_tup [v])).push (excO C hp.objs.size), g, dr, tk, os⟩) B (X.keeps k) (hg.keeps k) ⟨mb, hb1.keeps k, hb2⟩ (hlim.keeps k) hget hnx ?_ fun h' tk' dx t1 ⟨k', hx, dn, dne, hns⟩ => ?_
  · show A.depth + 1 < recursionLimit
    exact hroom
  · have old : ∀ b o, hp.get? b = some o → h'.get? b = some o := fun b o e => k' b o (Nat.ne_of_lt (Nat.lt_succ_of_lt (Heap.lt_size e))) (k b o e)
    have z : hp.objs.size + 1 + 1 ≤ dx := by
      first
        | (simpa only [Heap.size_push] using dn)
        | exact dn
        | (have q := dn; rw [Heap.size_push, Heap.size_push] at q; exact q)
    exact ⟨rfl, hq h' tk' (hp.objs.size + 1) dx ⟨old, Nat.le_succ _, ⟨_, _, hx, rfl, rfl, rfl, rfl⟩, Nat.le_trans (Nat.le_trans (Nat.le_succ _) (Nat.le_succ _)) z, dne, hns⟩⟩
end
theorem relO_name {v : V} {v' : Value} (r : RelV v v') (f : Str) : RelO (List.lookup f [(("name" : Str), v)]) (if f = "name" then some v' else none) := by
  by_cases hw : f = "name"
  · subst hw
    rw [if_pos rfl]
    have q : List.lookup ("name" : Str) [(("name" : Str), v)] = some v := by simp [List.lookup]
    rw [q]
    exact r
  · rw [if_neg hw]
    have qw : (f == ("name" : Str)) = false := by simpa using hw
    have q2 : List.lookup f [(("name" : Str), v)] = none := by simp [List.lookup, qw]
    rw [q2]
    trivial
section
variable {X : Cx} {exc : Str → Option (Addr × Str)} {T : List (Addr × Str)} {W : WX} {Γ : Ctx} {ρ0 : List Addr} {H0 : Hp} {C fI : Addr} {e : E} {a : Expr} {k : Nat}
def tMkBad (C : Addr) (ta : TA) : L2.St → Hp → XK → Prop := fun σ H Q => ta σ H fun vs H1 => ∃ v, vs = [v] ∧ ∀ d, H1 d = none → Q (.ref C) (some d) (upd H1 d (.xd [(("name" : Str), v)]))
theorem pmk_bad {ta : TA} {p pos : Pos} (B : BadTxt X.prog X.K X.mg C fI) (hr : Room 1 X.A) (ha : PA X [a] ta) (hg : Gl X "BadArgument") (hs : nost a = true) :
    PMk X (.Call (.Name "BadArgument" p) [a] [] pos) (tMkBad C ta) := by
  intro pins s σ H Q I h
  refine wpAny_Call_Name_kw (ld_glob I hg B.gC ?_)
  refine PySem.W.callWith_K (h₀ := X.base) I.ok.mod.kin B.kC (thn (ha.run pos pins s σ H _ I h) fun us s1 hh => ?_) (star_cons hs _ _) (star_any _ _ rfl)
  obtain ⟨vs, H1, I1, r1, v, ev, q1⟩ := hh
  subst ev
  refine ⟨I1.kIn, ?_⟩
  cases r1 with
  | cons rv rn =>
    rename_i v' us'
    cases rn
    show wpAny _ _ (call (.ref C) [v']) _ _ _
    have hlim := I1.nolimit
    have hgl := I1.ok.mod.glob.keeps I1.bk
    obtain ⟨mb, hb1, hb2⟩ := I1.ok.mod.blt
    have hb1 := hb1.keeps I1.bk
    obtain ⟨hp, g, dr, tk, os⟩ := s1
    refine wpAny_call (bad_made B I1.kIn hgl ⟨mb, hb1, hb2⟩ hlim (by have := hr.dp; omega) fun h' tk' e d M => ?_)
    show MkP X pins σ Q (.ref e) ⟨h', g, dr, tk', os⟩
    obtain ⟨oe, fv, hoe, hc, hd, hdat, h1⟩ := M.obj
    have hns := M.ns
    obtain ⟨G', g1, g2⟩ := restrict h' fun b => decide (b ≠ e)
    have gk : ∀ b, b ≠ e → G'.get? b = h'.get? b := fun b hb => g1 b (decide_eq_true hb)
    have ge : G'.get? e = none := g2 e (by simp)
    have old : ∀ b o, hp.get? b = some o → G'.get? b = some o := fun b o q => (gk b (Nat.ne_of_lt (Nat.lt_of_lt_of_le (Heap.lt_size q) M.new))).trans (M.keep b o q)
    have ob : ObjOk X.prog X.w (upd H1 d (.xd [(("name" : Str), v)])) G' d (.xd [(("name" : Str), v)]) :=
      ⟨_, hns.at (fun o q => (gk d M.dne).trans q), fun f => relO_name rv f⟩
    have J : Inv X pins σ (upd H1 d (.xd [(("name" : Str), v)])) ⟨G', g, dr, tk', os⟩ := I1.laid (t' := tk') old M.dbig ob
    refine ⟨e, oe, fv, ⟨G', g, dr, tk', os⟩, _, .ref C, some d, rfl, J, fun b o q => ?_, ge, hoe, ⟨hc, hd⟩, hdat, h1, ?_, rfl, I1.bare, raises_own B.exC B.tyC, q1 d (I1.hok.fresh M.dbig)⟩
    · by_cases hb : b = e
      · have q' : G'.get? b = some o := q
        rw [hb, ge] at q'; cases q'
      · exact (gk b hb).symm.trans q
    · rw [upd_ne (Ne.symm M.dne)]
      exact I1.hok.fresh M.new
theorem s_rais {p pos pos2 : Pos} (hc : X.calm = true) (B : BadTxt X.prog X.K X.mg C fI) (hex : exc "BadArgument" = some (C, ("name" : Str))) (hr : Room 1 X.A) (tk : Takes X W) (hg : Gl X "BadArgument") (hs : nost a = true) (ha : SE X exc T W Γ .pers a e) :
    S1 X exc T W Γ ρ0 H0 (.Raise (some (.Call (.Name "BadArgument" p) [a] [] pos)) none pos2) (.rais "BadArgument" e) :=
  PS.imp (ps_raise hc tk (pmk_bad B hr (pa_cons ha pa_nil (star_cons hs _ _)) hg hs)) fun Dn σ H ⟨ρ, env, S, h⟩ => by
    have h : AtS (gl X exc T) W ρ0 H0 ρ env S σ H (DL.bnd (evE Γ e env) fun x => fun S => some (.err "BadArgument" x, S)) Dn := h
    have h2 := AtS.bndE (Rel1 := RR (gl X exc T) .pers) h
    refine At.tm (c := evE Γ e) (At.mono h2 fun x H1 q => ?_)
    obtain ⟨ρ1, d, S1, e1, r1, sr, r, S', ev, fin⟩ := q
    cases ev
    refine ⟨x, rfl, fun dd hd => ?_⟩
    obtain ⟨C', fld, hc', g⟩ := fin
    have z : (C, ("name" : Str)) = (C', fld) := Option.some.inj (hex.symm.trans hc')
    cases z
    have gr : Grow H1 (upd H1 dd (.xd [(("name" : Str), x)])) := grow_upd hd
    exact g σ dd x ρ1 _ (sr.ex.trans (Ext.grow gr)) (sr.sr.st.grow gr) upd_same (Rp.mono (Per.of gr) r1)
end
end DL
end

section
/-! Sd13: a call that may be refused: _law_refused(lambda: ..) -/
namespace DL
open PySem PySem.Spec PyProof.Rows L2 PySem.HandSPX LamX
section
variable {X : Cx} {exc : Str → Option (Addr × Str)} {T : List (Addr × Str)} {W : WX} {Γ : Ctx} {C fI : Addr} {e : E} {k : Nat}
theorem PE.lend {p : Expr} {t : TE} (h : PE X p t) : PE X p (fun σ H Q => σ.length = X.N.length → t σ H Q) := ⟨fun pins s σ H Q I q => h.run pins s σ H Q I (q I.len)⟩
theorem PSs.lend {p : List Stmt} {t : TS} (h : PSs X p t) : PSs X p (fun D σ H => σ.length = X.N.length → t D σ H) := ⟨fun pins s σ H D I q => h.run pins s σ H D I (q I.len)⟩
def tByName (C : Addr) (a : Addr) (cls : Value) (d : Option Addr) (te : TE) : TE := fun σ H Q => te σ H fun x H1 => x = .ref a ∧ cls = .ref C ∧ ∃ (dd : Addr) (v : V), d = some dd ∧ H1 dd = some (.xd [(("name" : Str), v)]) ∧ Q v H1
theorem pe_byName {a : Addr} {oe : Obj} {cls : Value} {d : Option Addr} {pn : List (Addr × Obj)} {e : Expr} {te : TE} {pos : Pos} (B : BadTxt X.prog X.K X.mg C fI) (hz : Zc cls d oe) (hf : ∃ vs, oe.data = .fields vs) (he : PE (X.suite a ((a, oe) :: pn)) e te)
    (hb : attributeBase e "name" X.env (eval e X.env) = eval e X.env := by rfl) :
    PE (X.suite a ((a, oe) :: pn)) (.Attribute e "name" pos) (tByName C a cls d te) := by
  refine ⟨fun pins s σ H Q I h => ?_⟩
  refine attr_of hb (thn (he.run pins s σ H _ I h) fun u s1 hh => ?_)
  obtain ⟨x, H1, I1, rx, ex, ec, dd, v, ed, ea, q⟩ := hh
  subst ex
  obtain rfl : u = Value.ref a := rx
  subst ec
  subst ed
  obtain ⟨ha, _⟩ := I1.pin (a, oe) (List.mem_append_left _ List.mem_cons_self)
  obtain ⟨vs, hd⟩ := hf
  have hx : ObjOk X.prog X.w H1 s1.heap dd (.xd [(("name" : Str), v)]) := I1.hok dd _ ea
  obtain ⟨mA, hns, hr⟩ := hx
  obtain ⟨od, ho, hl⟩ := lookIn_ns hns
  have l : List.lookup ("name" : Str) [(("name" : Str), v)] = some v := by simp [List.lookup]
  obtain ⟨u, hu, ru⟩ := RelO.some_of (v := v) (o := mA "name") (by rw [← l]; exact hr "name")
  have J : PySem.W.InstAt s1.heap a oe C (some od) := ⟨ha, hz.1, by unfold PySem.W.notCls; rw [hd] <;> rfl, by rw [hz.2]; exact ho⟩
  exact HandSPX.exc_get I1.kIn J B.ga B.gg B.exC (PySem.W.findObj_own B.hdC B.noN rfl (by rw [hl, hu])) (handed_of ru) ⟨v, H1, I1.tok _, ru, q⟩
/-- told: try: a() / except BadArgument as e: return e.name / return '' -/
def TRef (C : Addr) : (XK → Hp → VK → Prop) → Hp → VK → Prop := fun tl H Q =>
  tl (fun cls d H' => cls = .ref C ∧ ∃ (dd : Addr) (v : V), d = some dd ∧ H' dd = some (.xd [(("name" : Str), v)]) ∧ Q v H') H (fun _ H' => Q (.str "") H')
def refB (p1 p2 p3 p4 p5 p6 p7 p8 p9 p10 p11 p12 : Pos) (j : Nat) : List Stmt :=
  [.Try [.Expr (.Call (.Name "call" p1) [] [] p2) p3] [.ExceptHandler (some (.Name "BadArgument" p4)) (some "e") [.Return (some (.Attribute (.Name "e" p5) "name" p6)) p7] p8] [] [] p9, .Return (some (.Constant (.str "") j p10)) p11]
structure RefSc (sg : Scope) : Prop where
  fs : FnScope ["call", "e"] ["call"] sg
  lc : Vis sg "call"
  le : sg.names.lookup ("e" : Str) = some .local
  gb : sg.names.lookup ("BadArgument" : Str) = some .globalImplicit
theorem ref_gives {q : Str} {sg : Scope} {g : Addr} {cdg : Value} {j : Nat} {p1 p2 p3 p4 p5 p6 p7 p8 p9 p10 p11 p12 : Pos} (S : RefSc sg) (B : BadTxt X.prog X.K X.mg C fI) :
    GivesTo X ["call", "e"] "_law_refused" sg g cdg (refB p1 p2 p3 p4 p5 p6 p7 p8 p9 p10 p11 p12 j) "call" q (TRef C) := by
  intro f c' s H Q tl act hc h
  have hgl : Gl (cxOf C8.CX0 X.prog X.w X.K X.mg X.base ["call", "e"] "_law_refused" sg g cdg X.A X.stack s H C8.E0).nox "BadArgument" := S.gb
  refine ⟨_, pss_cons (ps_try_as (X := (cxOf C8.CX0 X.prog X.w X.K X.mg X.base ["call", "e"] "_law_refused" sg g cdg X.A X.stack s H C8.E0).nox) (c := .ref C) (i := 1) (n := "e")
      (tb := fun W D σ H => ∃ Ech : XK, (∀ cls d σ' H', Ech cls d H' → W cls d σ' H') ∧ σ[0]? = some (some (.ref f)) ∧ H c' = some (CodeO c' q) ∧ tl Ech H (fun _ H' => D.nx σ H'))
      (ts := fun a cls d => fun D σ H => σ.length = 2 → tRet (tByName C a cls d (tVar 1)) D σ H)
      rfl rfl S.fs.nd rfl S.le ⟨hgl, by decide, .inl B.gC⟩ LamX.takes0 (fun W pn xe tk _ => ?_) (fun a oe cls d pn hz hf => ?_)) (pss_one (ps_ret pe_str)), ?_⟩
  · refine ⟨fun pins s' σ H' D I h' => ?_⟩
    obtain ⟨Ech, hW, h1, h2, h3⟩ := h'
    have hp := act W pn xe Ech p1 p2 tk hW
    have hq := pss_one (ps_expr (pos := p3) hp)
    exact hq.run pins s' σ H' D I ⟨h1, h2, h3⟩
  · exact PSs.lend (pss_one (ps_ret (pe_byName B hz hf (pe_var (i := 1) rfl (.inl S.le)))))
  · refine ⟨fun cls d H' => cls = .ref C ∧ ∃ (dd : Addr) (v : V), d = some dd ∧ H' dd = some (.xd [(("name" : Str), v)]) ∧ Q v H', fun cls d σ' H' ⟨h1, dd, v, h2, h3, h4⟩ => ⟨true, by rw [h1]; exact B.te, fun _ a ha hl => ?_, fun z => nomatch z⟩, rfl, hc, h⟩
    rw [List.length_set] at hl
    refine ⟨.ref a, ?_, rfl, h1, dd, v, h2, h3, h4⟩
    rw [List.getElem?_set_self (by omega)]
theorem se_refd {params : Arguments} {body : Expr} {scope : Scope} {p lpos pos : Pos} {g c P : Addr} {fd : FuncData} {pg : Arguments} {sg : Scope} {kws : List (Str × V)} {j : Nat} {p1 p2 p3 p4 p5 p6 p7 p8 p9 p10 p11 p12 : Pos}
    (B : BadTxt X.prog X.K X.mg C fI) (hex : exc "BadArgument" = some (C, ("name" : Str))) (S : RefSc sg) (F : FunD X.K "_law_refused" "_law_refused" pg (refB p1 p2 p3 p4 p5 p6 p7 p8 p9 p10 p11 p12 j) sg [] kws g fd) (hb : Binds X.K fd ["call"] [])
    (hg : Gl X "_law_refused") (hm : X.mg "_law_refused" = some (.ref g)) (TB : TabB X.base X.mg c P) (hcode : X.env.code = .ref c) (hmT : (P, X.env.qual ++ "<lambda>") ∈ T) (hu : ∀ p ∈ T, p.1 = P → p.2 = X.env.qual ++ "<lambda>") (hr : Room (k + 2) X.A) (L : LamS X.env.scope scope)
    (hdef : defaultsOf params X.env = ([], [])) (hbind : ∀ (q : Str) (cl : List (Str × Addr)) (pm cv ctv : Value), bindArgs (PySem.W.kla_fn "<lambda>" q params body scope cl pm cv ctv) ⟨[], []⟩ = pure [])
    (hbody : ∀ (A : Around) (outer : List PySem.Env) (s : Shared) (H : Hp) (E : XK) (f c' : Addr), Room k (A.deeper (lamEnv X scope s.heap.objs.size f c')) → SE (lamCx X A outer s H E scope f c') exc T (fun cls d _ H => E cls d H) Γ .pers body e) :
    SE X exc T W Γ .pers (.Call (.Name "_law_refused" p) [.Lambda params body scope lpos] [] pos) (.refd e) := by
  obtain ⟨oc, od, dV, kV, doc, pm, an, cdv, ct, osl, rfl, lk, hcd, _, _⟩ := F.ex
  refine PE.imp (pe_lamcall (T := T) (TT := TRef C) (t := fun E => tE (gl X exc T) (fun cls d _ H => E cls d H) .pers Γ e) hg hm F.kp lk hcd hb S.fs rfl S.lc (ref_gives S B) TB hcode hmT hu hr L hdef hbind hbody) fun σ H Q ⟨ρ, env, S, h⟩ => ⟨h.1.tabs, fun H1 eN T1 => ?_⟩
  obtain ⟨sr, r, S', ev, fin⟩ := h
  have ex : Ext (gl X exc T) ρ H ρ H1 := ⟨⟨[], by simp⟩, fun b u hb n _ => eN b u hb n, fun _ h1 h2 => absurd h1 h2, fun b hb u hu => by
      by_cases z : ∃ ps, u = .tbl ps
      · exact z
      · exact hb u (eN b u hu fun ps q => z ⟨ps, q⟩), ⟨fun b xs hb => eN b _ hb (fun _ z => nomatch z), fun b o u hb => eN b _ hb (fun _ z => nomatch z)⟩, fun _ => T1⟩
  have st : StR (gl X exc T) ρ S H1 := ⟨sr.st.len, sr.st.nd, fun i xs q => by
    obtain ⟨a, vs, h1, h2, h3⟩ := sr.st.at_ i xs q
    exact ⟨a, vs, h1, eN _ _ h2 (not_tbl_lst _), h3.mono ex.per⟩⟩
  have ev : (match evE Γ e env S with
      | some (.ok _, S') => some (Res.ok (PyData.str ""), S')
      | some (.err c x, S') => if c = "BadArgument" then some (.ok x, S') else none
      | none => none) = some (r, S') := ev
  show tM _ _ _ _ σ H1 _
  refine ⟨ρ, env, S, sr.ext ex st, ?_⟩
  cases q : evE Γ e env S with
  | none => rw [q] at ev; cases ev
  | some p =>
    obtain ⟨r1, Sq⟩ := p
    rw [q] at ev
    cases r1 with
    | ok d =>
      cases ev
      exact ⟨.ok d, S', rfl, fun x ρ' H' e1 s1 _ => fin (.str "") ρ' H' (ex.trans e1) s1 (Rp.str _ (by decide +kernel))⟩
    | err cc y =>
      by_cases hcc : cc = "BadArgument"
      · subst hcc
        have ev : some (Res.ok y, Sq) = some (r, S') := ev
        cases ev
        exact ⟨.err "BadArgument" y, S', rfl, C, "name", hex, fun b v ρ' H' e1 s1 hb hv => ⟨rfl, b, v, rfl, hb, fin v ρ' H' (ex.trans e1) s1 hv⟩⟩
      · have ev : (if cc = "BadArgument" then some (Res.ok y, Sq) else none) = some (r, S') := ev
        rw [if_neg hcc] at ev
        cases ev
end
end DL
end

section
/-! Sd14: does a compact text mirror a written one? views, names, targets -/
namespace DL
open PySem PySem.Spec PyProof.Rows L2

/-- what is known of a place in the text -/
structure Cs where
  N : List Str
  sc : Scope
  lam : Bool
  fn : Str → Bool
  fns : Nat → Option (Str × List Str)
  free : List Str
  glb : List (Str × D)
def visB (sc : Scope) (x : Str) : Bool := match sc.names.lookup x with
  | some .local => true
  | some .cell => true
  | some .free => true
  | _ => false
theorem visB_ok {sc : Scope} {x : Str} (h : visB sc x = true) : Vis sc x := by
  unfold visB at h
  split at h
  · exact .inl (by assumption)
  · exact .inr (.inl (by assumption))
  · exact .inr (.inr (by assumption))
  · cases h
def nameOk (c : Cs) (i : Nat) (x : Str) : Bool := decide (c.N[i]? = some x) && (visB c.sc x && (!(x == ("__debug__" : Str)) && !(x == ("__classdict__" : Str))))
def glB (c : Cs) (x : Str) : Bool := decide (c.sc.names.lookup x = some .globalImplicit) && !(x == ("__debug__" : Str))
def freeB (c : Cs) (x : Str) : Bool := glB c x && decide (x ∈ c.free)
def tgNm (c : Cs) (i : Nat) (x : Str) : Bool := decide (c.N[i]? = some x) && (decide (c.sc.names.lookup x = some .local) || (c.fn x && decide (c.sc.names.lookup x = some .cell)))
def eqC : D → D → Bool
  | .none, .none => true
  | .bool a, .bool b => decide (a = b)
  | .int a, .int b => decide (a = b)
  | .str a, .str b => decide (a = b)
  | _, _ => false
theorem eqC_ok {a b : D} (h : eqC a b = true) : a = b := by
  unfold eqC at h
  split at h
  · rfl
  · rw [of_decide_eq_true h]
  · rw [of_decide_eq_true h]
  · rw [of_decide_eq_true h]
  · cases h
/-! ### views -/
def strip : Expr → Expr
  | .BoolOp _ [a] _ => a
  | p => p
def vName : Expr → Option Str
  | .Name x _ => some x
  | _ => none
theorem vName_ok {p : Expr} {x : Str} (h : vName p = some x) : ∃ pos, p = .Name x pos := by
  unfold vName at h
  split at h
  · cases h; exact ⟨_, rfl⟩
  · cases h
def vConst : Expr → Option Const
  | .Constant k _ _ => some k
  | _ => none
theorem vConst_ok {p : Expr} {x : Const} (h : vConst p = some x) : ∃ j pos, p = .Constant x j pos := by
  unfold vConst at h
  split at h
  · cases h; exact ⟨_, _, rfl⟩
  · cases h
def vNeg : Expr → Option Expr
  | .UnaryOp .USub a _ => some a
  | _ => none
theorem vNeg_ok {p x : Expr} (h : vNeg p = some x) : ∃ pos, p = .UnaryOp .USub x pos := by
  unfold vNeg at h
  split at h
  · cases h; exact ⟨_, rfl⟩
  · cases h
def vNot : Expr → Option Expr
  | .UnaryOp .Not a _ => some a
  | _ => none
theorem vNot_ok {p x : Expr} (h : vNot p = some x) : ∃ pos, p = .UnaryOp .Not x pos := by
  unfold vNot at h
  split at h
  · cases h; exact ⟨_, rfl⟩
  · cases h
def vCall : Expr → Option (Str × List Expr × List Keyword)
  | .Call (.Name f _) as ks _ => some (f, as, ks)
  | _ => none
theorem vCall_ok {p : Expr} {f : Str} {as : List Expr} {ks : List Keyword} (h : vCall p = some (f, as, ks)) : ∃ px pos, p = .Call (.Name f px) as ks pos := by
  unfold vCall at h
  split at h
  · cases h; exact ⟨_, _, rfl⟩
  · cases h
def vCall1 : Expr → Option (Str × Expr)
  | .Call (.Name f _) [a] [] _ => some (f, a)
  | _ => none
theorem vCall1_ok {p a : Expr} {f : Str} (h : vCall1 p = some (f, a)) : ∃ px pos, p = .Call (.Name f px) [a] [] pos := by
  unfold vCall1 at h
  split at h
  · cases h; exact ⟨_, _, rfl⟩
  · cases h
def vCall2 : Expr → Option (Str × Expr × Expr)
  | .Call (.Name f _) [a, b] [] _ => some (f, a, b)
  | _ => none
theorem vCall2_ok {p a b : Expr} {f : Str} (h : vCall2 p = some (f, a, b)) : ∃ px pos, p = .Call (.Name f px) [a, b] [] pos := by
  unfold vCall2 at h
  split at h
  · cases h; exact ⟨_, _, rfl⟩
  · cases h
def vLam : Expr → Option (Str × Arguments × Expr × Scope)
  | .Call (.Name f _) [.Lambda params body scope _] [] _ => some (f, params, body, scope)
  | _ => none
theorem vLam_ok {p a : Expr} {f : Str} {ps : Arguments} {sc : Scope} (h : vLam p = some (f, ps, a, sc)) : ∃ px p2 pos, p = .Call (.Name f px) [.Lambda ps a sc p2] [] pos := by
  unfold vLam at h
  split at h
  · cases h; exact ⟨_, _, _, rfl⟩
  · cases h
def vBin : Expr → Option (Expr × Operator × Expr)
  | .BinOp a op b _ => some (a, op, b)
  | _ => none
theorem vBin_ok {p a b : Expr} {op : Operator} (h : vBin p = some (a, op, b)) : ∃ pos, p = .BinOp a op b pos := by
  unfold vBin at h
  split at h
  · cases h; exact ⟨_, rfl⟩
  · cases h
def vCmp1 : Expr → Option (Expr × CmpOp × Expr)
  | .Compare a [op] [b] _ => some (a, op, b)
  | _ => none
theorem vCmp1_ok {p a b : Expr} {op : CmpOp} (h : vCmp1 p = some (a, op, b)) : ∃ pos, p = .Compare a [op] [b] pos := by
  unfold vCmp1 at h
  split at h
  · cases h; exact ⟨_, rfl⟩
  · cases h
def vCmp2 : Expr → Option (Expr × CmpOp × CmpOp × Expr × Expr)
  | .Compare a [op, op'] [b, c] _ => some (a, op, op', b, c)
  | _ => none
theorem vCmp2_ok {p a b c : Expr} {op op' : CmpOp} (h : vCmp2 p = some (a, op, op', b, c)) : ∃ pos, p = .Compare a [op, op'] [b, c] pos := by
  unfold vCmp2 at h
  split at h
  · cases h; exact ⟨_, rfl⟩
  · cases h
def vIs : Expr → Option (Expr × CmpOp)
  | .Compare a [op] [.Constant .none _ _] _ => some (a, op)
  | _ => none
theorem vIs_ok {p a : Expr} {op : CmpOp} (h : vIs p = some (a, op)) : ∃ j p2 pos, p = .Compare a [op] [.Constant .none j p2] pos := by
  unfold vIs at h
  split at h
  · cases h; exact ⟨_, _, _, rfl⟩
  · cases h
def vIsB : Expr → Option (Expr × CmpOp × Bool)
  | .Compare a [op] [.Constant (.bool b) _ _] _ => some (a, op, b)
  | _ => none
theorem vIsB_ok {p a : Expr} {op : CmpOp} {b : Bool} (h : vIsB p = some (a, op, b)) : ∃ j p2 pos, p = .Compare a [op] [.Constant (.bool b) j p2] pos := by
  unfold vIsB at h
  split at h
  · cases h; exact ⟨_, _, _, rfl⟩
  · cases h
def vRev : Expr → Option Expr
  | .Subscript a (.Slice none none (some (.UnaryOp .USub (.Constant (.int 1) _ _) _)) _) _ => some a
  | _ => none
theorem vRev_ok {p a : Expr} (h : vRev p = some a) : ∃ k p1 p2 p3 pos, p = .Subscript a (.Slice none none (some (.UnaryOp .USub (.Constant (.int 1) k p1) p2)) p3) pos := by
  unfold vRev at h
  split at h
  · cases h; exact ⟨_, _, _, _, _, rfl⟩
  · cases h
def vNest : Expr → Option (Str × Str × Expr)
  | .Call (.Name f _) [.Call (.Name g _) [a] [] _] [] _ => some (f, g, a)
  | _ => none
theorem vNest_ok {p a : Expr} {f g : Str} (h : vNest p = some (f, g, a)) : ∃ p1 p2 p3 pos, p = .Call (.Name f p1) [.Call (.Name g p2) [a] [] p3] [] pos := by
  unfold vNest at h
  split at h
  · cases h; exact ⟨_, _, _, _, rfl⟩
  · cases h
def vKw1 : Expr → Option (Str × Expr × Str × Expr)
  | .Call (.Name f _) [a] [⟨some k, b, _⟩] _ => some (f, a, k, b)
  | _ => none
theorem vKw1_ok {p a b : Expr} {f k : Str} (h : vKw1 p = some (f, a, k, b)) : ∃ p1 kp pos, p = .Call (.Name f p1) [a] [⟨some k, b, kp⟩] pos := by
  unfold vKw1 at h
  split at h
  · cases h; exact ⟨_, _, _, rfl⟩
  · cases h
def vMet1 : Expr → Option (Expr × Str × Expr × Bool)
  | .Call (.Attribute x m apos) [b] [] pos => some (x, m, b, apos.endLine == pos.line)
  | _ => none
theorem vMet1_ok {p b x : Expr} {m : Str} {t : Bool} (h : vMet1 p = some (x, m, b, t)) : ∃ apos pos, p = .Call (.Attribute x m apos) [b] [] pos ∧ (apos.endLine == pos.line) = t := by
  unfold vMet1 at h
  split at h
  · cases h; exact ⟨_, _, rfl, rfl⟩
  · cases h
def vSub : Expr → Option (Expr × Expr)
  | .Subscript a b _ => some (a, b)
  | _ => none
theorem vSub_ok {p a b : Expr} (h : vSub p = some (a, b)) : ∃ pos, p = .Subscript a b pos := by
  unfold vSub at h
  split at h
  · cases h; exact ⟨_, rfl⟩
  · cases h
def vSlL : Expr → Option (Expr × Expr)
  | .Subscript a (.Slice (some b) none none _) _ => some (a, b)
  | _ => none
theorem vSlL_ok {p a b : Expr} (h : vSlL p = some (a, b)) : ∃ p2 pos, p = .Subscript a (.Slice (some b) none none p2) pos := by
  unfold vSlL at h
  split at h
  · cases h; exact ⟨_, _, rfl⟩
  · cases h
def vSlU : Expr → Option (Expr × Expr)
  | .Subscript a (.Slice none (some b) none _) _ => some (a, b)
  | _ => none
theorem vSlU_ok {p a b : Expr} (h : vSlU p = some (a, b)) : ∃ p2 pos, p = .Subscript a (.Slice none (some b) none p2) pos := by
  unfold vSlU at h
  split at h
  · cases h; exact ⟨_, _, rfl⟩
  · cases h
def vSlB : Expr → Option (Expr × Expr × Expr)
  | .Subscript a (.Slice (some b) (some c) none _) _ => some (a, b, c)
  | _ => none
theorem vSlB_ok {p a b c : Expr} (h : vSlB p = some (a, b, c)) : ∃ p2 pos, p = .Subscript a (.Slice (some b) (some c) none p2) pos := by
  unfold vSlB at h
  split at h
  · cases h; exact ⟨_, _, rfl⟩
  · cases h
/-- 's'.m(b): s, m, b, all on one line? -/
def vStr : Expr → Option (Str × Str × Expr × Bool)
  | .Call (.Attribute (.Constant (.str z) _ _) m apos) [b] [] pos => some (z, m, b, apos.endLine == pos.line)
  | _ => none
theorem vStr_ok {p b : Expr} {z m : Str} {t : Bool} (h : vStr p = some (z, m, b, t)) : ∃ k pa apos pos, p = .Call (.Attribute (.Constant (.str z) k pa) m apos) [b] [] pos ∧ (apos.endLine == pos.line) = t := by
  unfold vStr at h
  split at h
  · cases h; exact ⟨_, _, _, _, rfl, rfl⟩
  · cases h
def vTup : Expr → Option (List Expr)
  | .Tuple ps _ _ => some ps
  | _ => none
theorem vTup_ok {p : Expr} {ps : List Expr} (h : vTup p = some ps) : ∃ k pos, p = .Tuple ps k pos := by
  unfold vTup at h
  split at h
  · cases h; exact ⟨_, _, rfl⟩
  · cases h
def vLst : Expr → Option (List Expr)
  | .List ps _ => some ps
  | _ => none
theorem vLst_ok {p : Expr} {ps : List Expr} (h : vLst p = some ps) : ∃ pos, p = .List ps pos := by
  unfold vLst at h
  split at h
  · cases h; exact ⟨_, rfl⟩
  · cases h
def vAnd : Expr → Option (Expr × Expr × List Expr × Pos)
  | .BoolOp .And (a :: b :: r) pos => some (a, b, r, pos)
  | _ => none
theorem vAnd_ok {p a b : Expr} {r : List Expr} {pos : Pos} (h : vAnd p = some (a, b, r, pos)) : p = .BoolOp .And (a :: b :: r) pos := by
  unfold vAnd at h
  split at h
  · cases h; rfl
  · cases h
def vOr : Expr → Option (Expr × Expr × List Expr × Pos)
  | .BoolOp .Or (a :: b :: r) pos => some (a, b, r, pos)
  | _ => none
theorem vOr_ok {p a b : Expr} {r : List Expr} {pos : Pos} (h : vOr p = some (a, b, r, pos)) : p = .BoolOp .Or (a :: b :: r) pos := by
  unfold vOr at h
  split at h
  · cases h; rfl
  · cases h
def vIf : Expr → Option (Expr × Expr × Expr)
  | .IfExp c a b _ => some (c, a, b)
  | _ => none
theorem vIf_ok {p a b c : Expr} (h : vIf p = some (c, a, b)) : ∃ pos, p = .IfExp c a b pos := by
  unfold vIf at h
  split at h
  · cases h; exact ⟨_, rfl⟩
  · cases h
def vLC : Expr → Option (Expr × Expr × Expr × List Expr × Scope)
  | .ListComp elt [⟨tg, iter, ifs, 0⟩] scope _ => some (elt, tg, iter, ifs, scope)
  | _ => none
theorem vLC_ok {p elt tg iter : Expr} {ifs : List Expr} {scope : Scope} (h : vLC p = some (elt, tg, iter, ifs, scope)) : ∃ pos, p = .ListComp elt [⟨tg, iter, ifs, 0⟩] scope pos := by
  unfold vLC at h
  split at h
  · cases h; exact ⟨_, rfl⟩
  · cases h
def isSet : Expr → Bool
  | .Set .. => true
  | _ => false
theorem noFold {e : Expr} (h : isSet e = false) (env : PySem.Env) (x : Value) : foldedSetIterable e env x = pure x := by
  cases e <;> first | rfl | cases h
/-! ### operations -/
def binO : Operator → O2 → Bool
  | .Add, .add => true
  | .Sub, .sub => true
  | .Mult, .mul => true
  | .FloorDiv, .fdiv => true
  | .Mod, .mod => true
  | .Pow, .pow => true
  | _, _ => false
def cmpO : CmpOp → O2 → Bool
  | .Eq, .eq => true
  | .NotEq, .ne => true
  | .Lt, .lt => true
  | .LtE, .le => true
  | .Gt, .gt => true
  | .GtE, .ge => true
  | .In, .inn => true
  | .NotIn, .nin => true
  | _, _ => false
def isO : CmpOp → O1 → Bool
  | .Is, .isNone => true
  | .IsNot, .notNone => true
  | _, _ => false
def isBO : CmpOp → O1 → Bool → Bool
  | .Is, .isB c, b => c == b
  | .IsNot, .notB c, b => c == b
  | _, _, _ => false
/-- is, is not a truth value -/
def isRev : O1 → Bool
  | .rev => true
  | _ => false
def isNest : O1 → Str → Str → Bool
  | .lrng, f, g => f == ("list" : Str) && g == ("range" : Str)
  | .sset, f, g => f == ("sorted" : Str) && g == ("set" : Str)
  | _, _, _ => false
def isMaxD : O2 → Bool
  | .maxD => true
  | _ => false
def isNeg : O1 → Bool
  | .neg => true
  | _ => false
def isIdx : O2 → Bool
  | .idx => true
  | _ => false
def isJoin : O2 → Bool
  | .join => true
  | _ => false
section
variable {X : Cx} {exc : Str → Option (Addr × Str)} {T : List (Addr × Str)}
theorem binO_ok {op : Operator} {o : O2} (h : binO op o = true) : OpR X (binaryOp op) (rD2 (gl X exc T) true (op2 o)) := by
  unfold binO at h
  split at h
  · exact o2_add
  · exact o2_sub
  · exact o2_mul
  · exact o2_fdiv
  · exact o2_mod
  · exact o2_pow
  · cases h
theorem cmpO_ok {op : CmpOp} {o : O2} (hu : X.A.units + 164 < cLine) (h : cmpO op o = true) : OpR X (compareOp op) (rD2 (gl X exc T) true (op2 o)) ∧ boolO2 o = true := by
  unfold cmpO at h
  split at h
  · exact ⟨o2_eq hu, rfl⟩
  · exact ⟨o2_ne hu, rfl⟩
  · exact ⟨o2_lt hu, rfl⟩
  · exact ⟨o2_le, rfl⟩
  · exact ⟨o2_gt, rfl⟩
  · exact ⟨o2_ge, rfl⟩
  · exact ⟨o2_in hu, rfl⟩
  · exact ⟨o2_nin hu, rfl⟩
  · cases h
theorem isO_ok {op : CmpOp} {o : O1} (h : isO op o = true) : OpR X (compareOp op) (fun x y H Q => y = .non ∧ rD1 (gl X exc T) true (op1 o) x H Q) ∧ ∀ d r, op1 o d = some r → ∃ k, r = .bool k := by
  unfold isO at h
  split at h
  · exact ⟨o1_isNone, fun d r e => by cases e; exact ⟨_, rfl⟩⟩
  · exact ⟨o1_notNone, fun d r e => by cases e; exact ⟨_, rfl⟩⟩
  · cases h
end
section
variable {X : Cx} {exc : Str → Option (Addr × Str)} {T : List (Addr × Str)}
theorem isBO_ok {op : CmpOp} {o : O1} {b : Bool} (h : isBO op o b = true) : OpR X (compareOp op) (fun x y H Q => y = .bl b ∧ rD1 (gl X exc T) true (op1 o) x H Q) ∧ ∀ d r, op1 o d = some r → ∃ k, r = .bool k := by
  unfold isBO at h
  split at h
  · obtain rfl := eq_of_beq h
    refine ⟨o1_isB _, fun d r e => ?_⟩
    have e : isBD1 _ d = some r := e
    unfold isBD1 at e
    split at e
    · cases e; exact ⟨_, rfl⟩
    · cases e
  · obtain rfl := eq_of_beq h
    refine ⟨o1_notB _, fun d r e => ?_⟩
    have e : notBD1 _ d = some r := e
    unfold notBD1 at e
    split at e
    · cases e; exact ⟨_, rfl⟩
    · cases e
  · cases h
theorem isBO_marks {op : CmpOp} {o : O1} {b : Bool} (h : isBO op o b = true) (j : Nat) (p : Pos) : behindInMarks op (.Constant (.bool b) j p) = false := by
  unfold isBO at h
  split at h
  · rfl
  · rfl
  · cases h
end
/-! ### functions of the language -/
def fcn1 : O1 → Str → Bool
  | .len, x => x == ("len" : Str)
  | .tuple, x => x == ("tuple" : Str)
  | .int, x => x == ("int" : Str)
  | .all, x => x == ("all" : Str)
  | .any, x => x == ("any" : Str)
  | .max, x => x == ("max" : Str)
  | .min, x => x == ("min" : Str)
  | .sorted, x => x == ("sorted" : Str)
  | .list, x => x == ("list" : Str)
  | _, _ => false
def fcn2 : O2 → Str → Bool
  | .max2, x => x == ("max" : Str)
  | .min2, x => x == ("min" : Str)
  | _, _ => false
def isIO : O1 → Str → Bool
  | .isI t, x => x == Str.ofString (tyStr t)
  | _, _ => false
/-! ### the context's facts -/
def LamOk (X : Cx) (exc : Str → Option (Addr × Str)) (T : List (Addr × Str)) (k : Nat) : Prop :=
  ∃ (C fI g c P : Addr) (fd : FuncData) (pg : Arguments) (sg : Scope) (kws : List (Str × V)) (j : Nat) (p1 p2 p3 p4 p5 p6 p7 p8 p9 p10 p11 p12 : Pos),
    BadTxt X.prog X.K X.mg C fI ∧ exc "BadArgument" = some (C, ("name" : Str)) ∧ RefSc sg ∧ FunD X.K "_law_refused" "_law_refused" pg (refB p1 p2 p3 p4 p5 p6 p7 p8 p9 p10 p11 p12 j) sg [] kws g fd ∧ Binds X.K fd ["call"] [] ∧
    X.mg "_law_refused" = some (.ref g) ∧ LamX.TabB X.base X.mg c P ∧ X.env.code = .ref c ∧ (P, X.env.qual ++ "<lambda>") ∈ T ∧ (∀ p ∈ T, p.1 = P → p.2 = X.env.qual ++ "<lambda>") ∧ Room (k + 2) X.A
structure EOk (c : Cs) (X : Cx) (exc : Str → Option (Addr × Str)) (T : List (Addr × Str)) (W : WX) (Γ : Ctx) (k : Nat) : Prop where
  N : X.N = c.N
  nd : X.N.Nodup
  sc : X.env.scope = c.sc
  calm : X.calm = true
  room : Room k X.A
  tk : Takes X W
  fn : ∀ x, c.fn x = true → X.fn x = true
  fns : ∀ f x ps, c.fns f = some (x, ps) → Callee (gl X exc T) k x ps (Γ.call f)
  free : ∀ x ∈ c.free, X.mg x = none
  glb : ∀ q ∈ c.glb, ∃ u v, X.mg q.1 = some u ∧ RelV v u ∧ ∀ H, Rp X.K H v q.2
  lam : c.lam = true → LamOk X exc T k
section
variable {X : Cx} {exc : Str → Option (Addr × Str)} {T : List (Addr × Str)} {W : WX} {Γ : Ctx} {k : Nat} {c : Cs} {i : Nat} {x : Str} {p : Expr} {md : Md} {e : E}
theorem EOk.units (O : EOk c X exc T W Γ k) : X.A.units + 164 < cLine := by
  have := O.room.un
  omega
theorem ba2 {a b : Bool} (h : (a && b) = true) : a = true ∧ b = true := by
  rw [Bool.and_eq_true] at h
  exact h
theorem bn {a : Bool} (h : (!a) = true) : a = false := by
  cases a
  · rfl
  · cases h
theorem nameOk_ok (O : EOk c X exc T W Γ k) (h : nameOk c i x = true) : NmI X i x := by
  obtain ⟨h1, h⟩ := ba2 h
  obtain ⟨h2, h⟩ := ba2 h
  obtain ⟨h3, h4⟩ := ba2 h
  exact ⟨by rw [O.N]; exact of_decide_eq_true h1, by rw [O.sc]; exact visB_ok h2, bn h3, bn h4⟩
theorem glB_ok (O : EOk c X exc T W Γ k) (h : glB c x = true) : Gl X x ∧ (x == ("__debug__" : Str)) = false := by
  obtain ⟨h1, h⟩ := ba2 h
  refine ⟨?_, bn h⟩
  show X.env.scope.names.lookup x = _
  rw [O.sc]
  exact of_decide_eq_true h1
theorem freeB_ok (O : EOk c X exc T W Γ k) (h : freeB c x = true) : Gl X x ∧ X.mg x = none := by
  obtain ⟨h1, h⟩ := ba2 h
  exact ⟨(glB_ok O h1).1, O.free x (of_decide_eq_true h)⟩
theorem tgNm_ok (O : EOk c X exc T W Γ k) (h : tgNm c i x = true) : X.N[i]? = some x ∧ L2.Loc X.env.scope x ∧ (X.fn x = true ∨ X.env.scope.names.lookup x = some .local) := by
  obtain ⟨h1, h⟩ := ba2 h
  refine ⟨by rw [O.N]; exact of_decide_eq_true h1, ?_⟩
  rw [Bool.or_eq_true] at h
  unfold L2.Loc
  rw [O.sc]
  rcases h with h | h
  · have q := of_decide_eq_true h
    exact ⟨.inl q, .inr q⟩
  · obtain ⟨h2, h3⟩ := ba2 h
    exact ⟨.inr (of_decide_eq_true h3), .inl (O.fn x h2)⟩
theorem strip_ok (h : SE X exc T W Γ md (strip p) e) : SE X exc T W Γ md p e := by
  unfold strip at h
  split at h
  · exact se_one h
  · exact h
end
/-! ### targets -/
def chkTg : Tg → Cs → Expr → Bool
  | .nm i, c, p => match p with
    | .Name x _ => tgNm c i x
    | _ => false
  | .t2 a b, c, p => match p with
    | .Tuple [x, y] _ _ => nost x && (nost y && (chkTg a c x && chkTg b c y))
    | _ => false
  | .t3 a b d, c, p => match p with
    | .Tuple [x, y, z] _ _ => nost x && (nost y && (nost z && (chkTg a c x && (chkTg b c y && chkTg d c z))))
    | _ => false
theorem asgE_cons {e : Expr} (h : nost e = true) (es : List Expr) (env : PySem.Env) : assignEach (e :: es) env = (false, assign e env) :: assignEach es env := by
  cases e <;> first | rfl | cases h
theorem chkTg_ok {exc : Str → Option (Addr × Str)} {T : List (Addr × Str)} {W : WX} {Γ : Ctx} {k : Nat} {X : Cx} : ∀ (tg : Tg) {c : Cs} {p : Expr}, EOk c X exc T W Γ k → chkTg tg c p = true → PG X p (gK X.K tg)
  | .nm i, c, p, O, h => by
    simp only [chkTg] at h
    split at h
    · obtain ⟨h1, h2, h3⟩ := tgNm_ok O h
      exact pg_name O.nd h1 h2 h3
    · cases h
  | .t2 a b, c, p, O, h => by
    simp only [chkTg] at h
    split at h
    · obtain ⟨n1, h⟩ := ba2 h
      obtain ⟨n2, h⟩ := ba2 h
      obtain ⟨h1, h2⟩ := ba2 h
      have e2 := fun es => asgE_cons n2 es X.env
      have e1 := fun es => asgE_cons n1 es X.env
      exact pg_tup (n := 2) O.calm (pgs_cons (chkTg_ok a O h1) (pgs_cons (chkTg_ok b O h2) pgs_nil (by rw [e2]; rfl)) (by rw [e1]; rfl)) (by rw [e1, e2]; rfl) (by rw [e1, e2]; rfl)
    · cases h
  | .t3 a b d, c, p, O, h => by
    simp only [chkTg] at h
    split at h
    · obtain ⟨n1, h⟩ := ba2 h
      obtain ⟨n2, h⟩ := ba2 h
      obtain ⟨n3, h⟩ := ba2 h
      obtain ⟨h1, h⟩ := ba2 h
      obtain ⟨h2, h3⟩ := ba2 h
      have e3 := fun es => asgE_cons n3 es X.env
      have e2 := fun es => asgE_cons n2 es X.env
      have e1 := fun es => asgE_cons n1 es X.env
      exact pg_tup (n := 3) O.calm (pgs_cons (chkTg_ok a O h1) (pgs_cons (chkTg_ok b O h2) (pgs_cons (chkTg_ok d O h3) pgs_nil (by rw [e3]; rfl)) (by rw [e2]; rfl)) (by rw [e1]; rfl)) (by rw [e1, e2, e3]; rfl) (by rw [e1, e2, e3]; rfl)
    · cases h
end DL
end

section
/-! Sd15: expressions mirrored -/
namespace DL
open PySem PySem.Spec PyProof.Rows L2

def blkCs (c : Cs) (scope : Scope) : Cs := { c with sc := relS scope c.sc, lam := false, fn := fun x => scope.names.lookup x == some .cell }
def lamCs (c : Cs) (scope : Scope) : Cs := { c with sc := scope, lam := false, fn := fun _ => false }
def ownOf (c : Cs) (vs : List Nat) : List (Str × Nat) := vs.map fun i => ((c.N[i]?).getD "", i)
def noArgs : Arguments → Bool
  | ⟨[], [], none, [], [], none, []⟩ => true
  | _ => false
mutual
def chkE : E → Cs → Md → Expr → Bool
  | .var i, c, md, p => Md.le .pers md && (match vName (strip p) with
    | some x => nameOk c i x
    | none => false)
  | .ro i, c, md, p => Md.le .tran md && (match vName (strip p) with
    | some x => nameOk c i x
    | none => false)
  | .cst d, c, md, p => Md.le .pers md && (match vConst (strip p) with
    | some k => cstC k d
    | none => false)
  | .glb x d, c, md, p => Md.le .pers md && (match vName (strip p) with
    | some y => y == x && (glB c x && c.glb.any fun q => q.1 == x && eqC q.2 d)
    | none => false)
  | .op1 o a, c, md, p => Md.le .new md && (
    (match vNeg (strip p) with
      | some x => isNeg o && chkE a c .tran x
      | none => false) ||
    ((match vCall1 (strip p) with
      | some (f, x) => fcn1 o f && (freeB c f && (nost x && chkE a c .tran x))
      | none => false) ||
    ((match vIs (strip p) with
      | some (x, op) => isO op o && (!behindInMarks op (.Constant .none 0 ⟨0, 0, 0, 0⟩) && chkE a c .tran x)
      | none => false) ||
    ((match vIsB (strip p) with
      | some (x, op, b) => isBO op o b && chkE a c .tran x
      | none => false) ||
    ((match vRev (strip p) with
      | some x => isRev o && chkE a c .tran x
      | none => false) ||
    ((match vNest (strip p) with
      | some (f, g, x) => isNest o f g && (freeB c f && (freeB c g && (nost x && chkE a c .tran x)))
      | none => false) ||
    (match vCall2 (strip p) with
      | some (f, x, y) => (f == ("isinstance" : Str)) && (freeB c f && (nost x && (chkE a c .tran x && (match vName y with
        | some ty => isIO o ty && freeB c ty
        | none => false))))
      | none => false)))))))
  | .op2 o a b, c, md, p =>
    (match vBin (strip p) with
      | some (x, op, y) => Md.le .new md && (binO op o && (chkE a c .tran x && chkE b c .tran y))
      | none => false) ||
    ((match vCmp1 (strip p) with
      | some (x, op, y) => Md.le .new md && (cmpO op o && (!behindInMarks op y && (chkE a c .tran x && chkE b c .tran y)))
      | none => false) ||
    ((match vSub (strip p) with
      | some (x, y) => Md.le .pers md && (isIdx o && (notSl y && (chkE a c .tran x && chkE b c .tran y)))
      | none => false) ||
    ((match vCall2 (strip p) with
      | some (f, x, y) => Md.le .new md && (fcn2 o f && (freeB c f && (nost x && (nost y && (chkE a c .tran x && chkE b c .tran y)))))
      | none => false) ||
    ((match vStr (strip p) with
      | some (z, m, y, t) => Md.le .new md && (isJoin o && (t && (m == ("join" : Str) && (nost y && (PyData.strOk z && ((match a with
        | .cst (.str z') => z' == z
        | _ => false) && chkE b c .tran y))))))
      | none => false) ||
    (match vKw1 (strip p) with
      | some (f, x, k, y) => Md.le .new md && (isMaxD o && ((f == ("max" : Str)) && ((k == ("default" : Str)) && (freeB c f && (nost x && (chkE a c .tran x && chkE b c .tran y))))))
      | none => false)))))
  | .slL a lo, c, md, p => Md.le .new md && (match vSlL (strip p) with
    | some (x, y) => chkE a c .tran x && chkE lo c .tran y
    | none => false)
  | .slU a lo, c, md, p => Md.le .new md && (match vSlU (strip p) with
    | some (x, y) => chkE a c .tran x && chkE lo c .tran y
    | none => false)
  | .slB a lo hi, c, md, p => Md.le .new md && (match vSlB (strip p) with
    | some (x, y, z) => chkE a c .tran x && (chkE lo c .tran y && chkE hi c .tran z)
    | none => false)
  | .chain o o' a b d, c, md, p => Md.le .new md && (match vCmp2 (strip p) with
    | some (x, op, op', y, z) => cmpO op o && (cmpO op' o' && (!lastMarks [op, op'] [y, z] && (chkE a c .tran x && (chkE b c .tran y && chkE d c .tran z))))
    | none => false)
  | .tup es, c, md, p => Md.le .new md && (match vTup (strip p) with
    | some ps => decide (esLen es ≤ 1000) && chkEs es c ps
    | none => false)
  | .lst es, c, md, p => Md.le .new md && (match vLst (strip p) with
    | some ps => decide (esLen es ≤ 1000) && chkEs es c ps
    | none => false)
  | .and a b, c, md, p => (match vAnd (strip p) with
    | some (x, y, r, pos) => chkE a c .tran x && chkE b c md (.BoolOp .And (y :: r) pos)
    | none => false)
  | .or a b, c, md, p => (match vOr (strip p) with
    | some (x, y, r, pos) => chkE a c .tran x && chkE b c md (.BoolOp .Or (y :: r) pos)
    | none => false)
  | .not a, c, md, p => Md.le .new md && (match vNot (strip p) with
    | some x => chkE a c .tran x
    | none => false)
  | .ite t a b, c, md, p => (match vIf (strip p) with
    | some (q, x, y) => chkT t c q && (chkE a c md x && chkE b c md y)
    | none => false)
  | .comp vs ce tg src cd, c, md, p => Md.le .new md && (match vLC (strip p) with
    | some (elt, tg', iter, ifs, scope) => chkI src c false tg' iter && (!isSet iter && (blkC c.N c.sc scope (ownOf c vs) && (chkTg tg (blkCs c scope) tg' && ((tgIx tg).all (fun i => decide (i ∈ vs)) &&
        (chkTs cd (blkCs c scope) ifs && chkE ce (blkCs c scope) .pers elt)))))
    | none => false)
  | .call f es, c, md, p => Md.le .pers md && (match vCall (strip p), c.fns f with
    | some (x, as, ks), some (y, ps) => (x == y) && (glB c x && (decide (asLen es = ps.length) && (match as, ks with
      | [], [] => (match es with
        | .nil => true
        | _ => false)
      | a0 :: ar, [] => ((a0 :: ar).all nost && chkAs es c (a0 :: ar))
      | [], ks => ks.all (·.arg.isSome) && (decide (ks.filterMap (·.arg) = ps) && chkKs es c ks)
      | _, _ => false)))
    | _, _ => false)
  | .cidx i j, c, md, p => Md.le .pers md && (match vSub (strip p) with
    | some (q, y) => (match vName q with
      | some x => nameOk c i x && (notSl y && chkE j c .tran y)
      | none => false)
    | none => false)
  | .index a b, c, md, p => Md.le .new md && (match vMet1 (strip p) with
    | some (x, m, y, t) => (m == ("index" : Str)) && (t && (nost y && ((vName x).isSome && (chkE a c .tran x && chkE b c .tran y))))
    | none => false)
  | .refd e, c, md, p => Md.le .pers md && (match vLam (strip p) with
    | some (f, params, body, scope) => (f == ("_law_refused" : Str)) && (glB c f && (c.lam && (noArgs params && (LamX.lamSB c.sc scope && chkE e (lamCs c scope) .pers body))))
    | none => false)
def chkTE : E → Cs → Expr → Bool
  | .op2 o a b, c, p => (match vCmp1 p with
      | some (x, op, y) => cmpO op o && (!behindInMarks op y && (chkE a c .tran x && chkE b c .tran y))
      | none => false)
  | .op1 o a, c, p => (match vIs p with
      | some (x, op) => isO op o && (!behindInMarks op (.Constant .none 0 ⟨0, 0, 0, 0⟩) && chkE a c .tran x)
      | none => false) || (match vIsB p with
      | some (x, op, b) => isBO op o b && chkE a c .tran x
      | none => false)
  | .chain o o' a b d, c, p => (match vCmp2 p with
    | some (x, op, op', y, z) => cmpO op o && (cmpO op' o' && (!lastMarks [op, op'] [y, z] && (chkE a c .tran x && (chkE b c .tran y && chkE d c .tran z))))
    | none => false)
  | _, _, _ => false
def chkT : DL.T → Cs → Expr → Bool
  | .yes, _, _ => false
  | .e a, c, p => (plainT (strip p) && chkE a c .tran (strip p)) || chkTE a c (strip p)
  | .and t u, c, p => (match vAnd (strip p) with
    | some (x, y, r, pos) => chkT t c x && chkT u c (.BoolOp .And (y :: r) pos)
    | none => false)
  | .or t u, c, p => (match vOr (strip p) with
    | some (x, y, r, pos) => chkT t c x && chkT u c (.BoolOp .Or (y :: r) pos)
    | none => false)
  | .not t, c, p => (match vNot (strip p) with
    | some x => chkT t c x
    | none => false)
def chkTs : DL.T → Cs → List Expr → Bool
  | .yes, _, [] => true
  | .e a, c, [p] => (plainT (strip p) && chkE a c .tran (strip p)) || chkTE a c (strip p)
  | .and t u, c, [p] => (match vAnd (strip p) with
    | some (x, y, r, pos) => chkT t c x && chkT u c (.BoolOp .And (y :: r) pos)
    | none => false)
  | .or t u, c, [p] => (match vOr (strip p) with
    | some (x, y, r, pos) => chkT t c x && chkT u c (.BoolOp .Or (y :: r) pos)
    | none => false)
  | .not t, c, [p] => (match vNot (strip p) with
    | some x => chkT t c x
    | none => false)
  | _, _, _ => false
def chkEs : Es → Cs → List Expr → Bool
  | .nil, _, [] => true
  | .cons e r, c, p :: ps => nost p && (chkE e c .pers p && chkEs r c ps)
  | _, _, _ => false
def chkAs : As → Cs → List Expr → Bool
  | .nil, _, [] => true
  | .cons e r, c, p :: ps => nost p && (chkE e c .pers p && chkAs r c ps)
  | .cel i r, c, p :: ps => (match vName p with
    | some x => nameOk c i x && chkAs r c ps
    | none => false)
  | _, _, _ => false
def chkKs : As → Cs → List Keyword → Bool
  | .nil, _, [] => true
  | .cons e r, c, ⟨_, p, _⟩ :: ps => chkE e c .pers p && chkKs r c ps
  | _, _, _ => false
def chkI : I → Cs → Bool → Expr → Expr → Bool
  | .seq e, c, pf, tg, p => chkE e c (mdOf pf) p
  | .rng1 e, c, pf, tg, p => (match vCall1 p with
    | some (f, x) => (f == ("range" : Str)) && (freeB c f && (nost x && chkE e c .tran x))
    | none => false)
  | .rng2 a b, c, pf, tg, p => (match vCall2 p with
    | some (f, x, y) => (f == ("range" : Str)) && (freeB c f && (nost x && (nost y && (chkE a c .tran x && chkE b c .tran y))))
    | none => false)
  | .enum e, c, pf, tg, p => (vTup tg).isSome && (match vCall1 p with
    | some (f, x) => (f == ("enumerate" : Str)) && (freeB c f && (nost x && chkE e c (mdOf pf) x))
    | none => false)
  | .zip a b, c, pf, tg, p => (vTup tg).isSome && (match vCall2 p with
    | some (f, x, y) => (f == ("zip" : Str)) && (freeB c f && (nost x && (nost y && (chkE a c (mdOf pf) x && chkE b c (mdOf pf) y))))
    | none => false)
end
end DL
end

section
/-! Sd16: expressions mirrored: it holds -/
namespace DL
open PySem PySem.Spec PyProof.Rows L2
section
variable {exc : Str → Option (Addr × Str)} {T : List (Addr × Str)} {Γ : Ctx} {k : Nat}
theorem EOk.blk {c : Cs} {X : Cx} {W : WX} (O : EOk c X exc T W Γ k) {scope : Scope} (s : Shared) (H : Hp) (C : Addr) (cl : List (Str × Addr)) (fp : List Addr) :
    EOk (blkCs c scope) (X.blk s H scope (compEnvC scope cl C X.env) fp) exc T W0 Γ k where
  N := O.N
  nd := O.nd
  sc := by
    show relS scope X.env.scope = relS scope c.sc
    rw [O.sc]
  calm := O.calm
  room := O.room
  tk := LamX.takes0
  fn := fun _ z => z
  fns := O.fns
  free := O.free
  glb := O.glb
  lam := fun z => nomatch z
theorem EOk.lamc {c : Cs} {X : Cx} {W : WX} (O : EOk c X exc T W Γ k) {scope : Scope} {A : Around} {outer : List PySem.Env} {s : Shared} {H : Hp} {E : XK} {f c' : Addr} (hr : Room k (A.deeper (LamX.lamEnv X scope s.heap.objs.size f c'))) :
    EOk (lamCs c scope) (LamX.lamCx X A outer s H E scope f c') exc T (fun cls d _ H => E cls d H) Γ k where
  N := O.N
  nd := O.nd
  sc := rfl
  calm := rfl
  room := hr
  tk := takes_of rfl rfl rfl rfl
  fn := fun _ z => nomatch z
  fns := O.fns
  free := O.free
  glb := O.glb
  lam := fun z => nomatch z
theorem ownOf_ix (c : Cs) (vs : List Nat) : (ownOf c vs).map (·.2) = vs := by
  unfold ownOf
  rw [List.map_map]
  exact List.map_id' vs
theorem noArgs_ok {a : Arguments} (h : noArgs a = true) : a = ⟨[], [], none, [], [], none, []⟩ := by
  unfold noArgs at h
  split at h
  · rfl
  · cases h
theorem se_fcn1 {c : Cs} {X : Cx} {W : WX} {o : O1} {f : Str} {a : Expr} {ea : E} {px pos : Pos} (O : EOk c X exc T W Γ k) (h : fcn1 o f = true) (hf : freeB c f = true) (hs : nost a = true) (ha : SE X exc T W Γ .tran a ea) : SE X exc T W Γ .new (.Call (.Name f px) [a] [] pos) (.op1 o ea) := by
  obtain ⟨hg, hm⟩ := freeB_ok O hf
  unfold fcn1 at h
  split at h
  · obtain rfl := eq_of_beq h
    exact se_callB o1_len hg hm (by with_unfolding_all rfl) ha hs
  · obtain rfl := eq_of_beq h
    exact se_callTy o1_tuple hg hm (by with_unfolding_all rfl) ha hs
  · obtain rfl := eq_of_beq h
    exact se_callTy o1_int hg hm (by with_unfolding_all rfl) ha hs
  · obtain rfl := eq_of_beq h
    exact se_callB (o1_all O.calm) hg hm (by with_unfolding_all rfl) ha hs
  · obtain rfl := eq_of_beq h
    exact se_callB (o1_any O.calm) hg hm (by with_unfolding_all rfl) ha hs
  · obtain rfl := eq_of_beq h
    exact se_callB (o1_max O.calm O.units) hg hm (by with_unfolding_all rfl) ha hs
  · obtain rfl := eq_of_beq h
    exact se_callB (o1_min O.calm O.units) hg hm (by with_unfolding_all rfl) ha hs
  · obtain rfl := eq_of_beq h
    exact se_callB (o1_sorted O.units) hg hm (by with_unfolding_all rfl) ha hs
  · obtain rfl := eq_of_beq h
    exact se_callTy (o1_list O.calm) hg hm (by with_unfolding_all rfl) ha hs
  · cases h
theorem se_fcn2 {c : Cs} {X : Cx} {W : WX} {o : O2} {f : Str} {a b : Expr} {ea eb : E} {px pos : Pos} (O : EOk c X exc T W Γ k) (h : fcn2 o f = true) (hf : freeB c f = true) (hs : nost a = true) (hs2 : nost b = true) (ha : SE X exc T W Γ .tran a ea) (hb : SE X exc T W Γ .tran b eb) :
    SE X exc T W Γ .new (.Call (.Name f px) [a, b] [] pos) (.op2 o ea eb) := by
  obtain ⟨hg, hm⟩ := freeB_ok O hf
  unfold fcn2 at h
  split at h
  · obtain rfl := eq_of_beq h
    exact se_call2 (o2_max2 O.calm) hg hm (by with_unfolding_all rfl) ha hb hs hs2
  · obtain rfl := eq_of_beq h
    exact se_call2 (o2_min2 O.calm) hg hm (by with_unfolding_all rfl) ha hb hs hs2
  · cases h
theorem se_nest {c : Cs} {X : Cx} {W : WX} {o : O1} {f g : Str} {a : Expr} {ea : E} {p1 p2 p3 pos : Pos} (O : EOk c X exc T W Γ k) (h : isNest o f g = true) (hf : freeB c f = true) (hg : freeB c g = true) (hs : nost a = true) (ha : SE X exc T W Γ .tran a ea) :
    SE X exc T W Γ .new (.Call (.Name f p1) [.Call (.Name g p2) [a] [] p3] [] pos) (.op1 o ea) := by
  obtain ⟨g1, g2⟩ := freeB_ok O hf
  obtain ⟨g3, g4⟩ := freeB_ok O hg
  have hu := O.units
  unfold isNest at h
  split at h
  · obtain ⟨h1, h2⟩ := ba2 h
    obtain rfl := eq_of_beq h1
    obtain rfl := eq_of_beq h2
    exact se_lrng O.calm g1 g2 g3 g4 ha hs
  · obtain ⟨h1, h2⟩ := ba2 h
    obtain rfl := eq_of_beq h1
    obtain rfl := eq_of_beq h2
    exact se_sset O.calm (by omega) g1 g2 g3 g4 ha hs
  · cases h
theorem isO_marks {op : CmpOp} {o : O1} (h : isO op o = true) (j : Nat) (p : Pos) : behindInMarks op (.Constant .none j p) = false := by
  unfold isO at h
  split at h
  · rfl
  · rfl
  · cases h
theorem le_of {X : Cx} {W : WX} {m md : Md} {p : Expr} {e : E} (h : SE X exc T W Γ m (strip p) e) (l : Md.le m md = true) : SE X exc T W Γ md p e := strip_ok (h.le l)
/-- a test: as a test, as a part of one -/
def OkT (X : Cx) (exc : Str → Option (Addr × Str)) (T : List (Addr × Str)) (W : WX) (Γ : Ctx) (p : Expr) (t : DL.T) : Prop := ST X exc T W Γ p t ∧ ∀ op vs pos, p = .BoolOp op vs pos → SW X exc T W Γ p t
theorem okT_strip {X : Cx} {W : WX} {p : Expr} {t : DL.T} (h : ST X exc T W Γ (strip p) t) (h2 : ∀ op vs pos, strip p = .BoolOp op vs pos → p = strip p → SW X exc T W Γ (strip p) t) : OkT X exc T W Γ p t := by
  cases p with
  | BoolOp op vs pos =>
    cases vs with
    | nil => exact ⟨h, fun _ _ _ _ => h2 _ _ _ rfl rfl⟩
    | cons a r =>
      cases r with
      | nil =>
        have z : SW X exc T W Γ (.BoolOp op [a] pos) t := sw_one h
        exact ⟨z.pt, fun _ _ _ _ => z⟩
      | cons b r => exact ⟨h, fun _ _ _ _ => h2 _ _ _ rfl rfl⟩
  | _ => exact ⟨h, fun _ _ _ e => by cases e⟩
theorem plainT_bool {p : Expr} (h : plainT p = true) : ∀ op vs pos, p ≠ .BoolOp op vs pos := fun op vs pos e => by
  subst e
  cases h
end
end DL
end

section
/-! Sd17: expressions mirrored: it holds -/
namespace DL
open PySem PySem.Spec PyProof.Rows L2
section
variable {exc : Str → Option (Addr × Str)} {T : List (Addr × Str)} {Γ : Ctx} {k : Nat}
mutual
theorem chkE_ok : ∀ (e : E) {c : Cs} {md : Md} {p : Expr} {X : Cx} {W : WX}, EOk c X exc T W Γ k → chkE e c md p = true → SE X exc T W Γ md p e
  | .var i, c, md, p, X, W, O, h => by
    simp only [chkE] at h
    obtain ⟨l, h⟩ := ba2 h
    refine le_of ?_ l
    split at h
    · rename_i x q
      obtain ⟨pos, e⟩ := vName_ok q
      obtain ⟨h1, h2, h3, h4⟩ := nameOk_ok O h
      rw [e]
      exact se_var h1 h2 h3 h4
    · cases h
  | .ro i, c, md, p, X, W, O, h => by
    simp only [chkE] at h
    obtain ⟨l, h⟩ := ba2 h
    refine le_of ?_ l
    split at h
    · rename_i x q
      obtain ⟨pos, e⟩ := vName_ok q
      obtain ⟨h1, h2, h3, h4⟩ := nameOk_ok O h
      rw [e]
      exact se_ro h1 h2 h3 h4
    · cases h
  | .cst d, c, md, p, X, W, O, h => by
    simp only [chkE] at h
    obtain ⟨l, h⟩ := ba2 h
    refine le_of ?_ l
    split at h
    · rename_i x q
      obtain ⟨j, pos, e⟩ := vConst_ok q
      rw [e]
      exact se_cst h
    · cases h
  | .glb x d, c, md, p, X, W, O, h => by
    simp only [chkE] at h
    obtain ⟨l, h⟩ := ba2 h
    refine le_of ?_ l
    split at h
    · rename_i y q
      obtain ⟨pos, e⟩ := vName_ok q
      obtain ⟨h1, h⟩ := ba2 h
      obtain ⟨h2, h3⟩ := ba2 h
      obtain rfl := eq_of_beq h1
      obtain ⟨z, hz, h4⟩ := List.any_eq_true.mp h3
      obtain ⟨h5, h6⟩ := ba2 h4
      obtain ⟨u, v, m1, m2, m3⟩ := O.glb z hz
      have e5 : z.1 = y := eq_of_beq h5
      have e6 := eqC_ok h6
      rw [e5] at m1
      rw [e6] at m3
      obtain ⟨g1, g2⟩ := glB_ok O h2
      rw [e]
      exact se_glb g1 m1 m2 m3 g2
    · cases h
  | .op1 o a, c, md, p, X, W, O, h => by
    simp only [chkE] at h
    obtain ⟨l, h⟩ := ba2 h
    refine le_of ?_ l
    simp only [Bool.or_eq_true] at h
    rcases h with h | h | h | h | h | h | h
    · split at h
      · rename_i x q
        obtain ⟨pos, e⟩ := vNeg_ok q
        obtain ⟨h1, h2⟩ := ba2 h
        rw [e]
        cases o <;> first | (cases h1; done) | exact se_un o1_neg (chkE_ok a O h2)
      · cases h
    · split at h
      · rename_i f x q
        obtain ⟨px, pos, e⟩ := vCall1_ok q
        obtain ⟨h1, h⟩ := ba2 h
        obtain ⟨h2, h⟩ := ba2 h
        obtain ⟨h3, h4⟩ := ba2 h
        rw [e]
        exact se_fcn1 O h1 h2 h3 (chkE_ok a O h4)
      · cases h
    · split at h
      · rename_i x op q
        obtain ⟨j, p2, pos, e⟩ := vIs_ok q
        obtain ⟨h1, h⟩ := ba2 h
        obtain ⟨h2, h3⟩ := ba2 h
        rw [e]
        exact se_is (isO_ok h1).1 (chkE_ok a O h3) (isO_marks h1 j p2)
      · cases h
    · split at h
      · rename_i x op b q
        obtain ⟨j, p2, pos, e⟩ := vIsB_ok q
        obtain ⟨h1, h3⟩ := ba2 h
        rw [e]
        exact se_isB (isBO_ok h1).1 (chkE_ok a O h3) (isBO_marks h1 j p2)
      · cases h
    · split at h
      · rename_i x q
        obtain ⟨kk, p1, p2, p3, pos, e⟩ := vRev_ok q
        obtain ⟨h1, h3⟩ := ba2 h
        rw [e]
        cases o <;> first | (cases h1; done) | exact se_rev (chkE_ok a O h3)
      · cases h
    · split at h
      · rename_i f g x q
        obtain ⟨p1, p2, p3, pos, e⟩ := vNest_ok q
        obtain ⟨h1, h⟩ := ba2 h
        obtain ⟨h2, h⟩ := ba2 h
        obtain ⟨h3, h⟩ := ba2 h
        obtain ⟨h4, h5⟩ := ba2 h
        rw [e]
        exact se_nest O h1 h2 h3 h4 (chkE_ok a O h5)
      · cases h
    · split at h
      · rename_i f x y q
        obtain ⟨px, pos, e⟩ := vCall2_ok q
        obtain ⟨h1, h⟩ := ba2 h
        obtain ⟨h2, h⟩ := ba2 h
        obtain ⟨h3, h⟩ := ba2 h
        obtain ⟨h4, h⟩ := ba2 h
        split at h
        · rename_i ty q2
          obtain ⟨py, e2⟩ := vName_ok q2
          obtain ⟨h5, h6⟩ := ba2 h
          obtain rfl := eq_of_beq h1
          rw [e, e2]
          cases o with
          | isI t =>
            have e5 : ty = Str.ofString (tyStr t) := eq_of_beq h5
            subst e5
            exact se_isI (freeB_ok O h2).1 (freeB_ok O h2).2 (freeB_ok O h6).1 (freeB_ok O h6).2 (chkE_ok a O h4) h3
          | _ => cases h5
        · cases h
      · cases h
  | .op2 o a b, c, md, p, X, W, O, h => by
    simp only [chkE] at h
    simp only [Bool.or_eq_true] at h
    rcases h with h | h | h | h | h | h
    · split at h
      · rename_i x op y q
        obtain ⟨pos, e⟩ := vBin_ok q
        obtain ⟨l, h⟩ := ba2 h
        obtain ⟨h1, h⟩ := ba2 h
        obtain ⟨h2, h3⟩ := ba2 h
        refine le_of ?_ l
        rw [e]
        exact se_bin (binO_ok h1) (chkE_ok a O h2) (chkE_ok b O h3)
      · cases h
    · split at h
      · rename_i x op y q
        obtain ⟨pos, e⟩ := vCmp1_ok q
        obtain ⟨l, h⟩ := ba2 h
        obtain ⟨h1, h⟩ := ba2 h
        obtain ⟨h4, h⟩ := ba2 h
        obtain ⟨h2, h3⟩ := ba2 h
        refine le_of ?_ l
        rw [e]
        exact se_cmp (cmpO_ok O.units h1).1 (chkE_ok a O h2) (chkE_ok b O h3) (bn h4)
      · cases h
    · split at h
      · rename_i x y q
        obtain ⟨pos, e⟩ := vSub_ok q
        obtain ⟨l, h⟩ := ba2 h
        obtain ⟨h1, h⟩ := ba2 h
        obtain ⟨h4, h⟩ := ba2 h
        obtain ⟨h2, h3⟩ := ba2 h
        refine le_of ?_ l
        rw [e]
        cases o <;> first | (cases h1; done) | exact se_idx (chkE_ok a O h2) (chkE_ok b O h3) (plainIx h4)
      · cases h
    · split at h
      · rename_i f x y q
        obtain ⟨px, pos, e⟩ := vCall2_ok q
        obtain ⟨l, h⟩ := ba2 h
        obtain ⟨h1, h⟩ := ba2 h
        obtain ⟨h4, h⟩ := ba2 h
        obtain ⟨h5, h⟩ := ba2 h
        obtain ⟨h6, h⟩ := ba2 h
        obtain ⟨h2, h3⟩ := ba2 h
        refine le_of ?_ l
        rw [e]
        exact se_fcn2 O h1 h4 h5 h6 (chkE_ok a O h2) (chkE_ok b O h3)
      · cases h
    · split at h
      · rename_i z m y t q
        obtain ⟨kk, pa, apos, pos, e, et⟩ := vStr_ok q
        obtain ⟨l, h⟩ := ba2 h
        obtain ⟨h1, h⟩ := ba2 h
        obtain ⟨h4, h⟩ := ba2 h
        obtain ⟨h5, h⟩ := ba2 h
        obtain ⟨h6, h⟩ := ba2 h
        obtain ⟨h7, h⟩ := ba2 h
        obtain ⟨h8, h3⟩ := ba2 h
        refine le_of ?_ l
        rw [e]
        obtain rfl := eq_of_beq h5
        rw [h4] at et
        split at h8
        · obtain rfl := eq_of_beq h8
          cases o <;> first | (cases h1; done) | exact se_join h7 (chkE_ok b O h3) h6 et
        · cases h8
      · cases h
    · split at h
      · rename_i f x kx y q
        obtain ⟨p1, kp, pos, e⟩ := vKw1_ok q
        obtain ⟨l, h⟩ := ba2 h
        obtain ⟨h1, h⟩ := ba2 h
        obtain ⟨h2, h⟩ := ba2 h
        obtain ⟨h3, h⟩ := ba2 h
        obtain ⟨h4, h⟩ := ba2 h
        obtain ⟨h5, h⟩ := ba2 h
        obtain ⟨h6, h7⟩ := ba2 h
        refine le_of ?_ l
        obtain rfl := eq_of_beq h2
        obtain rfl := eq_of_beq h3
        rw [e]
        cases o <;> first | (cases h1; done) | exact se_maxD O.calm O.units (freeB_ok O h4).1 (freeB_ok O h4).2 (chkE_ok a O h6) (chkE_ok b O h7) h5
      · cases h
  | .slL a lo, c, md, p, X, W, O, h => by
    simp only [chkE] at h
    obtain ⟨l, h⟩ := ba2 h
    refine le_of ?_ l
    split at h
    · rename_i x y q
      obtain ⟨p2, pos, e⟩ := vSlL_ok q
      obtain ⟨h1, h2⟩ := ba2 h
      rw [e]
      exact se_slL (chkE_ok a O h1) (chkE_ok lo O h2)
    · cases h
  | .slU a lo, c, md, p, X, W, O, h => by
    simp only [chkE] at h
    obtain ⟨l, h⟩ := ba2 h
    refine le_of ?_ l
    split at h
    · rename_i x y q
      obtain ⟨p2, pos, e⟩ := vSlU_ok q
      obtain ⟨h1, h2⟩ := ba2 h
      rw [e]
      exact se_slU (chkE_ok a O h1) (chkE_ok lo O h2)
    · cases h
  | .slB a lo hi, c, md, p, X, W, O, h => by
    simp only [chkE] at h
    obtain ⟨l, h⟩ := ba2 h
    refine le_of ?_ l
    split at h
    · rename_i x y z q
      obtain ⟨p2, pos, e⟩ := vSlB_ok q
      obtain ⟨h1, h⟩ := ba2 h
      obtain ⟨h2, h3⟩ := ba2 h
      rw [e]
      exact se_slB (chkE_ok a O h1) (chkE_ok lo O h2) (chkE_ok hi O h3)
    · cases h
  | .chain o o' a b d, c, md, p, X, W, O, h => by
    simp only [chkE] at h
    obtain ⟨l, h⟩ := ba2 h
    refine le_of ?_ l
    split at h
    · rename_i x op op' y z q
      obtain ⟨pos, e⟩ := vCmp2_ok q
      obtain ⟨h1, h⟩ := ba2 h
      obtain ⟨h2, h⟩ := ba2 h
      obtain ⟨h3, h⟩ := ba2 h
      obtain ⟨h4, h⟩ := ba2 h
      obtain ⟨h5, h6⟩ := ba2 h
      rw [e]
      exact se_chain (cmpO_ok (X := X) (exc := exc) (T := T) O.units h1).2 (cmpO_ok O.units h1).1 (cmpO_ok O.units h2).1 (chkE_ok a O h4) (chkE_ok b O h5) (chkE_ok d O h6) (bn h3)
    · cases h
  | .tup es, c, md, p, X, W, O, h => by
    simp only [chkE] at h
    obtain ⟨l, h⟩ := ba2 h
    refine le_of ?_ l
    split at h
    · rename_i ps q
      obtain ⟨kk, pos, e⟩ := vTup_ok q
      obtain ⟨h1, h2⟩ := ba2 h
      rw [e]
      exact se_tup (chkEs_ok es O h2) (of_decide_eq_true h1)
    · cases h
  | .lst es, c, md, p, X, W, O, h => by
    simp only [chkE] at h
    obtain ⟨l, h⟩ := ba2 h
    refine le_of ?_ l
    split at h
    · rename_i ps q
      obtain ⟨pos, e⟩ := vLst_ok q
      obtain ⟨h1, h2⟩ := ba2 h
      rw [e]
      exact se_lst (chkEs_ok es O h2) (of_decide_eq_true h1)
    · cases h
  | .and a b, c, md, p, X, W, O, h => by
    simp only [chkE] at h
    split at h
    · rename_i x y r pos q
      have e := vAnd_ok q
      obtain ⟨h1, h2⟩ := ba2 h
      refine strip_ok ?_
      rw [e]
      exact se_and (chkE_ok a O h1) (chkE_ok b O h2)
    · cases h
  | .or a b, c, md, p, X, W, O, h => by
    simp only [chkE] at h
    split at h
    · rename_i x y r pos q
      have e := vOr_ok q
      obtain ⟨h1, h2⟩ := ba2 h
      refine strip_ok ?_
      rw [e]
      exact se_or (chkE_ok a O h1) (chkE_ok b O h2)
    · cases h
  | .not a, c, md, p, X, W, O, h => by
    simp only [chkE] at h
    obtain ⟨l, h⟩ := ba2 h
    refine le_of ?_ l
    split at h
    · rename_i x q
      obtain ⟨pos, e⟩ := vNot_ok q
      rw [e]
      exact se_not (chkE_ok a O h)
    · cases h
  | .ite t a b, c, md, p, X, W, O, h => by
    simp only [chkE] at h
    split at h
    · rename_i q0 x y q
      obtain ⟨pos, e⟩ := vIf_ok q
      obtain ⟨h1, h⟩ := ba2 h
      obtain ⟨h2, h3⟩ := ba2 h
      refine strip_ok ?_
      rw [e]
      exact se_ite (chkT_ok t O h1).1 (chkE_ok a O h2) (chkE_ok b O h3)
    · cases h
  | .comp vs ce tg src cd, c, md, p, X, W, O, h => by
    simp only [chkE] at h
    obtain ⟨l, h⟩ := ba2 h
    refine le_of ?_ l
    split at h
    · rename_i elt tg' iter ifs scope q
      obtain ⟨pos, e⟩ := vLC_ok q
      obtain ⟨h1, h⟩ := ba2 h
      obtain ⟨h2, h⟩ := ba2 h
      obtain ⟨h3, h⟩ := ba2 h
      obtain ⟨h4, h⟩ := ba2 h
      obtain ⟨h5, h⟩ := ba2 h
      obtain ⟨h6, h7⟩ := ba2 h
      rw [e]
      have hb : BlkOk X.N X.env.scope scope (ownOf c vs) := by
        rw [O.N, O.sc]
        exact blkOk_by h3
      have z := se_comp (pos := pos) O.calm O.nd (chkI_ok src O h1) hb (fun s H C cl fp => chkTg_ok tg (O.blk s H C cl fp) h4) (fun s H C cl fp => chkTs_ok cd (O.blk s H C cl fp) h6) (fun s H C cl fp => chkE_ok ce (O.blk s H C cl fp) h7) (noFold (bn h2) X.env)
        (fun i hi => by rw [ownOf_ix]; exact of_decide_eq_true (List.all_eq_true.mp h5 i hi))
      rw [ownOf_ix] at z
      exact z
    · cases h
  | .call f es, c, md, p, X, W, O, h => by
    simp only [chkE] at h
    obtain ⟨l, h⟩ := ba2 h
    refine le_of ?_ l
    split at h
    · rename_i x as ks y ps q1 q2
      obtain ⟨px, pos, e⟩ := vCall_ok q1
      obtain ⟨h1, ha⟩ := ba2 h
      clear h
      obtain ⟨h2, hb⟩ := ba2 ha
      clear ha
      obtain ⟨h3, hc⟩ := ba2 hb
      clear hb
      obtain rfl := eq_of_beq h1
      have hl := of_decide_eq_true h3
      have C := O.fns f x ps q2
      obtain ⟨g1, g2⟩ := glB_ok O h2
      rw [e]
      split at hc
      · split at hc
        · have hp : ps = [] := List.eq_nil_of_length_eq_zero hl.symm
          subst hp
          exact se_call0 C O.room O.tk g1 g2
        · cases hc
      · obtain ⟨h4, h5⟩ := ba2 hc
        exact se_call C O.room O.tk g1 (chkAs_ok es O h5) h4 hl g2
      · obtain ⟨h4, h5⟩ := ba2 hc
        obtain ⟨h5, h6⟩ := ba2 h5
        exact se_callK C O.room O.tk g1 (chkKs_ok es O h6) h4 (of_decide_eq_true h5) hl g2
      · cases hc
    · cases h
  | .cidx i j, c, md, p, X, W, O, h => by
    simp only [chkE] at h
    obtain ⟨l, h⟩ := ba2 h
    refine le_of ?_ l
    split at h
    · rename_i q0 y q
      obtain ⟨pos, e⟩ := vSub_ok q
      split at h
      · rename_i x q2
        obtain ⟨px, e2⟩ := vName_ok q2
        obtain ⟨h1, h⟩ := ba2 h
        obtain ⟨h2, h3⟩ := ba2 h
        obtain ⟨n1, n2, n3, n4⟩ := nameOk_ok O h1
        rw [e, e2]
        exact se_cidx n1 n2 n3 n4 (chkE_ok j O h3) h2
      · cases h
    · cases h
  | .index a b, c, md, p, X, W, O, h => by
    simp only [chkE] at h
    obtain ⟨l, h⟩ := ba2 h
    refine le_of ?_ l
    split at h
    · rename_i x m y t q
      obtain ⟨apos, pos, e, et⟩ := vMet1_ok q
      obtain ⟨h1, h⟩ := ba2 h
      obtain ⟨h2, h⟩ := ba2 h
      obtain ⟨h3, h⟩ := ba2 h
      obtain ⟨h6, h⟩ := ba2 h
      obtain ⟨h4, h5⟩ := ba2 h
      obtain rfl := eq_of_beq h1
      rw [h2] at et
      rw [e]
      cases ev : vName x with
      | none => rw [ev] at h6; cases h6
      | some nm =>
        obtain ⟨px, ex⟩ := vName_ok ev
        subst ex
        exact se_index O.units (chkE_ok a O h4) (chkE_ok b O h5) h3 et rfl
    · cases h
  | .refd e, c, md, p, X, W, O, h => by
    simp only [chkE] at h
    obtain ⟨l, h⟩ := ba2 h
    refine le_of ?_ l
    split at h
    · rename_i f params body scope q
      obtain ⟨px, p2, pos, eq⟩ := vLam_ok q
      obtain ⟨h1, h⟩ := ba2 h
      obtain ⟨h2, h⟩ := ba2 h
      obtain ⟨h3, h⟩ := ba2 h
      obtain ⟨h4, h⟩ := ba2 h
      obtain ⟨h5, h6⟩ := ba2 h
      obtain rfl := eq_of_beq h1
      obtain rfl := noArgs_ok h4
      obtain ⟨C, fI, g, cc, P, fd, pg, sg, kws, j, p1, p2, p3, p4, p5, p6, p7, p8, p9, p10, p11, p12, B, hex, RS, F, hb, hm, TB, hcode, hmT, hu, hr⟩ := O.lam h3
      have L : LamX.LamS X.env.scope scope := by
        rw [O.sc]
        exact LamX.lamS_by h5
      rw [eq]
      exact se_refd B hex RS F hb (glB_ok O h2).1 hm TB hcode hmT hu hr L rfl (fun _ _ _ _ _ => rfl) (fun A outer s H E f c' hr2 => chkE_ok e (O.lamc hr2) h6)
    · cases h
theorem chkTE_ok : ∀ (e : E) {c : Cs} {p : Expr} {X : Cx} {W : WX}, EOk c X exc T W Γ k → chkTE e c p = true → ST X exc T W Γ p (.e e) ∧ ∀ op vs pos, p ≠ .BoolOp op vs pos
  | .op2 o a b, c, p, X, W, O, h => by
    simp only [chkTE] at h
    split at h
    · rename_i x op y q
      obtain ⟨pos, e⟩ := vCmp1_ok q
      obtain ⟨h1, h⟩ := ba2 h
      obtain ⟨h4, h⟩ := ba2 h
      obtain ⟨h2, h3⟩ := ba2 h
      rw [e]
      exact ⟨st_cmp (cmpO_ok (X := X) (exc := exc) (T := T) O.units h1).2 (cmpO_ok O.units h1).1 (chkE_ok a O h2) (chkE_ok b O h3) (bn h4), fun _ _ _ z => nomatch z⟩
    · cases h
  | .op1 o a, c, p, X, W, O, h => by
    simp only [chkTE, Bool.or_eq_true] at h
    rcases h with h | h
    · split at h
      · rename_i x op q
        obtain ⟨j, p2, pos, e⟩ := vIs_ok q
        obtain ⟨h1, h⟩ := ba2 h
        obtain ⟨h2, h3⟩ := ba2 h
        rw [e]
        exact ⟨st_is (isO_ok (X := X) (exc := exc) (T := T) h1).2 (isO_ok h1).1 (chkE_ok a O h3) (isO_marks h1 j p2), fun _ _ _ z => nomatch z⟩
      · cases h
    · split at h
      · rename_i x op b q
        obtain ⟨j, p2, pos, e⟩ := vIsB_ok q
        obtain ⟨h1, h3⟩ := ba2 h
        rw [e]
        exact ⟨st_isB (isBO_ok (X := X) (exc := exc) (T := T) h1).2 (isBO_ok h1).1 (chkE_ok a O h3) (isBO_marks h1 j p2), fun _ _ _ z => nomatch z⟩
      · cases h
  | .chain o o' a b d, c, p, X, W, O, h => by
    simp only [chkTE] at h
    split at h
    · rename_i x op op' y z q
      obtain ⟨pos, e⟩ := vCmp2_ok q
      obtain ⟨h1, h⟩ := ba2 h
      obtain ⟨h2, h⟩ := ba2 h
      obtain ⟨h3, h⟩ := ba2 h
      obtain ⟨h4, h⟩ := ba2 h
      obtain ⟨h5, h6⟩ := ba2 h
      rw [e]
      exact ⟨st_chain (cmpO_ok (X := X) (exc := exc) (T := T) O.units h1).2 (cmpO_ok (X := X) (exc := exc) (T := T) O.units h2).2 (cmpO_ok O.units h1).1 (cmpO_ok O.units h2).1 (chkE_ok a O h4) (chkE_ok b O h5) (chkE_ok d O h6) (bn h3), fun _ _ _ z => nomatch z⟩
    · cases h
  | .var _, c, p, X, W, O, h | .ro _, c, p, X, W, O, h | .cst _, c, p, X, W, O, h | .glb _ _, c, p, X, W, O, h | .slL _ _, c, p, X, W, O, h | .slU _ _, c, p, X, W, O, h | .slB _ _ _, c, p, X, W, O, h | .tup _, c, p, X, W, O, h | .lst _, c, p, X, W, O, h
  | .and _ _, c, p, X, W, O, h | .or _ _, c, p, X, W, O, h | .not _, c, p, X, W, O, h | .ite _ _ _, c, p, X, W, O, h | .comp _ _ _ _ _, c, p, X, W, O, h | .call _ _, c, p, X, W, O, h | .cidx _ _, c, p, X, W, O, h | .refd _, c, p, X, W, O, h | .index _ _, c, p, X, W, O, h => by simp [chkTE] at h
theorem chkT_ok : ∀ (t : DL.T) {c : Cs} {p : Expr} {X : Cx} {W : WX}, EOk c X exc T W Γ k → chkT t c p = true → OkT X exc T W Γ p t
  | .yes, c, p, X, W, O, h => by simp [chkT] at h
  | .e a, c, p, X, W, O, h => by
    simp only [chkT, Bool.or_eq_true] at h
    rcases h with h | h
    · obtain ⟨h1, h2⟩ := ba2 h
      exact okT_strip (st_plain (chkE_ok a O h2) h1) fun op vs pos e _ => absurd e (plainT_bool h1 op vs pos)
    · obtain ⟨z1, z2⟩ := chkTE_ok a O h
      exact okT_strip z1 fun op vs pos e _ => absurd e (z2 op vs pos)
  | .and t u, c, p, X, W, O, h => by
    simp only [chkT] at h
    split at h
    · rename_i x y r pos q
      have e := vAnd_ok q
      obtain ⟨h1, h2⟩ := ba2 h
      have z : SW X exc T W Γ (strip p) (.and t u) := by
        rw [e]
        exact sw_and (chkT_ok t O h1).1 ((chkT_ok u O h2).2 _ _ _ rfl)
      exact okT_strip z.pt fun _ _ _ _ _ => z
    · cases h
  | .or t u, c, p, X, W, O, h => by
    simp only [chkT] at h
    split at h
    · rename_i x y r pos q
      have e := vOr_ok q
      obtain ⟨h1, h2⟩ := ba2 h
      have z : SW X exc T W Γ (strip p) (.or t u) := by
        rw [e]
        exact sw_or (chkT_ok t O h1).1 ((chkT_ok u O h2).2 _ _ _ rfl)
      exact okT_strip z.pt fun _ _ _ _ _ => z
    · cases h
  | .not t, c, p, X, W, O, h => by
    simp only [chkT] at h
    split at h
    · rename_i x q
      obtain ⟨pos, e⟩ := vNot_ok q
      refine okT_strip ?_ fun op vs pos e2 _ => ?_
      · rw [e]
        exact st_not (chkT_ok t O h).1
      · rw [e] at e2; cases e2
    · cases h
theorem chkTs_ok : ∀ (t : DL.T) {c : Cs} {ps : List Expr} {X : Cx} {W : WX}, EOk c X exc T W Γ k → chkTs t c ps = true → PTs X ps (tT (gl X exc T) W Γ t)
  | .yes, c, [], X, W, O, h => pts_yes
  | .yes, c, _ :: _, X, W, O, h => by simp [chkTs] at h
  | .e a, c, [p], X, W, O, h => by
    simp only [chkTs, Bool.or_eq_true] at h
    rcases h with h | h
    · obtain ⟨h1, h2⟩ := ba2 h
      exact pts_one (okT_strip (st_plain (chkE_ok a O h2) h1) fun op vs pos e _ => absurd e (plainT_bool h1 op vs pos)).1
    · obtain ⟨z1, z2⟩ := chkTE_ok a O h
      exact pts_one (okT_strip z1 fun op vs pos e _ => absurd e (z2 op vs pos)).1
  | .and t u, c, [p], X, W, O, h => by
    simp only [chkTs] at h
    split at h
    · rename_i x y r pos q
      have e := vAnd_ok q
      obtain ⟨h1, h2⟩ := ba2 h
      have z : SW X exc T W Γ (strip p) (.and t u) := by
        rw [e]
        exact sw_and (chkT_ok t O h1).1 ((chkT_ok u O h2).2 _ _ _ rfl)
      exact pts_one (okT_strip z.pt fun _ _ _ _ _ => z).1
    · cases h
  | .or t u, c, [p], X, W, O, h => by
    simp only [chkTs] at h
    split at h
    · rename_i x y r pos q
      have e := vOr_ok q
      obtain ⟨h1, h2⟩ := ba2 h
      have z : SW X exc T W Γ (strip p) (.or t u) := by
        rw [e]
        exact sw_or (chkT_ok t O h1).1 ((chkT_ok u O h2).2 _ _ _ rfl)
      exact pts_one (okT_strip z.pt fun _ _ _ _ _ => z).1
    · cases h
  | .not t, c, [p], X, W, O, h => by
    simp only [chkTs] at h
    split at h
    · rename_i x q
      obtain ⟨pos, e⟩ := vNot_ok q
      refine pts_one (okT_strip (t := .not t) ?_ fun op vs pos e2 _ => ?_).1
      · rw [e]
        exact st_not (chkT_ok t O h).1
      · rw [e] at e2; cases e2
    · cases h
  | .e _, c, [], X, W, O, h | .e _, c, _ :: _ :: _, X, W, O, h | .and _ _, c, [], X, W, O, h | .and _ _, c, _ :: _ :: _, X, W, O, h | .or _ _, c, [], X, W, O, h | .or _ _, c, _ :: _ :: _, X, W, O, h | .not _, c, [], X, W, O, h | .not _, c, _ :: _ :: _, X, W, O, h => by simp [chkTs] at h
theorem chkEs_ok : ∀ (es : Es) {c : Cs} {ps : List Expr} {X : Cx} {W : WX}, EOk c X exc T W Γ k → chkEs es c ps = true → SEs X exc T W Γ ps es
  | .nil, c, [], X, W, O, h => ses_nil
  | .nil, c, _ :: _, X, W, O, h => by simp [chkEs] at h
  | .cons e r, c, [], X, W, O, h => by simp [chkEs] at h
  | .cons e r, c, p :: ps, X, W, O, h => by
    simp only [chkEs] at h
    obtain ⟨h1, h⟩ := ba2 h
    obtain ⟨h2, h3⟩ := ba2 h
    exact ses_cons (chkE_ok e O h2) h1 (chkEs_ok r O h3)
theorem chkAs_ok : ∀ (es : As) {c : Cs} {ps : List Expr} {X : Cx} {W : WX}, EOk c X exc T W Γ k → chkAs es c ps = true → SAs X exc T W Γ ps es
  | .nil, c, [], X, W, O, h => sas_nil
  | .nil, c, _ :: _, X, W, O, h => by simp [chkAs] at h
  | .cons e r, c, [], X, W, O, h => by simp [chkAs] at h
  | .cel i r, c, [], X, W, O, h => by simp [chkAs] at h
  | .cons e r, c, p :: ps, X, W, O, h => by
    simp only [chkAs] at h
    obtain ⟨h1, h⟩ := ba2 h
    obtain ⟨h2, h3⟩ := ba2 h
    exact sas_cons (chkE_ok e O h2) h1 (chkAs_ok r O h3)
  | .cel i r, c, p :: ps, X, W, O, h => by
    simp only [chkAs] at h
    split at h
    · rename_i x q
      obtain ⟨pos, e⟩ := vName_ok q
      obtain ⟨h1, h2⟩ := ba2 h
      obtain ⟨n1, n2, n3, n4⟩ := nameOk_ok O h1
      rw [e]
      exact sas_cel n1 n2 n3 n4 (chkAs_ok r O h2)
    · cases h
theorem chkKs_ok : ∀ (es : As) {c : Cs} {ps : List Keyword} {X : Cx} {W : WX}, EOk c X exc T W Γ k → chkKs es c ps = true → SKs X exc T W Γ ps es
  | .nil, c, [], X, W, O, h => sks_nil
  | .nil, c, _ :: _, X, W, O, h => by simp [chkKs] at h
  | .cons e r, c, [], X, W, O, h => by simp [chkKs] at h
  | .cel i r, c, [], X, W, O, h => by simp [chkKs] at h
  | .cel i r, c, _ :: _, X, W, O, h => by simp [chkKs] at h
  | .cons e r, c, ⟨_, p, _⟩ :: ps, X, W, O, h => by
    simp only [chkKs] at h
    obtain ⟨h2, h3⟩ := ba2 h
    exact sks_cons (chkE_ok e O h2) (chkKs_ok r O h3)
theorem chkI_ok : ∀ (e : DL.I) {c : Cs} {pf : Bool} {tg p : Expr} {X : Cx} {W : WX}, EOk c X exc T W Γ k → chkI e c pf tg p = true → PI X tg p (tI (gl X exc T) W pf Γ e)
  | .seq e, c, pf, tg, p, X, W, O, h => by
    simp only [chkI] at h
    exact pi_seq (chkE_ok e O h)
  | .rng1 e, c, pf, tg, p, X, W, O, h => by
    simp only [chkI] at h
    split at h
    · rename_i f x q
      obtain ⟨px, pos, e⟩ := vCall1_ok q
      obtain ⟨h1, h⟩ := ba2 h
      obtain ⟨h2, h⟩ := ba2 h
      obtain ⟨h3, h4⟩ := ba2 h
      obtain rfl := eq_of_beq h1
      rw [e]
      exact pi_rng1 (freeB_ok O h2).1 (freeB_ok O h2).2 (chkE_ok _ O h4) h3
    · cases h
  | .rng2 a b, c, pf, tg, p, X, W, O, h => by
    simp only [chkI] at h
    split at h
    · rename_i f x y q
      obtain ⟨px, pos, e⟩ := vCall2_ok q
      obtain ⟨h1, h⟩ := ba2 h
      obtain ⟨h2, h⟩ := ba2 h
      obtain ⟨h3, h⟩ := ba2 h
      obtain ⟨h4, h⟩ := ba2 h
      obtain ⟨h5, h6⟩ := ba2 h
      obtain rfl := eq_of_beq h1
      rw [e]
      exact pi_rng2 (freeB_ok O h2).1 (freeB_ok O h2).2 (chkE_ok _ O h5) (chkE_ok _ O h6) h3 h4
    · cases h
  | .enum e, c, pf, tg, p, X, W, O, h => by
    simp only [chkI] at h
    obtain ⟨ht, h⟩ := ba2 h
    cases et : vTup tg with
    | none => rw [et] at ht; cases ht
    | some elts =>
      obtain ⟨kk, tpos, e1⟩ := vTup_ok et
      rw [e1]
      split at h
      · rename_i f x q
        obtain ⟨px, pos, e⟩ := vCall1_ok q
        obtain ⟨h1, h⟩ := ba2 h
        obtain ⟨h2, h⟩ := ba2 h
        obtain ⟨h3, h4⟩ := ba2 h
        obtain rfl := eq_of_beq h1
        rw [e]
        exact pi_enumD (freeB_ok O h2).1 (freeB_ok O h2).2 (chkE_ok _ O h4) h3
      · cases h
  | .zip a b, c, pf, tg, p, X, W, O, h => by
    simp only [chkI] at h
    obtain ⟨ht, h⟩ := ba2 h
    cases et : vTup tg with
    | none => rw [et] at ht; cases ht
    | some elts =>
      obtain ⟨kk, tpos, e1⟩ := vTup_ok et
      rw [e1]
      split at h
      · rename_i f x y q
        obtain ⟨px, pos, e⟩ := vCall2_ok q
        obtain ⟨h1, h⟩ := ba2 h
        obtain ⟨h2, h⟩ := ba2 h
        obtain ⟨h3, h⟩ := ba2 h
        obtain ⟨h4, h⟩ := ba2 h
        obtain ⟨h5, h6⟩ := ba2 h
        obtain rfl := eq_of_beq h1
        rw [e]
        exact pi_zipD (freeB_ok O h2).1 (freeB_ok O h2).2 (chkE_ok _ O h5) (chkE_ok _ O h6) h3 h4
      · cases h
end
end
end DL
end

section
/-! Sd18: statements mirrored -/
namespace DL
open PySem PySem.Spec PyProof.Rows L2

def swB (c : Cs) (x : Str) (px : Pos) (s : Scope) (p : Expr) : Bool :=
  decide (c.sc.names.lookup x = some .local) && (px.line == p.pos.line && !(s.names.any fun (n, k) => n == x && (k == .local || k == .cell)))
def isComp : Expr → Option Scope
  | .ListComp _ _ s _ => some s
  | .SetComp _ _ s _ => some s
  | .DictComp _ _ _ s _ => some s
  | _ => none
def swOf (c : Cs) (x : Str) (px : Pos) (p : Expr) : Bool := match isComp p with
  | some s => swB c x px s p
  | none => false
/-- both stored at once -/
def parA (c : Cs) (x y : Str) (px py : Pos) (a b : Expr) : Bool :=
  decide (c.sc.names.lookup x = some .local) && (decide (c.sc.names.lookup y = some .local) && (py.line == px.line && (!(x == y) && (!(foldedForSure 8 a && foldedForSure 8 b) && !(constantsAlone 8 a && constantsAlone 8 b)))))
def parB (c : Cs) (x y : Str) (px py : Pos) (a b : Expr) : Bool :=
  (foldedForSure 8 a && foldedForSure 8 b) || (!decide (c.sc.names.lookup x = some .local) || (!decide (c.sc.names.lookup y = some .local) || !(py.line == px.line)))
section
variable {X : Cx} {c : Cs}
theorem swOf_ok (hs : X.env.scope = c.sc) (hk : c.sc.kind = .function) (x : Str) (px : Pos) (p : Expr) (line : Nat) : swapsWith p (some (.Name x px)) line X.env = pure (swOf c x px p) := by
  have hb : X.env.blockKind = .function := by
    unfold Env.blockKind
    rw [hs, hk]
    rfl
  have key : ∀ (s : Scope), (X.env.blockKind == .function && X.env.kindOf x == some .local && px.line == p.pos.line && !(s.names.any fun (n, k) => n == x && (k == .local || k == .cell))) = swB c x px s p := fun s => by
    unfold swB
    rw [hb]
    have e : (X.env.kindOf x == some .local) = decide (c.sc.names.lookup x = some .local) := by
      show (X.env.scope.names.lookup x == some .local) = _
      rw [hs]
      cases c.sc.names.lookup x with
      | none => rfl
      | some kd => cases kd <;> rfl
    rw [e]
    simp only [Bool.and_assoc]
    rfl
  cases p <;> first
    | rfl
    | (show pure _ = pure _; congr 1; exact key _)
def nms (env : PySem.Env) (x y : Str) (px py : Pos) : List Str := [Expr.Name x px, .Name y py].filterMap fun
    | .Name id pos => if env.kindOf id == some .local && pos.line == px.line then some id else none
    | _ => none
def anySt (a b : Expr) : Bool := [a, b].any fun | .Starred .. => true | _ => false
theorem anySt_no {a b : Expr} (n1 : nost a = true) (n2 : nost b = true) : anySt a b = false := by
  cases a <;> first | (cases n1; done) | (cases b <;> first | (cases n2; done) | rfl)
theorem stores_form (env : PySem.Env) (x y : Str) (px py : Pos) (a b : Expr) (kt k2 : Nat) (pt pt2 : Pos) :
    swappedStores [.Tuple [.Name x px, .Name y py] kt pt] (.Tuple [a, b] k2 pt2) env =
      (if (!((2 : Nat) == 2 || (2 : Nat) == 3) || (2 : Nat) != 2 || env.blockKind != .function) = true then pure none else if anySt a b = true then pure none else
        if ((nms env x y px py).length != 2 || (nms env x y px py).eraseDups.length != (nms env x y px py).length) = true then pure none else
        if ([a, b].all (foldedForSure 8)) = true then pure none else if ([a, b].all (constantsAlone 8)) = true then (do unsupported "assign.tuple-of-constant-expressions:order-of-the-stores"; pure (some (nms env x y px py))) else pure (some (nms env x y px py))) := rfl
theorem loc_eq (hs : X.env.scope = c.sc) (z : Str) : (X.env.kindOf z == some .local) = decide (c.sc.names.lookup z = some .local) := by
  show (X.env.scope.names.lookup z == some .local) = _
  rw [hs]
  cases c.sc.names.lookup z with
  | none => rfl
  | some kd => cases kd <;> rfl
theorem stores_A (hs : X.env.scope = c.sc) (hk : c.sc.kind = .function) {x y : Str} {px py : Pos} {a b : Expr} {kt k2 : Nat} {pt pt2 : Pos} (n1 : nost a = true) (n2 : nost b = true) (h : parA c x y px py a b = true) :
    swappedStores [.Tuple [.Name x px, .Name y py] kt pt] (.Tuple [a, b] k2 pt2) X.env = pure (some [x, y]) ∧ c.sc.names.lookup x = some .local ∧ c.sc.names.lookup y = some .local ∧ x ≠ y := by
  have hb : X.env.blockKind = .function := by
    unfold Env.blockKind
    rw [hs, hk]
    rfl
  obtain ⟨h1, h⟩ := ba2 h
  obtain ⟨h2, h⟩ := ba2 h
  obtain ⟨h3, h⟩ := ba2 h
  obtain ⟨h4, h⟩ := ba2 h
  obtain ⟨h5, h6⟩ := ba2 h
  have hxy : (x == y) = false := bn h4
  have hne : x ≠ y := fun z => by rw [z] at hxy; simp at hxy
  refine ⟨?_, of_decide_eq_true h1, of_decide_eq_true h2, hne⟩
  have nm : nms X.env x y px py = [x, y] := by
    unfold nms
    simp only [List.filterMap_cons, List.filterMap_nil, loc_eq hs, h1, h2, h3, beq_self_eq_true, Bool.and_self, if_true]
  have hyx : (y == x) = false := by
    cases z : (y == x) with
    | false => rfl
    | true => exact absurd (eq_of_beq z).symm hne
  have f1 : ([a, b].all (foldedForSure 8)) = false := by simpa using bn h5
  have f2 : ([a, b].all (constantsAlone 8)) = false := by simpa using bn h6
  have dd : ([x, y].eraseDups.length != [x, y].length) = false := by
    simp [List.eraseDups, List.eraseDupsBy, List.eraseDupsBy.loop, hxy, hyx]
  rw [stores_form, hb, anySt_no n1 n2, nm, f1, f2, dd]
  rfl
theorem stores_B (hs : X.env.scope = c.sc) {x y : Str} {px py : Pos} {a b : Expr} {kt k2 : Nat} {pt pt2 : Pos} (n1 : nost a = true) (n2 : nost b = true) (h : parB c x y px py a b = true) :
    swappedStores [.Tuple [.Name x px, .Name y py] kt pt] (.Tuple [a, b] k2 pt2) X.env = pure none := by
  rw [stores_form, anySt_no n1 n2]
  unfold parB at h
  rw [Bool.or_eq_true, Bool.or_eq_true, Bool.or_eq_true] at h
  split
  · rfl
  rw [if_neg (by decide)]
  rcases h with h | h
  · have f1 : ([a, b].all (foldedForSure 8)) = true := by simpa using h
    rw [f1]
    split <;> rfl
  · have n : ((nms X.env x y px py).length != 2) = true := by
      unfold nms
      rcases h with h | h | h
      · simp only [List.filterMap_cons, List.filterMap_nil, loc_eq hs, bn h, Bool.false_and, Bool.false_eq_true, if_false]
        split <;> simp
      · simp only [List.filterMap_cons, List.filterMap_nil, loc_eq hs, bn h, Bool.false_and]
        split <;> simp
      · simp only [List.filterMap_cons, List.filterMap_nil, loc_eq hs, bn h, Bool.and_false]
        split <;> simp
    rw [n]
    rfl
theorem stores_no {tg p : Expr} {env : PySem.Env} (h : vTup p = none) : swappedStores [tg] p env = pure none := by
  unfold swappedStores
  cases p <;> first | (cases h; done) | (cases tg <;> rfl)
end
end DL
end

section
/-! Sd18b: three stores at once, mirrored -/
namespace DL
open PySem PySem.Spec PyProof.Rows L2
def locB (c : Cs) (x : Str) : Bool := decide (c.sc.names.lookup x = some .local)
def parA3 (c : Cs) (x y z : Str) (px py pz : Pos) (a b d : Expr) : Bool :=
  locB c x && (locB c y && (locB c z && ((py.line == px.line) && ((pz.line == px.line) && (!(x == y) && (!(x == z) && (!(y == z) && (!(foldedForSure 8 a && (foldedForSure 8 b && foldedForSure 8 d)) && !(constantsAlone 8 a && (constantsAlone 8 b && constantsAlone 8 d))))))))))
def parB3 (c : Cs) (x y z : Str) (px py pz : Pos) (a b d : Expr) : Bool :=
  (foldedForSure 8 a && (foldedForSure 8 b && foldedForSure 8 d)) || (!locB c x || (!locB c y || (!locB c z || (!(py.line == px.line) || !(pz.line == px.line)))))
def nms3 (env : PySem.Env) (x y z : Str) (px py pz : Pos) : List Str := [Expr.Name x px, .Name y py, .Name z pz].filterMap fun
    | .Name id pos => if env.kindOf id == some .local && pos.line == px.line then some id else none
    | _ => none
def anySt3 (a b c : Expr) : Bool := [a, b, c].any fun | .Starred .. => true | _ => false
theorem anySt3_no {a b c : Expr} (n1 : nost a = true) (n2 : nost b = true) (n3 : nost c = true) : anySt3 a b c = false := by
  cases a <;> first | (cases n1; done) | (cases b <;> first | (cases n2; done) | (cases c <;> first | (cases n3; done) | rfl))
theorem stores3_form (env : PySem.Env) (x y z : Str) (px py pz : Pos) (a b c : Expr) (kt k2 : Nat) (pt pt2 : Pos) :
    swappedStores [.Tuple [.Name x px, .Name y py, .Name z pz] kt pt] (.Tuple [a, b, c] k2 pt2) env =
      (if (!((3 : Nat) == 2 || (3 : Nat) == 3) || (3 : Nat) != 3 || env.blockKind != .function) = true then pure none else if anySt3 a b c = true then pure none else
        if ((nms3 env x y z px py pz).length != 3 || (nms3 env x y z px py pz).eraseDups.length != (nms3 env x y z px py pz).length) = true then pure none else
        if ([a, b, c].all (foldedForSure 8)) = true then pure none else if ([a, b, c].all (constantsAlone 8)) = true then (do unsupported "assign.tuple-of-constant-expressions:order-of-the-stores"; pure (some (nms3 env x y z px py pz))) else pure (some (nms3 env x y z px py pz))) := rfl
theorem three_no {f : Expr → Option Str} {p q r : Expr} (h : f p = none ∨ f q = none ∨ f r = none) : (([p, q, r].filterMap f).length != 3) = true := by
  cases e1 : f p <;> cases e2 : f q <;> cases e3 : f r <;> simp_all [List.filterMap_cons]
section
variable {X : Cx} {c : Cs}
theorem ne_bq {x y : Str} (h : (x == y) = false) : x ≠ y ∧ (y == x) = false := by
  have hne : x ≠ y := fun z => by rw [z] at h; simp at h
  refine ⟨hne, ?_⟩
  cases z : (y == x) with
  | false => rfl
  | true => exact absurd (eq_of_beq z).symm hne
theorem stores_A3 (hs : X.env.scope = c.sc) (hk : c.sc.kind = .function) {x y z : Str} {px py pz : Pos} {a b d : Expr} {kt k2 : Nat} {pt pt2 : Pos} (n1 : nost a = true) (n2 : nost b = true) (n3 : nost d = true) (h : parA3 c x y z px py pz a b d = true) :
    swappedStores [.Tuple [.Name x px, .Name y py, .Name z pz] kt pt] (.Tuple [a, b, d] k2 pt2) X.env = pure (some [x, y, z]) ∧ c.sc.names.lookup x = some .local ∧ c.sc.names.lookup y = some .local ∧ c.sc.names.lookup z = some .local ∧ x ≠ y ∧ x ≠ z ∧ y ≠ z := by
  have hb : X.env.blockKind = .function := by
    unfold Env.blockKind
    rw [hs, hk]
    rfl
  obtain ⟨h1, h⟩ := ba2 h
  obtain ⟨h2, h⟩ := ba2 h
  obtain ⟨h3, h⟩ := ba2 h
  obtain ⟨h4, h⟩ := ba2 h
  obtain ⟨h5, h⟩ := ba2 h
  obtain ⟨h6, h⟩ := ba2 h
  obtain ⟨h7, h⟩ := ba2 h
  obtain ⟨h8, h⟩ := ba2 h
  obtain ⟨h9, h10⟩ := ba2 h
  obtain ⟨e1, e1'⟩ := ne_bq (bn h6)
  obtain ⟨e2, e2'⟩ := ne_bq (bn h7)
  obtain ⟨e3, e3'⟩ := ne_bq (bn h8)
  refine ⟨?_, of_decide_eq_true h1, of_decide_eq_true h2, of_decide_eq_true h3, e1, e2, e3⟩
  unfold locB at h1 h2 h3
  have nm : nms3 X.env x y z px py pz = [x, y, z] := by
    unfold nms3
    simp only [List.filterMap_cons, List.filterMap_nil, loc_eq hs, h1, h2, h3, h4, h5, beq_self_eq_true, Bool.and_self, if_true]
  have f1 : ([a, b, d].all (foldedForSure 8)) = false := by simpa using bn h9
  have f2 : ([a, b, d].all (constantsAlone 8)) = false := by simpa using bn h10
  have dd : ([x, y, z].eraseDups.length != [x, y, z].length) = false := by
    simp [List.eraseDups, List.eraseDupsBy, List.eraseDupsBy.loop, bn h6, bn h7, bn h8, e1', e2', e3']
  rw [stores3_form, hb, anySt3_no n1 n2 n3, nm, f1, f2, dd]
  rfl
theorem stores_B3 (hs : X.env.scope = c.sc) {x y z : Str} {px py pz : Pos} {a b d : Expr} {kt k2 : Nat} {pt pt2 : Pos} (n1 : nost a = true) (n2 : nost b = true) (n3 : nost d = true) (h : parB3 c x y z px py pz a b d = true) :
    swappedStores [.Tuple [.Name x px, .Name y py, .Name z pz] kt pt] (.Tuple [a, b, d] k2 pt2) X.env = pure none := by
  rw [stores3_form, anySt3_no n1 n2 n3]
  unfold parB3 at h
  rw [Bool.or_eq_true] at h
  split
  · rfl
  rw [if_neg (by decide)]
  rcases h with h | h
  · have f1 : ([a, b, d].all (foldedForSure 8)) = true := by simpa using h
    rw [f1]
    split <;> rfl
  · have n : ((nms3 X.env x y z px py pz).length != 3) = true := by
      rw [Bool.or_eq_true, Bool.or_eq_true, Bool.or_eq_true, Bool.or_eq_true] at h
      unfold locB at h
      refine three_no ?_
      rcases h with h | h | h | h | h
      · refine .inl ?_
        simp only [loc_eq hs, bn h, Bool.false_and, Bool.false_eq_true, if_false]
      · refine .inr (.inl ?_)
        simp only [loc_eq hs, bn h, Bool.false_and, Bool.false_eq_true, if_false]
      · refine .inr (.inr ?_)
        simp only [loc_eq hs, bn h, Bool.false_and, Bool.false_eq_true, if_false]
      · refine .inr (.inl ?_)
        simp only [loc_eq hs, bn h, Bool.and_false, Bool.false_eq_true, if_false]
      · refine .inr (.inr ?_)
        simp only [loc_eq hs, bn h, Bool.and_false, Bool.false_eq_true, if_false]
    rw [n]
    rfl
end
end DL
end

section
/-! Sd19: statements mirrored: it holds -/
namespace DL
open PySem PySem.Spec PyProof.Rows L2

def vNameP : Expr → Option (Str × Pos)
  | .Name x p => some (x, p)
  | _ => none
theorem vNameP_ok {p : Expr} {x : Str} {px : Pos} (h : vNameP p = some (x, px)) : p = .Name x px := by
  unfold vNameP at h
  split at h
  · cases h; rfl
  · cases h
def vAsg : Stmt → Option (Expr × Expr)
  | .Assign [t] p _ => some (t, p)
  | _ => none
theorem vAsg_ok {s : Stmt} {t p : Expr} (h : vAsg s = some (t, p)) : ∃ pos, s = .Assign [t] p pos := by
  unfold vAsg at h
  split at h
  · cases h; exact ⟨_, rfl⟩
  · cases h
def vPar : Stmt → Option (Str × Pos × Str × Pos × Expr × Expr)
  | .Assign [.Tuple [.Name x px, .Name y py] _ _] (.Tuple [a, b] _ _) _ => some (x, px, y, py, a, b)
  | _ => none
theorem vPar_ok {s : Stmt} {x y : Str} {px py : Pos} {a b : Expr} (h : vPar s = some (x, px, y, py, a, b)) : ∃ kt pt k2 pt2 pos, s = .Assign [.Tuple [.Name x px, .Name y py] kt pt] (.Tuple [a, b] k2 pt2) pos := by
  unfold vPar at h
  split at h
  · cases h; exact ⟨_, _, _, _, _, rfl⟩
  · cases h
def vPar3 : Stmt → Option (Str × Pos × Str × Pos × Str × Pos × Expr × Expr × Expr)
  | .Assign [.Tuple [.Name x px, .Name y py, .Name z pz] _ _] (.Tuple [a, b, c] _ _) _ => some (x, px, y, py, z, pz, a, b, c)
  | _ => none
theorem vPar3_ok {s : Stmt} {x y z : Str} {px py pz : Pos} {a b c : Expr} (h : vPar3 s = some (x, px, y, py, z, pz, a, b, c)) : ∃ kt pt k2 pt2 pos, s = .Assign [.Tuple [.Name x px, .Name y py, .Name z pz] kt pt] (.Tuple [a, b, c] k2 pt2) pos := by
  unfold vPar3 at h
  split at h
  · cases h; exact ⟨_, _, _, _, _, rfl⟩
  · cases h
def vPar4 : Stmt → Option (Str × Str × Str × Str × Expr × Expr × Expr × Expr)
  | .Assign [.Tuple [.Name x _, .Name y _, .Name z _, .Name w _] _ _] (.Tuple [a, b, c, d] _ _) _ => some (x, y, z, w, a, b, c, d)
  | _ => none
theorem vPar4_ok {s : Stmt} {x y z w : Str} {a b c d : Expr} (h : vPar4 s = some (x, y, z, w, a, b, c, d)) : ∃ px py pz pw kt pt k2 pt2 pos, s = .Assign [.Tuple [.Name x px, .Name y py, .Name z pz, .Name w pw] kt pt] (.Tuple [a, b, c, d] k2 pt2) pos := by
  unfold vPar4 at h
  split at h
  · cases h; exact ⟨_, _, _, _, _, _, _, _, _, rfl⟩
  · cases h
/-- x.append(y.pop(e)) -/
def vApop : Stmt → Option (Str × Str × Str × Str × Expr × Bool × Bool)
  | .Expr (.Call (.Attribute (.Name x _) m apos2) [.Call (.Attribute (.Name y _) n apos) [p] [] cpos] [] cpos2) _ => some (x, m, y, n, p, apos.endLine == cpos.line, apos2.endLine == cpos2.line)
  | _ => none
theorem vApop_ok {s : Stmt} {x m y n : Str} {p : Expr} {t u : Bool} (h : vApop s = some (x, m, y, n, p, t, u)) : ∃ px apos2 py apos cpos cpos2 pos, s = .Expr (.Call (.Attribute (.Name x px) m apos2) [.Call (.Attribute (.Name y py) n apos) [p] [] cpos] [] cpos2) pos ∧ (apos.endLine == cpos.line) = t ∧ (apos2.endLine == cpos2.line) = u := by
  unfold vApop at h
  split at h
  · cases h; exact ⟨_, _, _, _, _, _, _, rfl, rfl, rfl⟩
  · cases h
/-- x = zip(a, b); return tuple([elt for .. in x]) -/
def vZret : List Stmt → Option (Str × Expr × Expr × Expr × Expr × Scope)
  | [.Assign [.Name x _] (.Call (.Name f _) [a, b] [] _) _, .Return (some (.Call (.Name g _) [.ListComp elt [⟨.Tuple elts kk tpos, .Name y _, [], 0⟩] scope _] [] _)) _] =>
    if (f == ("zip" : Str)) && ((g == ("tuple" : Str)) && (x == y)) then some (x, a, b, elt, .Tuple elts kk tpos, scope) else none
  | _ => none
theorem vZret_ok {s : List Stmt} {x : Str} {a b elt te : Expr} {scope : Scope} (h : vZret s = some (x, a, b, elt, te, scope)) : ∃ p1 p2 p3 p4 p5 elts kk tpos p6 p7 p8 p9, te = .Tuple elts kk tpos ∧ s = [.Assign [.Name x p1] (.Call (.Name "zip" p2) [a, b] [] p3) p4, .Return (some (.Call (.Name "tuple" p5) [.ListComp elt [⟨.Tuple elts kk tpos, .Name x p6, [], 0⟩] scope p7] [] p8)) p9] := by
  unfold vZret at h
  split at h
  · split at h
    · rename_i q
      obtain ⟨h1, q⟩ := ba2 q
      obtain ⟨h2, h3⟩ := ba2 q
      cases h
      obtain rfl := eq_of_beq h1
      obtain rfl := eq_of_beq h2
      obtain rfl := eq_of_beq h3
      exact ⟨_, _, _, _, _, _, _, _, _, _, _, _, rfl, rfl⟩
    · cases h
  · cases h
def vMeth : Stmt → Option (Str × Str × List Expr × Bool)
  | .Expr (.Call (.Attribute (.Name x _) m apos) as [] cpos) _ => some (x, m, as, apos.endLine == cpos.line)
  | _ => none
theorem vMeth_ok {s : Stmt} {x m : Str} {as : List Expr} {t : Bool} (h : vMeth s = some (x, m, as, t)) : ∃ px apos cpos pos, s = .Expr (.Call (.Attribute (.Name x px) m apos) as [] cpos) pos ∧ (apos.endLine == cpos.line) = t := by
  unfold vMeth at h
  split at h
  · cases h; exact ⟨_, _, _, _, rfl, rfl⟩
  · cases h
def vExp : Stmt → Option Expr
  | .Expr p _ => some p
  | _ => none
theorem vExp_ok {s : Stmt} {p : Expr} (h : vExp s = some p) : ∃ pos, s = .Expr p pos := by
  unfold vExp at h
  split at h
  · cases h; exact ⟨_, rfl⟩
  · cases h
def vRet : Stmt → Option Expr
  | .Return (some p) _ => some p
  | _ => none
theorem vRet_ok {s : Stmt} {p : Expr} (h : vRet s = some p) : ∃ pos, s = .Return (some p) pos := by
  unfold vRet at h
  split at h
  · cases h; exact ⟨_, rfl⟩
  · cases h
def vAug : Stmt → Option (Str × Expr)
  | .AugAssign (.Name x _) .Add p _ => some (x, p)
  | _ => none
theorem vAug_ok {s : Stmt} {x : Str} {p : Expr} (h : vAug s = some (x, p)) : ∃ px pos, s = .AugAssign (.Name x px) .Add p pos := by
  unfold vAug at h
  split at h
  · cases h; exact ⟨_, _, rfl⟩
  · cases h
def vIfS : Stmt → Option (Expr × List Stmt × List Stmt)
  | .If q a b _ => some (q, a, b)
  | _ => none
theorem vIfS_ok {s : Stmt} {q : Expr} {a b : List Stmt} (h : vIfS s = some (q, a, b)) : ∃ pos, s = .If q a b pos := by
  unfold vIfS at h
  split at h
  · cases h; exact ⟨_, rfl⟩
  · cases h
def vFor : Stmt → Option (Expr × Expr × List Stmt)
  | .For tg it b [] _ => some (tg, it, b)
  | _ => none
theorem vFor_ok {s : Stmt} {tg it : Expr} {b : List Stmt} (h : vFor s = some (tg, it, b)) : ∃ pos, s = .For tg it b [] pos := by
  unfold vFor at h
  split at h
  · cases h; exact ⟨_, rfl⟩
  · cases h
def vWh : Stmt → Option (Expr × List Stmt)
  | .While q b [] _ => some (q, b)
  | _ => none
theorem vWh_ok {s : Stmt} {q : Expr} {b : List Stmt} (h : vWh s = some (q, b)) : ∃ pos, s = .While q b [] pos := by
  unfold vWh at h
  split at h
  · cases h; exact ⟨_, rfl⟩
  · cases h
def vRais : Stmt → Option (Str × Expr)
  | .Raise (some (.Call (.Name f _) [a] [] _)) none _ => some (f, a)
  | _ => none
theorem vRais_ok {s : Stmt} {f : Str} {a : Expr} (h : vRais s = some (f, a)) : ∃ p pos pos2, s = .Raise (some (.Call (.Name f p) [a] [] pos)) none pos2 := by
  unfold vRais at h
  split at h
  · cases h; exact ⟨_, _, _, rfl⟩
  · cases h
def vBrk : Stmt → Bool
  | .Break _ => true
  | _ => false
def vCont : Stmt → Bool
  | .Continue _ => true
  | _ => false
def chkR : DL.R → Cs → Expr → Bool
  | .e a, c, p => chkE a c .pers p
  | .own a, c, p => chkE a c .new p
  | .cel es, c, p => (match vLst p with
    | some ps => decide (esLen es ≤ 1000) && chkEs es c ps
    | none => false)
def ownComp : DL.R → Bool
  | .own (.comp ..) => true
  | _ => false
mutual
def chkS : DL.S → Cs → Stmt → Bool
  | .set i r, c, st => (match vAsg st with
    | some (t, p) => (match vNameP t with
      | some (x, px) => tgNm c i x && (chkR r c p && (if swOf c x px p then ownComp r && decide (c.sc.names.lookup x = some .local) else true))
      | none => false)
    | none => false)
  | .par i j r q, c, st => (match vPar st with
    | some (x, px, y, py, a, b) => tgNm c i x && (tgNm c j y && (nost a && (nost b && (chkR r c a && (chkR q c b && (parA c x y px py a b || parB c x y px py a b))))))
    | none => false)
  | .par3 i j l r q u, c, st => (match vPar3 st with
    | some (x, px, y, py, z, pz, a, b, d) => tgNm c i x && (tgNm c j y && (tgNm c l z && (nost a && (nost b && (nost d && (chkR r c a && (chkR q c b && (chkR u c d && (parA3 c x y z px py pz a b d || parB3 c x y z px py pz a b d)))))))))
    | none => false)
  | .par4 i j l m r q u v, c, st => (match vPar4 st with
    | some (x, y, z, w, a, b, d, e) => tgNm c i x && (tgNm c j y && (tgNm c l z && (tgNm c m w && (nost a && (nost b && (nost d && (nost e && (chkR r c a && (chkR q c b && (chkR u c d && chkR v c e))))))))))
    | none => false)
  | .unp tg e, c, st => (match vAsg st with
    | some (t, p) => nost t && (chkE e c .pers p && (chkTg tg c t && (notComp p && (vTup p).isNone)))
    | none => false)
  | .app i e, c, st => (match vMeth st with
    | some (x, m, [p], t) => (m == ("append" : Str)) && (t && (nameOk c i x && (nost p && chkE e c .pers p)))
    | _ => false)
  | .ext i e, c, st => (match vMeth st with
    | some (x, m, [p], t) => (m == ("extend" : Str)) && (t && (nameOk c i x && (nost p && chkE e c .new p)))
    | _ => false)
  | .pop i, c, st => (match vMeth st with
    | some (x, m, [], t) => (m == ("pop" : Str)) && (t && nameOk c i x)
    | _ => false)
  | .six i j e, c, st => (match vAsg st with
    | some (t, p) => (match vSub t with
      | some (q, b) => (match vName q with
        | some x => nameOk c i x && (chkE e c .pers p && (chkE j c .tran b && (notSl b && notComp p)))
        | none => false)
      | none => false)
    | none => false)
  | .cset i j e, c, st => (match vAsg st with
    | some (t, p) => (match vSub t with
      | some (q, b) => (match vName q with
        | some x => nameOk c i x && (chkE e c .pers p && (chkE j c .tran b && (notSl b && notComp p)))
        | none => false)
      | none => false)
    | none => false)
  | .popi i e, c, st => (match vMeth st with
    | some (x, m, [p], t) => (m == ("pop" : Str)) && (t && (nameOk c i x && (nost p && chkE e c .tran p)))
    | _ => false)
  | .apop i j e, c, st => (match vApop st with
    | some (x, m, y, n, p, t, u) => (m == ("append" : Str)) && ((n == ("pop" : Str)) && (t && (u && (nameOk c i x && (nameOk c j y && (nost p && chkE e c .tran p))))))
    | none => false)
  | .zret .., _, _ => false
  | .aug i e, c, st => (match vAug st with
    | some (x, p) => tgNm c i x && chkE e c .tran p
    | none => false)
  | .exp e, c, st => (match vExp st with
    | some p => notComp p && chkE e c .tran p
    | none => false)
  | .rt e, c, st => (match vRet st with
    | some p => chkE e c .pers p
    | none => false)
  | .ifs t a b, c, st => (match vIfS st with
    | some (q, x, y) => chkT t c q && (chkSs a c x && chkSs b c y)
    | none => false)
  | .fr tg src b, c, st => (match vFor st with
    | some (t, it, x) => chkI src c true t it && (!isSet it && (chkTg tg c t && chkSs b c x))
    | none => false)
  | .wh t b, c, st => (match vWh st with
    | some (q, x) => chkT t c q && chkSs b c x
    | none => false)
  | .rais cls e, c, st => (match vRais st with
    | some (f, a) => (f == ("BadArgument" : Str)) && ((cls == ("BadArgument" : Str)) && (glB c f && (nost a && chkE e c .pers a)))
    | none => false)
  | .frz _, _, _ => false
  | .cont, _, st => vCont st
  | .brk, _, st => vBrk st
def chkSs : DL.Ss → Cs → List Stmt → Bool
  | .nil, _, [] => true
  | .cons (.frz _) r, c, body => chkSs r c body
  | .cons (.zret i a b vs elt tg) .nil, c, body => (match vZret body with
    | some (x, p, q, el, te, scope) => nameOk c i x && (tgNm c i x && (freeB c "zip" && (freeB c "tuple" && (nost p && (nost q && (chkE a c .pers p && (chkE b c .pers q && (blkC c.N c.sc scope (ownOf c vs) && (chkTg tg (blkCs c scope) te && ((tgIx tg).all (fun i => decide (i ∈ vs)) && chkE elt (blkCs c scope) .pers el))))))))))
    | none => false)
  | .cons s r, c, st :: rest => chkS s c st && chkSs r c rest
  | _, _, _ => false
end
structure SOk (c : Cs) (X : Cx) (exc : Str → Option (Addr × Str)) (T : List (Addr × Str)) (W : WX) (Γ : Ctx) (k : Nat) : Prop where
  e : EOk c X exc T W Γ k
  kind : c.sc.kind = .function
  pass : PassesOwn (model X.prog X.w) X.A X.env X.xe
  room1 : Room 1 X.A
  bad : ∃ C fI, BadTxt X.prog X.K X.mg C fI ∧ exc "BadArgument" = some (C, ("name" : Str))
section
variable {exc : Str → Option (Addr × Str)} {T : List (Addr × Str)} {Γ : Ctx} {k : Nat} {c : Cs} {X : Cx} {W : WX} {ρ0 : List Addr} {H0 : Hp}
theorem chkR_ok {r : DL.R} {p : Expr} (O : EOk c X exc T W Γ k) (h : chkR r c p = true) : SR' X exc T W Γ p r := by
  cases r with
  | e a => exact sr_e (chkE_ok a O h)
  | own a => exact sr_own (chkE_ok a O h)
  | cel es =>
    simp only [chkR] at h
    split at h
    · rename_i ps q
      obtain ⟨pos, e⟩ := vLst_ok q
      obtain ⟨h1, h2⟩ := ba2 h
      rw [e]
      exact sr_cel (chkEs_ok es O h2) (of_decide_eq_true h1)
    · cases h
theorem comp_list {p : Expr} {s : Scope} (h : isComp p = some s) : strip p = p := by
  cases p <;> first | rfl | cases h
theorem swOf_comp {x : Str} {px : Pos} {p : Expr} (h : swOf c x px p = true) : strip p = p := by
  unfold swOf at h
  split at h
  · exact comp_list (by assumption)
  · cases h
theorem s_setOwn {vs : List Nat} {ce : E} {tg : Tg} {src : DL.I} {cd : DL.T} {i : Nat} {x : Str} {px pos : Pos} {p : Expr} (O : EOk c X exc T W Γ k) (hk : c.sc.kind = .function) (h : chkE (.comp vs ce tg src cd) c .new p = true) (hsw : swOf c x px p = true) (hi : X.N[i]? = some x) (hl : c.sc.names.lookup x = some .local) :
    S1 X exc T W Γ ρ0 H0 (.Assign [.Name x px] p pos) (.set i (.own (.comp vs ce tg src cd))) := by
  have es := swOf_comp hsw
  have sw := swOf_ok O.sc hk x px p pos.line
  rw [hsw] at sw
  simp only [chkE] at h
  obtain ⟨l, h⟩ := ba2 h
  rw [es] at h
  split at h
  · rename_i elt tg' iter ifs scope q
    obtain ⟨pos', e⟩ := vLC_ok q
    obtain ⟨h1, h⟩ := ba2 h
    obtain ⟨h2, h⟩ := ba2 h
    obtain ⟨h3, h⟩ := ba2 h
    obtain ⟨h4, h⟩ := ba2 h
    obtain ⟨h5, h⟩ := ba2 h
    obtain ⟨h6, h7⟩ := ba2 h
    subst e
    have hb : BlkOk X.N X.env.scope scope (ownOf c vs) := by
      rw [O.N, O.sc]
      exact blkOk_by h3
    have hl' : X.env.scope.names.lookup x = some .local := by rw [O.sc]; exact hl
    have z := s_setC (ρ0 := ρ0) (H0 := H0) O.calm O.nd hi hl' sw (chkI_ok src O h1) hb (fun s H C cl fp => chkTg_ok tg (O.blk s H C cl fp) h4) (fun s H C cl fp => chkTs_ok cd (O.blk s H C cl fp) h6) (fun s H C cl fp => chkE_ok ce (O.blk s H C cl fp) h7) (noFold (bn h2) X.env)
      (fun i hi => by rw [ownOf_ix]; exact of_decide_eq_true (List.all_eq_true.mp h5 i hi))
    rw [ownOf_ix] at z
    exact z
  · cases h
mutual
theorem chkS_ok : ∀ (s : DL.S) {st : Stmt}, SOk c X exc T W Γ k → chkS s c st = true → S1 X exc T W Γ ρ0 H0 st s
  | .set i r, st, O, h => by
    simp only [chkS] at h
    split at h
    · rename_i t p q
      obtain ⟨pos, e⟩ := vAsg_ok q
      split at h
      · rename_i x px q2
        have e2 := vNameP_ok q2
        obtain ⟨h1, h⟩ := ba2 h
        obtain ⟨h2, h3⟩ := ba2 h
        obtain ⟨t1, t2, t3⟩ := tgNm_ok O.e h1
        rw [e, e2]
        by_cases hsw : swOf c x px p = true
        · rw [if_pos hsw] at h3
          obtain ⟨h4, h5⟩ := ba2 h3
          unfold ownComp at h4
          split at h4
          · exact s_setOwn O.e O.kind h2 hsw t1 (of_decide_eq_true h5)
          · cases h4
        · have sw := swOf_ok O.e.sc O.kind x px p pos.line
          have hf : swOf c x px p = false := by
            cases z : swOf c x px p with
            | false => rfl
            | true => exact absurd z hsw
          rw [hf] at sw
          exact s_set O.e.nd t1 t2 t3 (chkR_ok O.e h2) sw
      · cases h
    · cases h
  | .par i j r q, st, O, h => by
    simp only [chkS] at h
    split at h
    · rename_i x px y py a b q1
      obtain ⟨kt, pt, k2, pt2, pos, e⟩ := vPar_ok q1
      obtain ⟨h1, h⟩ := ba2 h
      obtain ⟨h2, h⟩ := ba2 h
      obtain ⟨n1, h⟩ := ba2 h
      obtain ⟨n2, h⟩ := ba2 h
      obtain ⟨h3, h⟩ := ba2 h
      obtain ⟨h4, h⟩ := ba2 h
      obtain ⟨t1, t2, t3⟩ := tgNm_ok O.e h1
      obtain ⟨u1, u2, u3⟩ := tgNm_ok O.e h2
      rw [e]
      rw [Bool.or_eq_true] at h
      rcases h with h | h
      · obtain ⟨sw, l1, l2, ne⟩ := stores_A (kt := kt) (k2 := k2) (pt := pt) (pt2 := pt2) O.e.sc O.kind n1 n2 h
        have hij : i ≠ j := fun z => by
          rw [z, u1] at t1
          exact ne (Option.some.inj t1).symm
        exact s_parA O.e.calm O.e.nd t1 u1 hij (by rw [O.e.sc]; exact l1) (by rw [O.e.sc]; exact l2) (chkR_ok O.e h3) (chkR_ok O.e h4) n1 n2 sw
      · exact s_parB O.e.calm O.e.nd t1 u1 t2 u2 t3 u3 (chkR_ok O.e h3) (chkR_ok O.e h4) n1 n2 (stores_B O.e.sc n1 n2 h)
    · cases h
  | .par3 i j l r q u, st, O, h => by
    simp only [chkS] at h
    split at h
    · rename_i x px y py z pz a b d q1
      obtain ⟨kt, pt, k2, pt2, pos, e⟩ := vPar3_ok q1
      obtain ⟨h1, h⟩ := ba2 h
      obtain ⟨h2, h⟩ := ba2 h
      obtain ⟨h3, h⟩ := ba2 h
      obtain ⟨n1, h⟩ := ba2 h
      obtain ⟨n2, h⟩ := ba2 h
      obtain ⟨n3, h⟩ := ba2 h
      obtain ⟨h4, h⟩ := ba2 h
      obtain ⟨h5, h⟩ := ba2 h
      obtain ⟨h6, h⟩ := ba2 h
      obtain ⟨t1, t2, t3⟩ := tgNm_ok O.e h1
      obtain ⟨u1, u2, u3⟩ := tgNm_ok O.e h2
      obtain ⟨w1, w2, w3⟩ := tgNm_ok O.e h3
      rw [e]
      rw [Bool.or_eq_true] at h
      rcases h with h | h
      · obtain ⟨sw, l1, l2, l3, ne1, ne2, ne3⟩ := stores_A3 (kt := kt) (k2 := k2) (pt := pt) (pt2 := pt2) O.e.sc O.kind n1 n2 n3 h
        have hij : i ≠ j := fun zz => by
          rw [zz, u1] at t1
          exact ne1 (Option.some.inj t1).symm
        have hil : i ≠ l := fun zz => by
          rw [zz, w1] at t1
          exact ne2 (Option.some.inj t1).symm
        have hjl : j ≠ l := fun zz => by
          rw [zz, w1] at u1
          exact ne3 (Option.some.inj u1).symm
        exact s_par3A O.e.calm O.e.nd t1 u1 w1 hij hil hjl (by rw [O.e.sc]; exact l1) (by rw [O.e.sc]; exact l2) (by rw [O.e.sc]; exact l3) (chkR_ok O.e h4) (chkR_ok O.e h5) (chkR_ok O.e h6) n1 n2 n3 sw
      · exact s_par3B O.e.calm O.e.nd t1 u1 w1 t2 u2 w2 t3 u3 w3 (chkR_ok O.e h4) (chkR_ok O.e h5) (chkR_ok O.e h6) n1 n2 n3 (stores_B3 O.e.sc n1 n2 n3 h)
    · cases h
  | .par4 i j l m r q u v, st, O, h => by
    simp only [chkS] at h
    split at h
    · rename_i x y z w a b d e0 q1
      obtain ⟨px, py, pz, pw, kt, pt, k2, pt2, pos, e⟩ := vPar4_ok q1
      obtain ⟨h1, h⟩ := ba2 h
      obtain ⟨h2, h⟩ := ba2 h
      obtain ⟨h3, h⟩ := ba2 h
      obtain ⟨h4, h⟩ := ba2 h
      obtain ⟨n1, h⟩ := ba2 h
      obtain ⟨n2, h⟩ := ba2 h
      obtain ⟨n3, h⟩ := ba2 h
      obtain ⟨n4, h⟩ := ba2 h
      obtain ⟨h5, h⟩ := ba2 h
      obtain ⟨h6, h⟩ := ba2 h
      obtain ⟨h7, h8⟩ := ba2 h
      obtain ⟨t1, t2, t3⟩ := tgNm_ok O.e h1
      obtain ⟨u1, u2, u3⟩ := tgNm_ok O.e h2
      obtain ⟨w1, w2, w3⟩ := tgNm_ok O.e h3
      obtain ⟨v1, v2, v3⟩ := tgNm_ok O.e h4
      rw [e]
      exact s_par4B O.e.calm O.e.nd t1 u1 w1 v1 t2 u2 w2 v2 t3 u3 w3 v3 (chkR_ok O.e h5) (chkR_ok O.e h6) (chkR_ok O.e h7) (chkR_ok O.e h8) n1 n2 n3 n4
    · cases h
  | .unp tg e, st, O, h => by
    simp only [chkS] at h
    split at h
    · rename_i t p q
      obtain ⟨pos, eq⟩ := vAsg_ok q
      obtain ⟨h1, h⟩ := ba2 h
      obtain ⟨h2, h⟩ := ba2 h
      obtain ⟨h3, h⟩ := ba2 h
      obtain ⟨h4, h5⟩ := ba2 h
      rw [eq]
      exact s_unp (chkE_ok e O.e h2) (chkTg_ok tg O.e h3) h4 (stores_no (Option.isNone_iff_eq_none.mp h5)) h1
    · cases h
  | .app i e, st, O, h => by
    simp only [chkS] at h
    split at h
    · rename_i x m p t q
      obtain ⟨px, apos, cpos, pos, eq, et⟩ := vMeth_ok q
      obtain ⟨h1, h⟩ := ba2 h
      obtain ⟨h2, h⟩ := ba2 h
      obtain ⟨h3, h⟩ := ba2 h
      obtain ⟨h4, h5⟩ := ba2 h
      obtain rfl := eq_of_beq h1
      rw [h2] at et
      rw [eq]
      exact s_app (nameOk_ok O.e h3) (chkE_ok e O.e h5) h4 et
    · cases h
  | .ext i e, st, O, h => by
    simp only [chkS] at h
    split at h
    · rename_i x m p t q
      obtain ⟨px, apos, cpos, pos, eq, et⟩ := vMeth_ok q
      obtain ⟨h1, h⟩ := ba2 h
      obtain ⟨h2, h⟩ := ba2 h
      obtain ⟨h3, h⟩ := ba2 h
      obtain ⟨h4, h5⟩ := ba2 h
      obtain rfl := eq_of_beq h1
      rw [h2] at et
      rw [eq]
      exact s_ext (nameOk_ok O.e h3) (chkE_ok e O.e h5) h4 et
    · cases h
  | .pop i, st, O, h => by
    simp only [chkS] at h
    split at h
    · rename_i x m t q
      obtain ⟨px, apos, cpos, pos, eq, et⟩ := vMeth_ok q
      obtain ⟨h1, h⟩ := ba2 h
      obtain ⟨h2, h3⟩ := ba2 h
      obtain rfl := eq_of_beq h1
      rw [h2] at et
      rw [eq]
      exact s_pop (nameOk_ok O.e h3) et
    · cases h
  | .six i j e, st, O, h => by
    simp only [chkS] at h
    split at h
    · rename_i t p q
      obtain ⟨pos, eq⟩ := vAsg_ok q
      split at h
      · rename_i q0 b q2
        obtain ⟨spos, e2⟩ := vSub_ok q2
        split at h
        · rename_i x q3
          obtain ⟨px, e3⟩ := vName_ok q3
          obtain ⟨h1, h⟩ := ba2 h
          obtain ⟨h2, h⟩ := ba2 h
          obtain ⟨h3, h⟩ := ba2 h
          obtain ⟨h4, h5⟩ := ba2 h
          rw [eq, e2, e3]
          exact s_six (nameOk_ok O.e h1) (chkE_ok e O.e h2) (chkE_ok j O.e h3) h4 h5
        · cases h
      · cases h
    · cases h
  | .cset i j e, st, O, h => by
    simp only [chkS] at h
    split at h
    · rename_i t p q
      obtain ⟨pos, eq⟩ := vAsg_ok q
      split at h
      · rename_i q0 b q2
        obtain ⟨spos, e2⟩ := vSub_ok q2
        split at h
        · rename_i x q3
          obtain ⟨px, e3⟩ := vName_ok q3
          obtain ⟨h1, h⟩ := ba2 h
          obtain ⟨h2, h⟩ := ba2 h
          obtain ⟨h3, h⟩ := ba2 h
          obtain ⟨h4, h5⟩ := ba2 h
          rw [eq, e2, e3]
          exact s_cset (nameOk_ok O.e h1) (chkE_ok e O.e h2) (chkE_ok j O.e h3) h4 h5
        · cases h
      · cases h
    · cases h
  | .popi i e, st, O, h => by
    simp only [chkS] at h
    split at h
    · rename_i x m p t q
      obtain ⟨px, apos, cpos, pos, eq, et⟩ := vMeth_ok q
      obtain ⟨h1, h⟩ := ba2 h
      obtain ⟨h2, h⟩ := ba2 h
      obtain ⟨h3, h⟩ := ba2 h
      obtain ⟨h4, h5⟩ := ba2 h
      obtain rfl := eq_of_beq h1
      rw [h2] at et
      rw [eq]
      exact s_popi (nameOk_ok O.e h3) (chkE_ok e O.e h5) h4 et
    · cases h
  | .apop i j e, st, O, h => by
    simp only [chkS] at h
    split at h
    · rename_i x m y n p t u q
      obtain ⟨px, apos2, py, apos, cpos, cpos2, pos, eq, et, eu⟩ := vApop_ok q
      obtain ⟨h1, h⟩ := ba2 h
      obtain ⟨h2, h⟩ := ba2 h
      obtain ⟨h3, h⟩ := ba2 h
      obtain ⟨h4, h⟩ := ba2 h
      obtain ⟨h5, h⟩ := ba2 h
      obtain ⟨h6, h⟩ := ba2 h
      obtain ⟨h7, h8⟩ := ba2 h
      obtain rfl := eq_of_beq h1
      obtain rfl := eq_of_beq h2
      rw [h3] at et
      rw [h4] at eu
      rw [eq]
      exact s_apop (nameOk_ok O.e h5) (nameOk_ok O.e h6) (chkE_ok e O.e h8) h7 et eu
    · cases h
  | .zret .., st, O, h => by simp [chkS] at h
  | .aug i e, st, O, h => by
    simp only [chkS] at h
    split at h
    · rename_i x p q
      obtain ⟨px, pos, eq⟩ := vAug_ok q
      obtain ⟨h1, h2⟩ := ba2 h
      obtain ⟨t1, t2, t3⟩ := tgNm_ok O.e h1
      rw [eq]
      exact s_aug O.e.nd t1 t2 t3 (chkE_ok e O.e h2)
    · cases h
  | .exp e, st, O, h => by
    simp only [chkS] at h
    split at h
    · rename_i p q
      obtain ⟨pos, eq⟩ := vExp_ok q
      obtain ⟨h1, h2⟩ := ba2 h
      rw [eq]
      exact s_exp (chkE_ok e O.e h2) h1
    · cases h
  | .rt e, st, O, h => by
    simp only [chkS] at h
    split at h
    · rename_i p q
      obtain ⟨pos, eq⟩ := vRet_ok q
      rw [eq]
      exact s_rt (chkE_ok e O.e h)
    · cases h
  | .ifs t a b, st, O, h => by
    simp only [chkS] at h
    split at h
    · rename_i q0 x y q
      obtain ⟨pos, eq⟩ := vIfS_ok q
      obtain ⟨h1, h⟩ := ba2 h
      obtain ⟨h2, h3⟩ := ba2 h
      rw [eq]
      exact s_ifs (chkT_ok t O.e h1).1 (chkSs_ok a O h2) (chkSs_ok b O h3)
    · cases h
  | .fr tg src b, st, O, h => by
    simp only [chkS] at h
    split at h
    · rename_i t it x q
      obtain ⟨pos, eq⟩ := vFor_ok q
      obtain ⟨h1, h⟩ := ba2 h
      obtain ⟨h2, h⟩ := ba2 h
      obtain ⟨h3, h4⟩ := ba2 h
      rw [eq]
      exact s_fr O.pass O.e.calm (chkI_ok src O.e h1) (chkTg_ok tg O.e h3) (chkSs_ok b O h4) (noFold (bn h2) X.env)
    · cases h
  | .wh t b, st, O, h => by
    simp only [chkS] at h
    split at h
    · rename_i q0 x q
      obtain ⟨pos, eq⟩ := vWh_ok q
      obtain ⟨h1, h2⟩ := ba2 h
      rw [eq]
      exact s_wh O.pass (chkT_ok t O.e h1).1 (chkSs_ok b O h2)
    · cases h
  | .rais cls e, st, O, h => by
    simp only [chkS] at h
    split at h
    · rename_i f a q
      obtain ⟨p, pos, pos2, eq⟩ := vRais_ok q
      obtain ⟨h1, h⟩ := ba2 h
      obtain ⟨h2, h⟩ := ba2 h
      obtain ⟨h3, h⟩ := ba2 h
      obtain ⟨h4, h5⟩ := ba2 h
      obtain rfl := eq_of_beq h1
      obtain rfl := eq_of_beq h2
      obtain ⟨C, fI, B, hex⟩ := O.bad
      rw [eq]
      exact s_rais O.e.calm B hex O.room1 O.e.tk (glB_ok O.e h3).1 h4 (chkE_ok e O.e h5)
    · cases h
  | .frz _, st, O, h => by simp [chkS] at h
  | .cont, st, O, h => by
    simp only [chkS] at h
    cases st <;> first | (cases h; done) | exact s_cont
  | .brk, st, O, h => by
    simp only [chkS] at h
    cases st <;> first | (cases h; done) | exact s_brk
theorem chkSs_ok : ∀ (s : DL.Ss) {body : List Stmt}, SOk c X exc T W Γ k → chkSs s c body = true → SSs X exc T W Γ ρ0 H0 body s
  | .nil, [], O, h => ss_nil
  | .nil, _ :: _, O, h => by simp [chkSs] at h
  | .cons s r, body, O, h => by
    by_cases hf : ∃ i, s = .frz i
    · obtain ⟨i, rfl⟩ := hf
      simp only [chkSs] at h
      exact ss_frz (chkSs_ok r O h)
    · by_cases hz : (∃ i a b vs elt tg, s = .zret i a b vs elt tg) ∧ r = .nil
      · obtain ⟨⟨i, a, b, vs, elt, tg, rfl⟩, rfl⟩ := hz
        simp only [chkSs] at h
        split at h
        · rename_i x p q el te scope q1
          obtain ⟨p1, p2, p3, p4, p5, elts, kk, tpos, p6, p7, p8, p9, rfl, e⟩ := vZret_ok q1
          obtain ⟨h1, h⟩ := ba2 h
          obtain ⟨h2, h⟩ := ba2 h
          obtain ⟨h3, h⟩ := ba2 h
          obtain ⟨h4, h⟩ := ba2 h
          obtain ⟨h5, h⟩ := ba2 h
          obtain ⟨h6, h⟩ := ba2 h
          obtain ⟨h7, h⟩ := ba2 h
          obtain ⟨h8, h⟩ := ba2 h
          obtain ⟨h9, h⟩ := ba2 h
          obtain ⟨h10, h⟩ := ba2 h
          obtain ⟨h11, h12⟩ := ba2 h
          obtain ⟨t1, t2, t3⟩ := tgNm_ok O.e h2
          have hb : BlkOk X.N X.env.scope scope (ownOf c vs) := by
            rw [O.e.N, O.e.sc]
            exact blkOk_by h9
          rw [e]
          have z := ss_zret (ρ0 := ρ0) (H0 := H0) (p1 := p1) (p2 := p2) (p3 := p3) (p4 := p4) (p5 := p5) (p6 := p6) (p7 := p7) (p8 := p8) (p9 := p9) O.e.calm O.e.nd (nameOk_ok O.e h1) t2 t3 (freeB_ok O.e h3).1 (freeB_ok O.e h3).2 (freeB_ok O.e h4).1 (freeB_ok O.e h4).2 (chkE_ok a O.e h7) (chkE_ok b O.e h8) h5 h6 hb
            (fun s H C cl fp => chkTg_ok tg (O.e.blk s H C cl fp) h10) (fun s H C cl fp => chkE_ok elt (O.e.blk s H C cl fp) h12) (fun i hi => by rw [ownOf_ix]; exact of_decide_eq_true (List.all_eq_true.mp h11 i hi))
          rw [ownOf_ix] at z
          exact z
        · cases h
      · cases body with
        | nil =>
          cases s <;> first | (exact absurd ⟨_, rfl⟩ hf) | (cases r <;> first | (exact absurd ⟨⟨_, _, _, _, _, _, rfl⟩, rfl⟩ hz) | (simp [chkSs] at h)) | (simp [chkSs] at h)
        | cons st rest =>
          have h' : (chkS s c st && chkSs r c rest) = true := by
            cases s <;> first | (exact absurd ⟨_, rfl⟩ hf) | (cases r <;> first | (exact absurd ⟨⟨_, _, _, _, _, _, rfl⟩, rfl⟩ hz) | (simpa only [chkSs] using h)) | (simpa only [chkSs] using h)
          obtain ⟨h1, h2⟩ := ba2 h'
          exact ss_cons (chkS_ok s O h1) (chkSs_ok r O h2)
end
end
end DL
end

section
/-! Sd20: defs, called by defs -/
namespace DL
open PySem PySem.Spec PyProof.Rows L2

structure FnE where
  x : Str
  ps : List Str
  N : List Str
  params : Arguments
  body : List Stmt
  sc : Scope
  d : Def
def scB (N ps : List Str) (sc : Scope) : Bool := decide (sc.kind = .function) && (!sc.isCoroutine && (!sc.isGenerator && (decide N.Nodup && (decide (N.take ps.length = ps) && ((ps.all fun x => decide (sc.names.lookup x = some .local) || decide (sc.names.lookup x = some .cell)) && sc.names.all fun y => !decide (y.2 = .free))))))
theorem scB_ok {N ps : List Str} {sc : Scope} (h : scB N ps sc = true) : FnScope N ps sc := by
  obtain ⟨h1, h⟩ := ba2 h
  obtain ⟨h2, h⟩ := ba2 h
  obtain ⟨h3, h⟩ := ba2 h
  obtain ⟨h4, h⟩ := ba2 h
  obtain ⟨h5, h⟩ := ba2 h
  obtain ⟨h6, h7⟩ := ba2 h
  refine ⟨of_decide_eq_true h1, bn h2, bn h3, of_decide_eq_true h4, of_decide_eq_true h5, fun x hx => ?_, fun y hy => ?_⟩
  · have z := List.all_eq_true.mp h6 x hx
    rw [Bool.or_eq_true] at z
    rcases z with z | z
    · exact .inl (of_decide_eq_true z)
    · exact .inr (of_decide_eq_true z)
  · have z := List.all_eq_true.mp h7 y hy
    exact of_decide_eq_false (bn z)
def FnE.cs (e : FnE) (fns : Nat → Option (Str × List Str)) (free : List Str) (glb : List (Str × D)) (lam : Bool) : Cs := ⟨e.N, e.sc, lam, fun _ => true, fns, free, glb⟩
def FnE.ok (e : FnE) (fns : Nat → Option (Str × List Str)) (free : List Str) (glb : List (Str × D)) (lam : Bool) : Bool :=
  scB e.N e.ps e.sc && (decide (e.d.np = e.ps.length) && (decide (e.d.nn = e.N.length) && (decide (e.ps.length ≤ e.N.length) && chkSs e.d.body (e.cs fns free glb lam) e.body)))
/-- its arguments, by place and by name -/
def FnE.Bnd (e : FnE) : Prop := ∀ (kV doc pm : Value) (an : Option Addr) (cdv ct : Value) (us : List Value), us.length = e.ps.length →
  bindArgs (PySem.W.fnOf e.x e.x e.params e.body e.sc .none kV doc pm an cdv ct) ⟨us, []⟩ = pure (e.ps.zip us) ∧ bindArgs (PySem.W.fnOf e.x e.x e.params e.body e.sc .none kV doc pm an cdv ct) ⟨[], e.ps.zip us⟩ = pure (e.ps.zip us)

section
variable {G : Glob} {ρ ρ' : List Addr} {H H' : Hp} {S S' : Store}
theorem Ext.drop (e : Ext G ρ H ρ' H') : Ext G ρ H ρ H' := ⟨⟨[], by simp⟩, e.keep, fun _ h1 h2 => absurd h1 h2, e.there, e.per, e.tabs⟩
theorem StR.drop (e : Ext G ρ H ρ' H') (st : StR G ρ S H) (st' : StR G ρ' S' H') : StR G ρ (S'.take S.length) H' := by
  obtain ⟨more, em⟩ := e.pre
  have hl : S.length = ρ.length := st.len
  have hl' := st'.len
  rw [em, List.length_append] at hl'
  refine ⟨?_, st.nd, fun i xs q => ?_⟩
  · rw [List.length_take]; omega
  · rw [List.getElem?_take] at q
    split at q
    · rename_i hi
      obtain ⟨a, vs, h1, h2, h3⟩ := st'.at_ i xs q
      refine ⟨a, vs, ?_, h2, h3⟩
      rw [em, List.getElem?_append_left (by omega)] at h1
      exact h1
    · cases q
theorem avs_map {xs : List V} {as : List Av} (h : AvsR G ρ H xs as) {i : Nat} {a : Av} (e : as[i]? = some a) : ∃ x, xs[i]? = some x ∧ AvR G ρ H x a := by
  induction xs generalizing as i with
  | nil =>
    cases as with
    | nil => simp at e
    | cons b as => exact h.elim
  | cons y xs ih =>
    cases as with
    | nil => exact h.elim
    | cons b as =>
      cases i with
      | zero => simp at e; subst e; exact ⟨y, rfl, h.1⟩
      | succ i =>
        obtain ⟨x, h1, h2⟩ := ih h.2 (by simpa using e)
        exact ⟨x, by simpa using h1, h2⟩
theorem env0_at {d : Def} {as : List Av} {i : Nat} {s : Slot} (e : (env0 d as)[i]? = some (some s)) : ∃ a, as[i]? = some a ∧ s = slotOf a := by
  unfold env0 at e
  by_cases hi : i < as.length
  · rw [List.getElem?_append_left (by rw [List.length_map]; exact hi), List.getElem?_map, List.getElem?_eq_getElem hi] at e
    exact ⟨as[i], List.getElem?_eq_getElem hi, (Option.some.inj (Option.some.inj e)).symm⟩
  · rw [List.getElem?_append_right (by rw [List.length_map]; omega), List.getElem?_replicate] at e
    split at e
    · cases e
    · cases e
theorem env0_own {d : Def} {as : List Av} {i : Nat} {xs : List D} : (env0 d as)[i]? ≠ some (some (.own xs)) := fun e => by
  obtain ⟨a, _, h⟩ := env0_at e
  cases a <;> cases h
/-- the slots at a def's entry -/
theorem srb_start {d : Def} {as : List Av} {vs : List V} {N : List Str} (hnp : as.length = d.np) (hN : d.nn = N.length) (hle : d.np ≤ N.length) (h : AvsR G ρ H vs as) (st : StR G ρ S H) (tb : LamX.Tabs G.T H) : SRB G ρ H ρ (env0 d as) S (start N vs) H := by
  have hl := h.length
  refine ⟨⟨⟨?_, fun i s e => ?_, fun i j xs ys a e => absurd e env0_own⟩, st, tb⟩, Ext.refl _ _ _, fun i xs a e => absurd e env0_own⟩
  · unfold env0 L2.start
    rw [List.length_append, List.length_append, List.length_map, List.length_map, List.length_replicate, List.length_replicate, hl, hN, hnp]
  · obtain ⟨a, e1, e2⟩ := env0_at e
    obtain ⟨x, h1, h2⟩ := avs_map h e1
    refine ⟨some x, ?_, ?_⟩
    · unfold L2.start
      rw [List.getElem?_append_left (by rw [List.length_map]; exact (List.getElem?_eq_some_iff.mp h1).1), List.getElem?_map, h1]
      rfl
    · subst e2
      cases a with
      | d dd => exact ⟨x, rfl, h2⟩
      | c r => obtain ⟨b, g1, g2⟩ := h2; exact ⟨b, by rw [g1], g2⟩
end
section
variable {exc : Str → Option (Addr × Str)} {T : List (Addr × Str)} {Γ : Ctx} {k : Nat} {c : Cs} {X : Cx}
/-- a def's body does what the compact text does -/
theorem body_run {G : Glob} {Ex : XK} {d : Def} {ρ : List Addr} {as : List Av} {vs : List V} {S S' : Store} {H : Hp} {N : List Str} {r : Res Av} {Q : VK} (hN : d.nn = N.length) (hle : d.np ≤ N.length)
    (ev : callDef Γ d as S = some (r, S')) (st : StR G ρ S H) (tb : LamX.Tabs G.T H) (h : AvsR G ρ H vs as) (fin : FinC G ρ H r S' Q Ex) :
    tS G (fun cls d _ H => Ex cls d H) ρ H (evSs Γ d.body) { nx := fun _ H' => Q .non H', rt := Q } (start N vs) H := by
  unfold callDef at ev
  split at ev
  · rename_i hnp
    refine ⟨ρ, env0 d as, S, srb_start hnp hN hle h st tb, ?_⟩
    cases q : evSs Γ d.body (env0 d as) S with
    | none => rw [q] at ev; cases ev
    | some p =>
      obtain ⟨r1, S1⟩ := p
      rw [q] at ev
      refine ⟨r1, S1, rfl, ?_⟩
      cases r1 with
      | err cls y =>
        cases ev
        obtain ⟨C, fld, h1, h2⟩ := fin
        exact ⟨C, fld, h1, fun σ' b v ρ' H' e s hb hv => h2 b v ρ H' e.drop (StR.drop e st s) hb hv⟩
      | ok f =>
        cases f with
        | next env' =>
          cases ev
          exact fun σ' ρ' H' sr _ => fin .non ρ H' sr.ex.drop (StR.drop sr.ex st sr.sr.st) .non
        | ret v =>
          cases v with
          | d x =>
            cases ev
            exact fun y ρ' H' e s rel => fin y ρ H' e.drop (StR.drop e st s) rel
          | c rr =>
            cases ev
            exact fun y ρ' H' e s rel => fin y ρ' H' e s rel
        | brk env' => cases ev
        | cont env' => cases ev
  · cases ev
end
/-! ### the world of a law -/
structure Wd (G : Glob) (tab : List (Nat × FnE)) (free : List Str) (glb : List (Str × D)) : Prop where
  free : ∀ x ∈ free, G.mg x = none
  glb : ∀ q ∈ glb, ∃ u v, G.mg q.1 = some u ∧ RelV v u ∧ ∀ H, Rp G.K H v q.2
  bad : ∃ C fI, BadTxt G.P G.K G.mg C fI ∧ G.exc "BadArgument" = some (C, ("name" : Str))
  fns : ∀ q ∈ tab, ∃ a fd kws, FunD G.K q.2.x q.2.x q.2.params q.2.body q.2.sc [] kws a fd ∧ G.mg q.2.x = some (.ref a)
def fnsOf (tab : List (Nat × FnE)) (f : Nat) : Option (Str × List Str) := (tab.lookup f).map fun e => (e.x, e.ps)
def tblOf (tab : List (Nat × FnE)) (f : Nat) : Option Def := (tab.lookup f).map fun e => e.d
theorem lookup_mem {α : Type} {tab : List (Nat × α)} {f : Nat} {e : α} (h : tab.lookup f = some e) : (f, e) ∈ tab := by
  induction tab with
  | nil => cases h
  | cons q r ih =>
    obtain ⟨g, u⟩ := q
    rw [List.lookup_cons] at h
    cases z : f == g with
    | true =>
      rw [z] at h
      cases h
      rw [beq_iff_eq.mp z]
      exact List.mem_cons_self
    | false =>
      rw [z] at h
      exact List.mem_cons_of_mem _ (ih h)
theorem eok_of {G : Glob} {tab : List (Nat × FnE)} {free : List Str} {glb : List (Str × D)} {fuel k kr : Nat} (Wf : Wd G tab free glb) (hk : ∀ f x ps, fnsOf tab f = some (x, ps) → Callee G k x ps (run (tblOf tab) fuel kr f)) {e : FnE} {lam : Bool} {a : Addr} {cdv : Value} {A : Around} {outer : List PySem.Env} {s : Shared} {H : Hp} {Ex : XK} (hnd : e.N.Nodup)
    (hr : Room (k + 2) (A.deeper (envOfC e.x e.sc s.heap.objs.size a cdv))) (hlam : lam = true → LamOk (cxOf (L2.CX G.P G.w) G.P G.w G.K G.mg G.base e.N e.x e.sc a cdv A outer s H Ex) G.exc G.T k) :
    EOk (e.cs (fnsOf tab) free glb lam) (cxOf (L2.CX G.P G.w) G.P G.w G.K G.mg G.base e.N e.x e.sc a cdv A outer s H Ex) G.exc G.T (fun cls d _ H => Ex cls d H) ⟨run (tblOf tab) fuel kr, fuel⟩ k where
  N := rfl
  nd := hnd
  sc := rfl
  calm := rfl
  room := hr.mono (by omega)
  tk := takes_of rfl rfl rfl rfl
  fn := fun _ _ => rfl
  fns := fun f x ps h => hk f x ps h
  free := Wf.free
  glb := Wf.glb
  lam := hlam
theorem sok_of {G : Glob} {tab : List (Nat × FnE)} {free : List Str} {glb : List (Str × D)} {fuel k kr : Nat} (Wf : Wd G tab free glb) (hk : ∀ f x ps, fnsOf tab f = some (x, ps) → Callee G k x ps (run (tblOf tab) fuel kr f)) {e : FnE} {lam : Bool} {a : Addr} {cdv : Value} {A : Around} {outer : List PySem.Env} {s : Shared} {H : Hp} {Ex : XK} (S : FnScope e.N e.ps e.sc)
    (hr : Room (k + 2) (A.deeper (envOfC e.x e.sc s.heap.objs.size a cdv))) (hlam : lam = true → LamOk (cxOf (L2.CX G.P G.w) G.P G.w G.K G.mg G.base e.N e.x e.sc a cdv A outer s H Ex) G.exc G.T k) :
    SOk (e.cs (fnsOf tab) free glb lam) (cxOf (L2.CX G.P G.w) G.P G.w G.K G.mg G.base e.N e.x e.sc a cdv A outer s H Ex) G.exc G.T (fun cls d _ H => Ex cls d H) ⟨run (tblOf tab) fuel kr, fuel⟩ k where
  e := eok_of Wf hk S.nd hr hlam
  kind := S.kind
  pass := passes_of rfl
  room1 := hr.mono (by omega)
  bad := Wf.bad
theorem calls_ok {G : Glob} {tab : List (Nat × FnE)} {free : List Str} {glb : List (Str × D)} {fuel : Nat} (Wf : Wd G tab free glb) (hok : ∀ q ∈ tab, q.2.ok (fnsOf tab) free glb false = true) (hbd : ∀ q ∈ tab, q.2.Bnd) :
    ∀ (k f : Nat) (x : Str) (ps : List Str), fnsOf tab f = some (x, ps) → Callee G (3 * k) x ps (run (tblOf tab) fuel k f) := by
  have key : ∀ (f : Nat) (x : Str) (ps : List Str), fnsOf tab f = some (x, ps) → ∃ e, tab.lookup f = some e ∧ x = e.x ∧ ps = e.ps ∧ (f, e) ∈ tab := fun f x ps h => by
    unfold fnsOf at h
    cases z : tab.lookup f with
    | none => rw [z] at h; cases h
    | some e =>
      rw [z] at h
      cases h
      exact ⟨e, rfl, rfl, rfl, lookup_mem z⟩
  have com : ∀ (f : Nat) (e : FnE), (f, e) ∈ tab → ∃ (a : Addr) (fd : FuncData) (kws : List (Str × V)), FunD G.K e.x e.x e.params e.body e.sc [] kws a fd ∧ G.mg e.x = some (.ref a) ∧ PySem.W.keepIn G.K (.ref a) = true ∧ Binds G.K fd e.ps [] ∧
      (∀ (s : Shared) (ws : List Value), G.K.In s.heap → ws.length = e.ps.length → BindsTo s fd ⟨[], e.ps.zip ws⟩ (e.ps.zip ws)) := fun f e he => by
    obtain ⟨a, fd, kws, F, hm⟩ := Wf.fns _ he
    refine ⟨a, fd, kws, F, hm, F.kp, F.bindsN fun kV doc pm an cdv ct us hl => (hbd _ he kV doc pm an cdv ct us hl).1, fun s ws _ hl => ?_⟩
    obtain ⟨oc, od, dV, kV, doc, pm, an, cdv, ct, osl, rfl, lk, hcd, hD, hK⟩ := F.ex
    rcases hD with ⟨_, rfl⟩ | ⟨z, _⟩
    · exact .of_eq (hbd _ he kV doc pm an cdv ct ws hl).2
    · exact absurd rfl z
  intro k
  induction k with
  | zero =>
    intro f x ps h
    obtain ⟨e, z, rfl, rfl, he⟩ := key f x ps h
    obtain ⟨a, fd, kws, F, hm, kp, hb, hb2⟩ := com f e he
    refine ⟨a, fd, hm, kp, hb, hb2, ⟨fun vs H Q E h => h.1, fun A outer s H args us vs Q E hr e0 hb r hsp => ?_⟩⟩
    obtain ⟨_, ρ, as, S, r, S', ev, _⟩ := hsp
    cases ev
  | succ k ih =>
    intro f x ps h
    obtain ⟨e, z, rfl, rfl, he⟩ := key f x ps h
    obtain ⟨a, fd, kws, F, hm, kp, hb, hb2⟩ := com f e he
    refine ⟨a, fd, hm, kp, hb, hb2, ?_⟩
    have hk := hok _ he
    obtain ⟨h1, hk⟩ := ba2 hk
    obtain ⟨h2, hk⟩ := ba2 hk
    obtain ⟨h3, hk⟩ := ba2 hk
    obtain ⟨h4, h5⟩ := ba2 hk
    have S := scB_ok h1
    have h2 := of_decide_eq_true h2
    have h4 := of_decide_eq_true h4
    refine FunD.ok (k := 3 * k + 2) F S (fun vs H Q E h => h.1) (fun cdv A outer s H vs Q Ex hr hsp => ?_)
    obtain ⟨hl, ρ, as, S0, r, S', ev, st, tb, hA, fin⟩ := hsp
    have ev : callDef ⟨run (tblOf tab) fuel k, fuel⟩ e.d as S0 = some (r, S') := by
      have ht : tblOf tab f = some e.d := by
        unfold tblOf
        rw [z]
        rfl
      rw [← ev]
      show _ = run (tblOf tab) fuel (k + 1) f as S0
      rw [run, ht]
    exact ⟨_, chkSs_ok (ρ0 := ρ) (H0 := H) e.d.body (sok_of (e := e) (lam := false) Wf ih S hr (fun q => Bool.noConfusion q)) h5, body_run (of_decide_eq_true h3) (by rw [h2]; exact h4) ev st tb hA fin⟩
end DL
end

section
/-! Sd21: the law's def, the head's facts -/
namespace DL
open PySem PySem.Spec PyProof.Rows L2

/-! ### the own error's class, read off the heap -/
def argsNm : Arguments → Bool
  | ⟨[], [⟨a, none, _⟩, ⟨b, none, _⟩], none, [], [], none, []⟩ => (a == ("self" : Str)) && (b == ("name" : Str))
  | _ => false
theorem argsNm_ok {a : Arguments} (h : argsNm a = true) : ∃ p1 p2, a = bA p1 p2 := by
  unfold argsNm at h
  split at h
  · obtain ⟨h1, h2⟩ := ba2 h
    obtain rfl := eq_of_beq h1
    obtain rfl := eq_of_beq h2
    exact ⟨_, _, rfl⟩
  · cases h
def bodyNm : FuncBody → Bool
  | .stmts [.Expr (.Call (.Attribute (.Call (.Name s1 _) [] [] _) s2 _) [.Name s3 _] [] _) _, .Assign [.Attribute (.Name s4 _) s5 _] (.Name s6 _) _] =>
    (s1 == ("super" : Str)) && ((s2 == ("__init__" : Str)) && ((s3 == ("name" : Str)) && ((s4 == ("self" : Str)) && ((s5 == ("name" : Str)) && (s6 == ("name" : Str))))))
  | _ => false
theorem bodyNm_ok {b : FuncBody} (h : bodyNm b = true) : ∃ q1 q2 q3 q4 q5 q6 q7 q8 q9 q10, b = .stmts (bB q1 q2 q3 q4 q5 q6 q7 q8 q9 q10) := by
  unfold bodyNm at h
  split at h
  · obtain ⟨h1, h⟩ := ba2 h
    obtain ⟨h2, h⟩ := ba2 h
    obtain ⟨h3, h⟩ := ba2 h
    obtain ⟨h4, h⟩ := ba2 h
    obtain ⟨h5, h6⟩ := ba2 h
    obtain rfl := eq_of_beq h1
    obtain rfl := eq_of_beq h2
    obtain rfl := eq_of_beq h3
    obtain rfl := eq_of_beq h4
    obtain rfl := eq_of_beq h5
    obtain rfl := eq_of_beq h6
    exact ⟨_, _, _, _, _, _, _, _, _, _, rfl⟩
  · cases h
def badScB (sc : Scope) : Bool :=
  decide (sc.kind = .function) && (!sc.isCoroutine && (!sc.isGenerator && ((sc.names.all fun y => !decide (y.2 = .cell)) && (decide (sc.names.lookup ("self" : Str) = some .local) && (decide (sc.names.lookup ("name" : Str) = some .local) &&
    (decide (sc.names.lookup ("super" : Str) = some .globalImplicit) && decide (sc.names.lookup ("__class__" : Str) = some .free)))))))
theorem badScB_ok {sc : Scope} (h : badScB sc = true) : BadSc sc := by
  obtain ⟨h1, h⟩ := ba2 h
  obtain ⟨h2, h⟩ := ba2 h
  obtain ⟨h3, h⟩ := ba2 h
  obtain ⟨h4, h⟩ := ba2 h
  obtain ⟨h5, h⟩ := ba2 h
  obtain ⟨h6, h⟩ := ba2 h
  obtain ⟨h7, h8⟩ := ba2 h
  exact ⟨of_decide_eq_true h1, bn h2, bn h3, fun y hy => of_decide_eq_false (bn (List.all_eq_true.mp h4 y hy)), of_decide_eq_true h5, of_decide_eq_true h6, of_decide_eq_true h7, of_decide_eq_true h8⟩
def cellB (K : PySem.W.Frag) (C : Addr) : List (Str × Addr) → Bool
  | [(n, cc)] => (n == ("__class__" : Str)) && (match K.lookup cc with
    | some ⟨_, _, .cell (some v), _⟩ => decide (v = .ref C)
    | _ => false)
  | _ => false
theorem cellB_ok {K : PySem.W.Frag} {C : Addr} {l : List (Str × Addr)} (h : cellB K C l = true) : ∃ cc oc3 od3 sl3, l = [(("__class__" : Str), cc)] ∧ K.lookup cc = some ⟨oc3, od3, .cell (some (.ref C)), sl3⟩ := by
  unfold cellB at h
  split at h
  · obtain ⟨h1, h2⟩ := ba2 h
    obtain rfl := eq_of_beq h1
    split at h2
    · have e := of_decide_eq_true h2
      subst e
      exact ⟨_, _, _, _, rfl, by assumption⟩
    · cases h2
  · cases h
def codeB (K : PySem.W.Frag) (file : Str) : Value → Bool
  | .ref a => (match K.lookup a with
    | some ⟨_, _, .fields vs, _⟩ => (match (vs[2]? : Option Value) with
      | some (.str f _) => file == f
      | _ => false)
    | _ => false)
  | _ => false
theorem codeB_ok {K : PySem.W.Frag} {file : Str} {v : Value} (h : codeB K file v = true) : ∃ cda oc2 od2 vs sl2 f tf, v = .ref cda ∧ K.lookup cda = some ⟨oc2, od2, .fields vs, sl2⟩ ∧ vs[2]? = some (.str f tf) ∧ (file == f) = true := by
  unfold codeB at h
  split at h
  · split at h
    · split at h
      · exact ⟨_, _, _, _, _, _, _, rfl, by assumption, by assumption, h⟩
      · cases h
    · cases h
  · cases h
def initB (K : PySem.W.Frag) (file : Str) (C fI : Addr) : Bool := match K.lookup fI with
  | some ⟨_, _, .func fd, _⟩ => (fd.name == ("__init__" : Str)) && ((fd.qualname == ("BadArgument.__init__" : Str)) && (argsNm fd.params && (bodyNm fd.body && (badScB fd.scope && (decide (fd.globals = mainGlobals) && (decide (fd.builtins = builtinsNs) &&
      (cellB K C fd.closure && (decide (fd.defaults = .none) && (decide (fd.kwdefaults = .none) && (PySem.W.codeIn K fd.code "BadArgument.__init__" && codeB K file fd.code))))))))))
  | _ => false
def mroB (K : PySem.W.Frag) (C : Addr) : Bool := match PySem.W.clsIn K C with
  | some cd => (match cd.mro with
    | .ref c' :: l => decide (c' = C) && (decide (PySem.W.alongIn K "__init__" l = some (some (.builtin "ValueError.__init__"))) && (HandSPX.refsVE (.ref C :: l) && cd.hasDict))
    | _ => false)
  | none => false
def badB (file : Str) (K : PySem.W.Frag) : Bool :=
  PySem.W.excInitIn K (He.ga K "BadArgument") [.type "ValueError", .type "Exception", .type "BaseException", .type "object"] "ValueError.__new__" && (mroB K (He.ga K "BadArgument") &&
  (decide (PySem.W.findIn K (.ref (He.ga K "BadArgument")) "__setattr__" = some (some (.builtin "object.__setattr__"))) && (decide (PySem.W.findIn K (.ref (He.ga K "BadArgument")) "__getattribute__" = some (some (.builtin "BaseException.__getattribute__"))) &&
  (decide (PySem.W.findIn K (.ref (He.ga K "BadArgument")) "__getattr__" = some none) && (decide (PySem.W.findIn K (.ref (He.ga K "BadArgument")) "name" = some none) &&
  (decide (PySem.W.findIn K (.ref (He.ga K "BadArgument")) "__init__" = some (some (.ref (He.ma K (He.ga K "BadArgument") "__init__")))) && (decide (PySem.W.typeIn K (.ref (He.ma K (He.ga K "BadArgument") "__init__")) = some (.type "function")) &&
  (PySem.W.keepIn K (.ref (He.ga K "BadArgument")) && (decide (PySem.W.subIn K (.ref (He.ga K "BadArgument")) (.type "BaseException") = some true) && (decide (PySem.W.typeIn K (.ref (He.ga K "BadArgument")) = some (.type "type")) &&
  (PySem.W.hasDictIn K (He.ga K "BadArgument") && (decide (PySem.W.exmOne K (.ref (He.ga K "BadArgument")) (.ref (He.ga K "BadArgument")) = some true) && (decide (PySem.W.mroIn K (He.ga K "BadArgument") (.type "ValueError") = some true) &&
  (decide (PySem.W.mroIn K (He.ga K "BadArgument") (.ref (He.ga K "BadArgument")) = some true) && (decide (PySem.W.nsIn K cStatics "thirdparty.any" = some none) &&
  initB K file (He.ga K "BadArgument") (He.ma K (He.ga K "BadArgument") "__init__"))))))))))))))))
theorem badB_ok {P : Program} {K : PySem.W.Frag} {mg : Str → Option Value} (gC : mg "BadArgument" = some (.ref (He.ga K "BadArgument"))) (gS : mg "super" = none) (top : (P.main.scope.names.lookup ("super" : Str)).isSome = false) (h : badB P.main.file K = true) :
    BadTxt P K mg (He.ga K "BadArgument") (He.ma K (He.ga K "BadArgument") "__init__") := by
  unfold badB at h
  obtain ⟨h1, h⟩ := ba2 h
  obtain ⟨h2, h⟩ := ba2 h
  obtain ⟨h3, h⟩ := ba2 h
  obtain ⟨h4, h⟩ := ba2 h
  obtain ⟨h5, h⟩ := ba2 h
  obtain ⟨h6, h⟩ := ba2 h
  obtain ⟨h7, h⟩ := ba2 h
  obtain ⟨h8, h⟩ := ba2 h
  obtain ⟨h9, h⟩ := ba2 h
  obtain ⟨h10, h⟩ := ba2 h
  obtain ⟨h11, h⟩ := ba2 h
  obtain ⟨h12, h⟩ := ba2 h
  obtain ⟨h13, h⟩ := ba2 h
  obtain ⟨h14, h⟩ := ba2 h
  obtain ⟨h15, h⟩ := ba2 h
  obtain ⟨h16, h17⟩ := ba2 h
  refine ⟨gC, gS, h1, ?_, of_decide_eq_true h3, of_decide_eq_true h4, of_decide_eq_true h5, of_decide_eq_true h6, of_decide_eq_true h7, of_decide_eq_true h8, h9, of_decide_eq_true h10, of_decide_eq_true h11, h12, of_decide_eq_true h13, of_decide_eq_true h14, of_decide_eq_true h15, of_decide_eq_true h16, top, ?_⟩
  · unfold mroB at h2
    cases q : PySem.W.clsIn K (He.ga K "BadArgument") with
    | none => rw [q] at h2; cases h2
    | some cd =>
      rw [q] at h2
      have h2 : (match cd.mro with
        | .ref c' :: l => decide (c' = He.ga K "BadArgument") && (decide (PySem.W.alongIn K "__init__" l = some (some (.builtin "ValueError.__init__"))) && (HandSPX.refsVE (.ref (He.ga K "BadArgument") :: l) && cd.hasDict))
        | _ => false) = true := h2
      split at h2
      · rename_i c' l e
        obtain ⟨m1, h2⟩ := ba2 h2
        obtain ⟨m2, h2⟩ := ba2 h2
        obtain ⟨m3, m4⟩ := ba2 h2
        have e1 := of_decide_eq_true m1
        exact ⟨cd, l, rfl, by rw [e, e1], of_decide_eq_true m2, m3, m4⟩
      · cases h2
  · unfold initB at h17
    cases q : K.lookup (He.ma K (He.ga K "BadArgument") "__init__") with
    | none => rw [q] at h17; cases h17
    | some o =>
      obtain ⟨oc, od, dt, osl⟩ := o
      rw [q] at h17
      cases dt with
      | func fd =>
        obtain ⟨n1, n2, n3, n4, n5, n6, n7, n8, n9, n10, n11, n12, n13, n14, n15⟩ := fd
        obtain ⟨g1, h⟩ := ba2 h17
        obtain ⟨g2, h⟩ := ba2 h
        obtain ⟨g3, h⟩ := ba2 h
        obtain ⟨g4, h⟩ := ba2 h
        obtain ⟨g5, h⟩ := ba2 h
        obtain ⟨g6, h⟩ := ba2 h
        obtain ⟨g7, h⟩ := ba2 h
        obtain ⟨g8, h⟩ := ba2 h
        obtain ⟨g9, h⟩ := ba2 h
        obtain ⟨g10, h⟩ := ba2 h
        obtain ⟨g11, g12⟩ := ba2 h
        obtain ⟨p1, p2, e3⟩ := argsNm_ok g3
        obtain ⟨q1, q2, q3, q4, q5, q6, q7, q8, q9, q10, e4⟩ := bodyNm_ok g4
        obtain ⟨cc, oc3, od3, sl3, e5, e6⟩ := cellB_ok g8
        obtain ⟨cda, oc2, od2, vs, sl2, f, tf, e7, e8, e9, e10⟩ := codeB_ok g12
        have e1 : n1 = "__init__" := eq_of_beq g1
        have e2 : n2 = "BadArgument.__init__" := eq_of_beq g2
        have e11 : n6 = mainGlobals := of_decide_eq_true g6
        have e12 : n15 = builtinsNs := of_decide_eq_true g7
        have e13 : n8 = .none := of_decide_eq_true g9
        have e14 : n9 = .none := of_decide_eq_true g10
        have e3 : n3 = bA p1 p2 := e3
        have e4 : n4 = .stmts (bB q1 q2 q3 q4 q5 q6 q7 q8 q9 q10) := e4
        have e5 : n7 = [(("__class__" : Str), cc)] := e5
        have e7 : n13 = .ref cda := e7
        have g5 : badScB n5 = true := g5
        have g11 : PySem.W.codeIn K n13 "BadArgument.__init__" = true := g11
        clear g1 g2 g3 g4 g6 g7 g8 g9 g10 g12 h17 h
        subst e1
        subst e2
        subst e3
        subst e4
        subst e5
        subst e7
        subst e11
        subst e12
        subst e13
        subst e14
        exact ⟨oc, od, n10, n11, n12, cda, n14, cc, osl, n5, p1, p2, q1, q2, q3, q4, q5, q6, q7, q8, q9, q10, oc2, od2, vs, sl2, f, tf, oc3, od3, sl3, rfl, g11, badScB_ok g5, e8, e9, e10, e6⟩
      | _ => cases h17
end DL
end

section
/-! Sd22: the head's facts, the law -/
namespace DL
open PySem PySem.Spec PyProof.Rows L2

def refArgs : Arguments → Bool
  | ⟨[], [⟨a, none, _⟩], none, [], [], none, []⟩ => a == ("call" : Str)
  | _ => false
def refBd : List Stmt → Bool
  | [.Try [.Expr (.Call (.Name s1 _) [] [] _) _] [.ExceptHandler (some (.Name s2 _)) (some s3) [.Return (some (.Attribute (.Name s4 _) s5 _)) _] _] [] [] _, .Return (some (.Constant (.str s6) _ _)) _] =>
    (s1 == ("call" : Str)) && ((s2 == ("BadArgument" : Str)) && ((s3 == ("e" : Str)) && ((s4 == ("e" : Str)) && ((s5 == ("name" : Str)) && (s6 == ("" : Str))))))
  | _ => false
theorem refBd_ok {b : List Stmt} (h : refBd b = true) : ∃ p1 p2 p3 p4 p5 p6 p7 p8 p9 p10 p11 j, b = refB p1 p2 p3 p4 p5 p6 p7 p8 p9 p10 p11 p11 j := by
  unfold refBd at h
  split at h
  · obtain ⟨h1, h⟩ := ba2 h
    obtain ⟨h2, h⟩ := ba2 h
    obtain ⟨h3, h⟩ := ba2 h
    obtain ⟨h4, h⟩ := ba2 h
    obtain ⟨h5, h6⟩ := ba2 h
    obtain rfl := eq_of_beq h1
    obtain rfl := eq_of_beq h2
    obtain rfl := eq_of_beq h3
    obtain rfl := eq_of_beq h4
    obtain rfl := eq_of_beq h5
    obtain rfl := eq_of_beq h6
    exact ⟨_, _, _, _, _, _, _, _, _, _, _, _, rfl⟩
  · cases h
def refScB (sg : Scope) : Bool := scB ["call", "e"] ["call"] sg && (visB sg "call" && (decide (sg.names.lookup ("e" : Str) = some .local) && decide (sg.names.lookup ("BadArgument" : Str) = some .globalImplicit)))
theorem refScB_ok {sg : Scope} (h : refScB sg = true) : RefSc sg := by
  obtain ⟨h1, h⟩ := ba2 h
  obtain ⟨h2, h⟩ := ba2 h
  obtain ⟨h3, h4⟩ := ba2 h
  exact ⟨scB_ok h1, visB_ok h2, of_decide_eq_true h3, of_decide_eq_true h4⟩
/-- a law's text: its defs, the language's names that it uses, the constants, the law, _law_refused -/
structure Lw where
  tab : List (Nat × FnE)
  free : List Str
  glb : List (Str × D)
  law : FnE
  ref : FnE
def defOf (e : FnE) : He.DefD := ⟨(e.x, none), e.x, e.x, e.params, e.body, e.sc, [], []⟩
def glbFa : Str × D → He.Fa
  | (x, .int i) => .int x i
  | (x, .str z) => .str x z
  | (x, _) => .glo x
def glbB : Str × D → Bool
  | (_, .int _) => true
  | (_, .str z) => PyData.strOk z
  | _ => false
def Lw.fn (L : Lw) : List He.DefD := (L.tab.map fun q => defOf q.2) ++ [defOf L.law, defOf L.ref]
def Lw.fa (L : Lw) : List He.Fa := (L.tab.map fun q => He.Fa.glo q.2.x) ++ ([.glo L.law.x, .glo L.ref.x, .glo "BadArgument", .free "super"] ++ (L.free.map He.Fa.free ++ L.glb.map glbFa))
def Lw.ok (L : Lw) : Bool :=
  (L.tab.all fun q => q.2.ok (fnsOf L.tab) L.free L.glb false) && (L.law.ok (fnsOf L.tab) L.free L.glb true && (L.glb.all glbB && (decide (L.law.ps = [("script" : Str)]) && (decide (L.ref.x = ("_law_refused" : Str)) && (decide (L.ref.ps = [("call" : Str)]) && (refScB L.ref.sc && refBd L.ref.body))))))
structure Lw.Bnd (L : Lw) : Prop where
  tab : ∀ q ∈ L.tab, q.2.Bnd
  law : ∀ (kV doc pm : Value) (an : Option Addr) (cdv ct : Value) (us : List Value), us.length = L.law.ps.length → bindArgs (PySem.W.fnOf L.law.x L.law.x L.law.params L.law.body L.law.sc .none kV doc pm an cdv ct) ⟨us, []⟩ = pure (L.law.ps.zip us)
  ref : ∀ (kV doc pm : Value) (an : Option Addr) (cdv ct : Value) (us : List Value), us.length = L.ref.ps.length → bindArgs (PySem.W.fnOf L.ref.x L.ref.x L.ref.params L.ref.body L.ref.sc .none kV doc pm an cdv ct) ⟨us, []⟩ = pure (L.ref.ps.zip us)
/-! ### the head's Hook -/
abbrev lawTf (L : Lw) : He.Defn := (L.law.x, none)
structure SaysL (file : Str) (L : Lw) (h : Heap) (K : PySem.W.Frag) : Prop where
  d : He.SaysD L.fa L.fn K
  bad : badB file K = true
  hd : PySem.W.codeHdIn K (He.cT K (lawTf L)).1 (He.cT K (lawTf L)).2 = true
  out : K.lookup (He.cT K (lawTf L)).2 = none
  empty : h.get? (He.cT K (lawTf L)).2 = some { cls := .none, data := .fields #[] }
def kOf (n : Nat) (g : Addr → Option Obj) : PySem.W.Frag := He.frT g (He5.asA g n)
def tabB1 (g : Addr → Option Obj) (p : He.Defn) (K : PySem.W.Frag) : Bool := PySem.W.codeHdIn K (He.cT K p).1 (He.cT K p).2 && (match g (He.cT K p).2 with
  | some o => He.emptyTab o
  | none => false)
def obsL (n : Nat) (file : Str) (L : Lw) (g : Addr → Option Obj) : He.AlD × Bool := (He.obsD L.fa L.fn (kOf n g), badB file (kOf n g) && tabB1 g (lawTf L) (kOf n g))
theorem saysL_of {n : Nat} {file : Str} {L : Lw} {h : Heap} (e : obsL n file L h.get? = (He.valD L.fn, true)) : SaysL file L h (kOf n h.get?) := by
  have e1 : He.obsD L.fa L.fn (kOf n h.get?) = He.valD L.fn := congrArg (fun z : He.AlD × Bool => z.1) e
  have e2 : (badB file (kOf n h.get?) && tabB1 h.get? (lawTf L) (kOf n h.get?)) = true := congrArg (fun z : He.AlD × Bool => z.2) e
  obtain ⟨h1, h2⟩ := ba2 e2
  obtain ⟨h3, h4⟩ := ba2 h2
  cases q : h.get? (He.cT (kOf n h.get?) (lawTf L)).2 with
  | none => rw [q] at h4; cases h4
  | some o =>
    rw [q] at h4
    exact ⟨e1, h1, h3, He.frT_none q h4, by rw [q, He.emptyTab_eq h4]⟩
def hookL (n : Nat) (file : Str) (L : Lw) : PySem.W.Hook where
  α := He.AlD × Bool
  obs := fun s => obsL n file L s.heap.get?
  val := fun _ => (He.valD L.fn, true)
  says := fun _ h => ∃ K : PySem.W.Frag, K.In h ∧ SaysL file L h K
  of := fun _ _ e => ⟨_, He.frT_in, saysL_of e⟩
  keeps := fun _ _ _ ⟨K, hK, c⟩ k => ⟨K, PySem.W.Frag.In.keeps hK k, ⟨c.d, c.bad, c.hd, c.out, k _ _ c.empty⟩⟩
theorem obsL_eq {n : Nat} {file : Str} {L : Lw} {g : Addr → Option Obj} {s : Shared} (h : ∀ a, g a = s.heap.get? a) : obsL n file L g = (hookL n file L).obs s := by
  have e : g = s.heap.get? := funext h
  rw [e] <;> rfl
section
variable {P : Program} {w : World} {K : PySem.W.Frag} {mg : Str → Option Value} {h : Heap} {L : Lw}
theorem wd_of (X : K.In h) (Gm : h.Ns mainGlobals mg) (c : SaysL P.main.file L h K) (top : (P.main.scope.names.lookup ("super" : Str)).isSome = false) (hok : L.ok = true) (base : Heap) (T : List (Addr × Str)) :
    Wd ⟨P, w, K, mg, base, fun x => if x = "BadArgument" then some (He.ga K "BadArgument", "name") else none, T⟩ L.tab L.free L.glb where
  free := fun x hx => He.free_ok X Gm (c.d.facts (f := .free x) (List.mem_append_right _ (List.mem_append_right _ (List.mem_append_left _ (List.mem_map_of_mem hx)))))
  glb := fun q hq => by
    have hf := c.d.facts (f := glbFa q) (List.mem_append_right _ (List.mem_append_right _ (List.mem_append_right _ (List.mem_map_of_mem hq))))
    have hg : glbB q = true := by
      unfold Lw.ok at hok
      obtain ⟨_, h2⟩ := ba2 hok
      obtain ⟨_, h3⟩ := ba2 h2
      obtain ⟨h4, _⟩ := ba2 h3
      exact List.all_eq_true.mp h4 q hq
    obtain ⟨x, d⟩ := q
    cases d with
    | int i =>
      obtain ⟨t, e⟩ := He.int_ok X Gm hf
      exact ⟨_, .int i, e, ⟨t, rfl⟩, fun H => .int i⟩
    | str z =>
      obtain ⟨t, e⟩ := He.str_ok X Gm hf
      exact ⟨_, .str z, e, ⟨t, rfl⟩, fun H => .str z hg⟩
    | _ => cases hg
  bad := ⟨_, _, badB_ok (He.glo_ok X Gm (c.d.facts (f := .glo "BadArgument") (List.mem_append_right _ (List.mem_append_left _ (by simp))))) (He.free_ok X Gm (c.d.facts (f := .free "super") (List.mem_append_right _ (List.mem_append_left _ (by simp))))) top c.bad, by
    show (if ("BadArgument" : Str) = "BadArgument" then some (He.ga K "BadArgument", ("name" : Str)) else none) = _
    rw [if_pos rfl]⟩
  fns := fun q hq => by
    obtain ⟨fd, F⟩ := c.d.defs (d := defOf q.2) (List.mem_append_left _ (List.mem_map_of_mem hq))
    exact ⟨_, fd, _, F, He.glo_ok X Gm (c.d.facts (f := .glo q.2.x) (List.mem_append_left _ (List.mem_map_of_mem hq)))⟩
end
end DL
end

section
/-! Sd23: the law's def keeps its promise -/
namespace DL
open PySem PySem.Spec PyProof.Rows L2

def spL (K : PySem.W.Frag) (T : List (Addr × Str)) (n : Nat) : Sp := fun vs H Q _ =>
  ∃ (a : Addr) (ns : List Int), vs = [.ref a] ∧ ns.length ≤ n ∧ (∀ z ∈ ns, Builtin.Int.intBits z ≤ 1048576) ∧ SqL K H a (ns.map V.int) ∧ LamX.Tabs T H ∧ ∀ H', Q (.bl true) H'
section
variable {G : Glob} {W : WX} {Γ : Ctx} {d : Def} {ns : List Int} {S' : Store} {N : List Str} {a : Addr} {H : Hp} {Q : VK}
theorem run_ret {as : List Av} {S : Store} (h : callDef Γ d as S = some (.ok (.d (.bool true)), S')) : as.length = d.np ∧ ∃ S1, evSs Γ d.body (env0 d as) S = some (.ok (.ret (.d (.bool true))), S1) := by
  unfold callDef at h
  split at h
  · refine ⟨by assumption, ?_⟩
    cases q : evSs Γ d.body (env0 d as) S with
    | none => rw [q] at h; cases h
    | some p =>
      obtain ⟨r1, S1⟩ := p
      rw [q] at h
      cases r1 with
      | err cls y => cases h
      | ok f =>
        cases f with
        | next env' => cases h
        | ret v =>
          cases v with
          | d x => cases h; exact ⟨_, rfl⟩
          | c rr => cases h
        | brk env' => cases h
        | cont env' => cases h
  · cases h
theorem fin_true {ρ0 : List Addr} {H0 : Hp} {S1 : Store} (hq : ∀ H', Q (.bl true) H') : FinS G W ρ0 H0 H (.ok (.ret (.d (.bool true)))) S1 { nx := fun _ H' => Q .non H', rt := Q } := by
  intro x ρ' H' _ _ rel
  have z : Rp G.K H' x (.bool true) := rel
  cases z
  exact hq H'
theorem st_nil {H : Hp} : StR G [] [] H := ⟨rfl, List.nodup_nil, fun i xs q => by simp at q⟩
theorem frz_ev {b : Ss} {xs : List D} {r : List (Option Slot)} {S : Store} : evSs Γ (.cons (.frz 0) b) (some (.own xs) :: r) S = evSs Γ b (some (.dat (.list xs)) :: r) S := by
  rw [evSs_cons]
  simp only [evS]
  rfl
/-- the law's start: the script's list is one's own .. -/
theorem law_own {N : List Str} (hN : d.nn = N.length) (hnp : d.np = 1) (hle : 1 ≤ N.length) (hrun : callDef Γ d [.d (.list (ns.map .int))] [] = some (.ok (.d (.bool true)), S')) (hH : H a = some (.lst (ns.map V.int))) (tb : LamX.Tabs G.T H) (hq : ∀ H', Q (.bl true) H') :
    tS G W [] (fun b => if b = a then none else H b) (evSs Γ (.cons (.frz 0) d.body)) { nx := fun _ H' => Q .non H', rt := Q } (start N [.ref a]) H := by
  obtain ⟨_, S1, ev⟩ := run_ret hrun
  have e0 : env0 d [.d (.list (ns.map .int))] = some (.dat (.list (ns.map .int))) :: List.replicate (N.length - 1) none := by
    unfold env0
    rw [hN, hnp]
    rfl
  rw [e0] at ev
  refine ⟨[], some (.own (ns.map .int)) :: List.replicate (N.length - 1) none, [], ⟨⟨⟨?_, fun i s e => ?_, fun i j xs ys b e1 e2 _ _ => ?_⟩, st_nil, tb⟩, Ext.grow fun b u hb => ?_, fun i xs b e1 e2 => ?_⟩, _, S1, by rw [frz_ev]; exact ev, fin_true hq⟩
  · show (List.replicate (N.length - 1) none).length + 1 = (L2.start N [.ref a]).length
    unfold L2.start
    rw [List.length_append, List.length_replicate, List.length_replicate]
    show _ = 1 + (N.length - 1)
    omega
  · cases i with
    | zero =>
      cases e
      exact ⟨_, rfl, a, ns.map V.int, rfl, hH, RpAll.of_ints ns, by simp⟩
    | succ i =>
      have e : (List.replicate (N.length - 1) (none : Option Slot))[i]? = some (some s) := by simpa using e
      rw [List.getElem?_replicate] at e
      split at e <;> cases e
  · have z : ∀ (m : Nat) (zs : List D), (some (Slot.own (ns.map PyData.int)) :: List.replicate (N.length - 1) (none : Option Slot))[m]? = some (some (.own zs)) → m = 0 := fun m zs e => by
      cases m with
      | zero => rfl
      | succ m =>
        have e : (List.replicate (N.length - 1) (none : Option Slot))[m]? = some (some (.own zs)) := by simpa using e
        rw [List.getElem?_replicate] at e
        split at e <;> cases e
    rw [z i _ e1, z j _ e2]
  · by_cases hb2 : b = a
    · rw [if_pos hb2] at hb; cases hb
    · rw [if_neg hb2] at hb; exact hb
  · cases i with
    | zero =>
      have e2 : some (some (V.ref a)) = some (some (V.ref b)) := e2
      cases e2
      exact NoV.of (if_pos rfl)
    | succ i =>
      have e : (List.replicate (N.length - 1) (none : Option Slot))[i]? = some (some (.own xs)) := by simpa using e1
      rw [List.getElem?_replicate] at e
      split at e <;> cases e
/-- .. or stands for good -/
theorem law_fz {N : List Str} (hN : d.nn = N.length) (hnp : d.np = 1) (hle : 1 ≤ N.length) (hrun : callDef Γ d [.d (.list (ns.map .int))] [] = some (.ok (.d (.bool true)), S')) (hH : FzL G.K H a (ns.map V.int)) (tb : LamX.Tabs G.T H) (hq : ∀ H', Q (.bl true) H') :
    tS G W [] H (evSs Γ d.body) { nx := fun _ H' => Q .non H', rt := Q } (start N [.ref a]) H := by
  obtain ⟨hl, S1, ev⟩ := run_ret hrun
  exact ⟨[], env0 d [.d (.list (ns.map .int))], [], srb_start hl hN (by omega) (vs := [.ref a]) ⟨Rp.lst hH (RpAll.of_ints ns), trivial⟩ st_nil tb, _, S1, ev, fin_true hq⟩
end
theorem law_at {l : PySem.W.OpenLaw} {w : World} {K : PySem.W.Frag} {mg : Str → Option Value} {fa : Addr} {h : Heap} {n fuel kr : Nat} {L : Lw} (X : K.In h) (Gm : h.Ns mainGlobals mg) (c : SaysL l.prog.main.file L h K) (hfa : mg L.law.x = some (.ref fa))
    (top : (l.prog.main.scope.names.lookup ("super" : Str)).isSome = false) (hok : L.ok = true) (hbd : L.Bnd)
    (hrun : ∀ ns : List Int, ns.length ≤ n → (∀ z ∈ ns, Builtin.Int.intBits z ≤ 1048576) → ∃ S', callDef ⟨run (tblOf L.tab) fuel kr, fuel⟩ L.law.d [.d (.list (ns.map .int))] [] = some (.ok (.d (.bool true)), S')) :
    LamX.LawAtS l w K (L2.CX l.prog w) (3 * kr + 3) n "script" mg fa h := by
  obtain ⟨fd, F⟩ := c.d.defs (d := defOf L.law) (List.mem_append_right _ List.mem_cons_self)
  obtain ⟨fdR, FR⟩ := c.d.defs (d := defOf L.ref) (List.mem_append_right _ (List.mem_cons_of_mem _ List.mem_cons_self))
  have efa : fa = He.ga K L.law.x := by
    have z := hfa.symm.trans (He.glo_ok X Gm (c.d.facts (f := .glo L.law.x) (List.mem_append_right _ (List.mem_append_left _ (by simp)))))
    cases z
    rfl
  have hmR := He.glo_ok X Gm (c.d.facts (f := .glo L.ref.x) (List.mem_append_right _ (List.mem_append_left _ (by simp))))
  have hok2 := hok
  unfold Lw.ok at hok
  obtain ⟨k1, hok⟩ := ba2 hok
  obtain ⟨k2, hok⟩ := ba2 hok
  obtain ⟨k3, hok⟩ := ba2 hok
  obtain ⟨k4, hok⟩ := ba2 hok
  obtain ⟨k5, hok⟩ := ba2 hok
  obtain ⟨k6, hok⟩ := ba2 hok
  obtain ⟨k7, k8⟩ := ba2 hok
  have k4 := of_decide_eq_true k4
  have k5 := of_decide_eq_true k5
  have k6 := of_decide_eq_true k6
  obtain ⟨p1, p2, p3, p4, p5, p6, p7, p8, p9, p10, p11, j, eB⟩ := refBd_ok k8
  obtain ⟨l1, k2⟩ := ba2 k2
  obtain ⟨l2, k2⟩ := ba2 k2
  obtain ⟨l3, k2⟩ := ba2 k2
  obtain ⟨l4, l5⟩ := ba2 k2
  have S := scB_ok l1
  have l2 := of_decide_eq_true l2
  have l3 := of_decide_eq_true l3
  have l4 := of_decide_eq_true l4
  have hps1 : L.law.ps.length = 1 := by rw [k4]; rfl
  -- the law's def
  have hb : ∀ (s : Shared) (u : Value), BindsTo s fd ⟨[u], []⟩ [("script", u)] := fun s u => by
    have z := F.bindsA (ps := L.law.ps) (hbd.law) s [u] (by rw [hps1]; rfl)
    rw [k4] at z
    exact z
  have hbR : Binds K fdR [("call" : Str)] [] := by
    have z := FR.bindsN (ps := L.ref.ps) (hbd.ref)
    rw [k6] at z
    exact z
  obtain ⟨oc, od, dV, kV, doc, pm, an, cdv, ct, osl, rfl, lk, hcd, _, _⟩ := F.ex
  obtain ⟨cA, rfl⟩ := He.codeIn_ref hcd
  have eC : He.codeOf K (lawTf L) = cA := He.codeOf_eq (p := lawTf L) lk rfl
  refine ⟨_, [He.cT K (lawTf L)], spL K [((He.cT K (lawTf L)).2, (L.law.x ++ ".<locals>.") ++ "<lambda>")] n, fun p hp => ?_, fun p hp => ?_, fun p hp => ?_, hb, fun H a ns h1 h2 h3 h4 => ?_, fun base KX hg hT => ?_⟩
  · rw [List.mem_singleton.mp hp]; exact c.empty
  · rw [List.mem_singleton.mp hp]; exact c.out
  · rw [List.mem_singleton.mp hp]; exact PySem.W.codeHd_of_K X c.hd
  · refine ⟨a, ns, rfl, h1, h2, h4, fun q hq => ?_, fun _ => rfl⟩
    rw [List.mem_singleton.mp hq]
    exact LamX.TabS.nil (h3 _ List.mem_cons_self)
  · have TB := hT _ List.mem_cons_self
    generalize hTd : [((He.cT K (lawTf L)).2, (L.law.x ++ ".<locals>.") ++ "<lambda>")] = T
    have Wf := wd_of (P := l.prog) (w := w) X Gm c top hok2 base T
    have hcalls := calls_ok (fuel := fuel) Wf (fun q hq => List.all_eq_true.mp k1 q hq) hbd.tab kr
    rw [efa]
    rw [show [("script" : Str)] = L.law.ps from k4.symm]
    refine fn_of (k := 3 * kr + 2) lk hcd S (fun vs H Q E h => ?_) (fun A outer s H vs Q Ex hr hsp => ?_)
    · obtain ⟨a, ns, rfl, _⟩ := h
      exact hps1.symm
    · obtain ⟨a, ns, rfl, n1, n2, hS, tb, hq⟩ := hsp
      obtain ⟨S', hrn⟩ := hrun ns n1 n2
      have hlam : LamOk (cxOf (L2.CX l.prog w) l.prog w K mg base L.law.N L.law.x L.law.sc (He.ga K L.law.x) (.ref cA) A outer s H Ex) (fun x => if x = "BadArgument" then some (He.ga K "BadArgument", "name") else none) T (3 * kr) := by
        obtain ⟨C, fI, B, hex⟩ := Wf.bad
        have FR' : FunD K "_law_refused" "_law_refused" L.ref.params (refB p1 p2 p3 p4 p5 p6 p7 p8 p9 p10 p11 p11 j) L.ref.sc [] [] (He.ga K L.ref.x) fdR := by
          rw [← eB, ← k5]
          exact FR
        refine ⟨C, fI, He.ga K L.ref.x, cA, (He.cT K (lawTf L)).2, fdR, L.ref.params, L.ref.sc, [], j, p1, p2, p3, p4, p5, p6, p7, p8, p9, p10, p11, p11, B, hex, refScB_ok k7, FR', hbR, ?_, ?_, rfl, ?_, fun q hq _ => ?_, hr⟩
        · rw [← k5]; exact hmR
        · rw [← eC]; exact TB
        · rw [← hTd]; exact List.mem_cons_self
        · rw [← hTd] at hq; rw [List.mem_singleton.mp hq]; rfl
      have SO := sok_of (e := L.law) (lam := true) (s := s) (H := H) (Ex := Ex) Wf hcalls S hr (fun _ => hlam)
      have hnp : L.law.d.np = 1 := by rw [l2]; exact hps1
      rcases hS with (hS | ⟨o, hS⟩) | hS
      · exact ⟨_, ss_frz (chkSs_ok (ρ0 := []) (H0 := fun b => if b = a then none else H b) L.law.d.body SO l5), law_own l3 hnp (by rw [← hps1]; exact l4) hrn hS tb hq⟩
      · exact ⟨_, chkSs_ok (ρ0 := []) (H0 := H) L.law.d.body SO l5, law_fz l3 hnp (by rw [← hps1]; exact l4) hrn (.inl ⟨o, hS⟩) tb hq⟩
      · exact ⟨_, chkSs_ok (ρ0 := []) (H0 := H) L.law.d.body SO l5, law_fz l3 hnp (by rw [← hps1]; exact l4) hrn (.inr hS) tb hq⟩
end DL
end

section
namespace DL.P
open PySem DL
abbrev f_need : Nat := 0
abbrev f_is_number : Nat := 1
abbrev f_is_rising : Nat := 2
abbrev f_are_letters : Nat := 3
abbrev f_is_station_row : Nat := 4
abbrev f_is_net : Nat := 5
abbrev f_check_net : Nat := 6
abbrev f_check_link : Nat := 26
abbrev f_all_links : Nat := 12
abbrev f_covers_by : Nat := 44
abbrev f_forbidden_labels : Nat := 55
abbrev f_forbidden : Nat := 56
abbrev f_do_clash : Nat := 57
abbrev f_clash : Nat := 58
abbrev f_clash_table : Nat := 59
abbrev f_placed : Nat := 60
abbrev f_best_placing : Nat := 61
abbrev f_first_placing : Nat := 62
abbrev f_least_slots : Nat := 63
abbrev f_is_valid_placing : Nat := 64
abbrev f_is_placing : Nat := 65
abbrev f_placing_rule : Nat := 66
abbrev f__law_taken : Nat := 14
abbrev f__law_pick : Nat := 15
abbrev f__law_alike : Nat := 17
abbrev f__law_net : Nat := 18
abbrev f__law_links : Nat := 19
abbrev f__law_hears : Nat := 33
abbrev f__law_clear : Nat := 48
abbrev f__law_slot : Nat := 49
abbrev f__law_by : Nat := 50
abbrev f__law_covers : Nat := 51
abbrev f__law_forbid : Nat := 67
abbrev f__law_clashes : Nat := 68
abbrev f__law_table : Nat := 69
abbrev f__law_place : Nat := 70
abbrev f__law_least : Nat := 71
abbrev f__law_fits : Nat := 72
abbrev f_law_k03 : Nat := 73
def d_need : Def := ⟨2, 2, (.cons (.ifs (.not (.e (.var 0))) (.cons (.rais "BadArgument" (.var 1)) .nil) .nil) .nil)⟩
def d_is_number : Def := ⟨3, 3, (.cons (.rt (.and (.op1 (.isI .int) (.var 0)) (.and (.not (.op1 (.isI .bool) (.var 0))) (.chain .le .le (.var 1) (.var 0) (.var 2))))) .nil)⟩
def d_is_rising : Def := ⟨1, 3, (.cons (.rt (.op1 .all (.comp [1, 2] (.op2 .lt (.var 1) (.var 2)) (.t2 (.nm 1) (.nm 2)) (.zip (.var 0) (.slL (.var 0) (.cst (.int 1)))) .yes))) .nil)⟩
def d_are_letters : Def := ⟨1, 2, (.cons (.rt (.and (.op1 (.isI .str) (.var 0)) (.op1 .all (.comp [1] (.op2 .inn (.var 1) (.glb "LETTERS" (.str "abcdefg"))) (.nm 1) (.seq (.var 0)) .yes)))) .nil)⟩
def d_is_station_row : Def := ⟨2, 3, (.cons (.rt (.and (.op1 (.isI .tuple) (.var 0)) (.and (.op1 .all (.comp [2] (.call f_is_number (.cons (.var 2) (.cons (.cst (.int 0)) (.cons (.op2 .sub (.var 1) (.cst (.int 1))) .nil)))) (.nm 2) (.seq (.var 0)) .yes)) (.call f_is_rising (.cons (.var 0) .nil))))) .nil)⟩
def d_is_net : Def := ⟨1, 5, (.cons (.ifs (.not (.and (.e (.op1 (.isI .tuple) (.var 0))) (.e (.op2 .eq (.op1 .len (.var 0)) (.cst (.int 2)))))) (.cons (.rt (.cst (.bool false))) .nil) .nil) (.cons (.unp (.t2 (.nm 1) (.nm 2)) (.var 0)) (.cons (.ifs (.or (.not (.e (.call f_are_letters (.cons (.var 1) .nil)))) (.not (.e (.chain .le .le (.cst (.int 1)) (.op1 .len (.var 1)) (.glb "MOST_STATIONS" (.int 7)))))) (.cons (.rt (.cst (.bool false))) .nil) .nil) (.cons (.ifs (.not (.and (.e (.op1 (.isI .tuple) (.var 2))) (.e (.op2 .eq (.op1 .len (.var 2)) (.op1 .len (.var 1)))))) (.cons (.rt (.cst (.bool false))) .nil) .nil) (.cons (.rt (.op1 .all (.comp [3, 4] (.and (.call f_is_station_row (.cons (.var 4) (.cons (.op1 .len (.var 1)) .nil))) (.op2 .nin (.var 3) (.var 4))) (.t2 (.nm 3) (.nm 4)) (.enum (.var 2)) .yes))) .nil)))))⟩
def d_check_net : Def := ⟨1, 1, (.cons (.exp (.call f_need (.cons (.call f_is_net (.cons (.var 0) .nil)) (.cons (.cst (.str "net")) .nil)))) .nil)⟩
def d_check_link : Def := ⟨3, 5, (.cons (.set 3 (.e (.and (.op1 (.isI .tuple) (.var 1)) (.and (.op2 .eq (.op1 .len (.var 1)) (.cst (.int 2))) (.op1 .all (.comp [4] (.call f_is_number (.cons (.var 4) (.cons (.cst (.int 0)) (.cons (.op2 .sub (.op1 .len (.op2 .idx (.var 0) (.cst (.int 0)))) (.cst (.int 1))) .nil)))) (.nm 4) (.seq (.var 1)) .yes)))))) (.cons (.exp (.call f_need (.cons (.and (.var 3) (.op2 .inn (.op2 .idx (.var 1) (.cst (.int 0))) (.op2 .idx (.op2 .idx (.var 0) (.cst (.int 1))) (.op2 .idx (.var 1) (.cst (.int 1)))))) (.cons (.var 2) .nil)))) .nil))⟩
def d_all_links : Def := ⟨1, 5, (.cons (.set 1 (.own (.lst .nil))) (.cons (.fr (.t2 (.nm 2) (.nm 3)) (.enum (.op2 .idx (.var 0) (.cst (.int 1)))) (.cons (.ext 1 (.comp [4] (.tup (.cons (.var 4) (.cons (.var 2) .nil))) (.nm 4) (.seq (.var 3)) .yes)) .nil)) (.cons (.rt (.op1 .tuple (.op1 .sorted (.ro 1)))) .nil)))⟩
def d_covers_by : Def := ⟨2, 8, (.cons (.set 2 (.own (.lst .nil))) (.cons (.fr (.t2 (.nm 3) (.nm 4)) (.seq (.call f_all_links (.cons (.var 0) .nil))) (.cons (.set 5 (.e (.op1 .sorted (.op2 .add (.op2 .idx (.op2 .idx (.var 0) (.cst (.int 1))) (.var 4)) (.tup (.cons (.var 4) .nil)))))) (.cons (.set 6 (.own (.comp [7] (.var 7) (.nm 7) (.seq (.var 5)) (.and (.e (.op2 .ne (.var 7) (.var 3))) (.e (.op2 .eq (.op2 .idx (.var 1) (.var 7)) (.op2 .idx (.var 1) (.var 3)))))))) (.cons (.frz 6) (.cons (.ifs (.e (.var 6)) (.cons (.app 2 (.tup (.cons (.var 3) (.cons (.var 4) (.cons (.op2 .idx (.var 6) (.cst (.int 0))) .nil))))) .nil) .nil) .nil))))) (.cons (.rt (.op1 .tuple (.ro 2))) .nil)))⟩
def d_forbidden_labels : Def := ⟨2, 6, (.cons (.unp (.t2 (.nm 3) (.nm 4)) (.var 1)) (.cons (.set 2 (.e (.op2 .add (.comp [5] (.var 5) (.nm 5) (.seq (.op2 .idx (.op2 .idx (.var 0) (.cst (.int 1))) (.var 4))) (.e (.op2 .ne (.var 5) (.var 3)))) (.lst (.cons (.var 4) .nil))))) (.cons (.rt (.op2 .join (.cst (.str "")) (.op1 .sset (.comp [5] (.op2 .idx (.op2 .idx (.var 0) (.cst (.int 0))) (.var 5)) (.nm 5) (.seq (.var 2)) .yes)))) .nil)))⟩
def d_forbidden : Def := ⟨2, 2, (.cons (.exp (.call f_check_net (.cons (.var 0) .nil))) (.cons (.exp (.call f_check_link (.cons (.var 0) (.cons (.var 1) (.cons (.cst (.str "link")) .nil))))) (.cons (.rt (.call f_forbidden_labels (.cons (.var 0) (.cons (.var 1) .nil)))) .nil)))⟩
def d_do_clash : Def := ⟨3, 3, (.cons (.rt (.or (.op2 .inn (.op2 .idx (.op2 .idx (.var 0) (.cst (.int 0))) (.op2 .idx (.var 1) (.cst (.int 0)))) (.call f_forbidden_labels (.cons (.var 0) (.cons (.var 2) .nil)))) (.op2 .inn (.op2 .idx (.op2 .idx (.var 0) (.cst (.int 0))) (.op2 .idx (.var 2) (.cst (.int 0)))) (.call f_forbidden_labels (.cons (.var 0) (.cons (.var 1) .nil)))))) .nil)⟩
def d_clash : Def := ⟨3, 3, (.cons (.exp (.call f_check_net (.cons (.var 0) .nil))) (.cons (.exp (.call f_check_link (.cons (.var 0) (.cons (.var 1) (.cons (.cst (.str "one")) .nil))))) (.cons (.exp (.call f_check_link (.cons (.var 0) (.cons (.var 2) (.cons (.cst (.str "other")) .nil))))) (.cons (.rt (.call f_do_clash (.cons (.var 0) (.cons (.var 1) (.cons (.var 2) .nil))))) .nil))))⟩
def d_clash_table : Def := ⟨1, 5, (.cons (.set 1 (.e (.call f_all_links (.cons (.var 0) .nil)))) (.cons (.rt (.comp [2] (.comp [3, 4] (.var 3) (.t2 (.nm 3) (.nm 4)) (.enum (.var 1)) (.e (.call f_do_clash (.cons (.var 0) (.cons (.var 2) (.cons (.var 4) .nil)))))) (.nm 2) (.seq (.var 1)) .yes)) .nil))⟩
def d_placed : Def := ⟨2, 8, (.cons (.par 2 3 (.own (.lst .nil)) (.own (.lst (.cons (.cst (.int 0)) .nil)))) (.cons (.wh (.e (.op2 .lt (.op1 .len (.ro 2)) (.op1 .len (.var 0)))) (.cons (.par 5 6 (.e (.op1 .len (.ro 2))) (.e (.op2 .idx (.ro 3) (.op1 .neg (.cst (.int 1)))))) (.cons (.set 4 (.e (.op2 .min2 (.var 1) (.ite (.e (.ro 2)) (.op2 .add (.op1 .max (.ro 2)) (.cst (.int 2))) (.cst (.int 1)))))) (.cons (.wh (.and (.e (.op2 .lt (.var 6) (.var 4))) (.e (.op1 .any (.comp [7] (.op2 .eq (.op2 .idx (.ro 2) (.var 7)) (.var 6)) (.nm 7) (.seq (.op2 .idx (.var 0) (.var 5))) (.e (.op2 .lt (.var 7) (.var 5))))))) (.cons (.aug 6 (.cst (.int 1))) .nil)) (.cons (.ifs (.e (.op2 .lt (.var 6) (.var 4))) (.cons (.six 3 (.op1 .neg (.cst (.int 1))) (.op2 .add (.var 6) (.cst (.int 1)))) (.cons (.app 2 (.var 6)) (.cons (.app 3 (.cst (.int 0))) .nil))) (.cons (.pop 3) (.cons (.ifs (.not (.e (.ro 3))) (.cons (.rt (.cst .none)) .nil) .nil) (.cons (.pop 2) .nil)))) .nil))))) (.cons (.rt (.op1 .tuple (.ro 2))) .nil)))⟩
def d_best_placing : Def := ⟨1, 4, (.cons (.ifs (.e (.call f_covers_by (.cons (.var 0) (.cons (.op2 .idx (.var 0) (.cst (.int 0))) .nil)))) (.cons (.rt (.cst .none)) .nil) .nil) (.cons (.par 2 3 (.e (.call f_clash_table (.cons (.var 0) .nil))) (.e (.cst (.int 0)))) (.cons (.set 1 (.e (.call f_placed (.cons (.var 2) (.cons (.var 3) .nil))))) (.cons (.wh (.e (.op1 .isNone (.var 1))) (.cons (.aug 3 (.cst (.int 1))) (.cons (.set 1 (.e (.call f_placed (.cons (.var 2) (.cons (.var 3) .nil))))) .nil))) (.cons (.rt (.var 1)) .nil)))))⟩
def d_first_placing : Def := ⟨1, 1, (.cons (.exp (.call f_check_net (.cons (.var 0) .nil))) (.cons (.rt (.call f_best_placing (.cons (.var 0) .nil))) .nil))⟩
def d_least_slots : Def := ⟨1, 2, (.cons (.exp (.call f_check_net (.cons (.var 0) .nil))) (.cons (.set 1 (.e (.call f_best_placing (.cons (.var 0) .nil)))) (.cons (.rt (.ite (.e (.op1 .isNone (.var 1))) (.cst .none) (.op2 .add (.op2 .maxD (.var 1) (.op1 .neg (.cst (.int 1)))) (.cst (.int 1))))) .nil)))⟩
def d_is_valid_placing : Def := ⟨2, 7, (.cons (.set 2 (.e (.call f_all_links (.cons (.var 0) .nil)))) (.cons (.ifs (.not (.and (.e (.op1 (.isI .tuple) (.var 1))) (.e (.op2 .eq (.op1 .len (.var 1)) (.op1 .len (.var 2)))))) (.cons (.rt (.cst (.bool false))) .nil) .nil) (.cons (.ifs (.not (.e (.op1 .all (.comp [6] (.call f_is_number (.cons (.var 6) (.cons (.cst (.int 0)) (.cons (.op2 .sub (.glb "MOST_SLOTS" (.int 12)) (.cst (.int 1))) .nil)))) (.nm 6) (.seq (.var 1)) .yes)))) (.cons (.rt (.cst (.bool false))) .nil) .nil) (.cons (.fr (.t2 (.nm 3) (.nm 4)) (.enum (.var 2)) (.cons (.fr (.nm 5) (.rng1 (.op2 .add (.var 3) (.cst (.int 1)))) (.cons (.ifs (.and (.e (.op2 .eq (.op2 .idx (.var 1) (.var 3)) (.op2 .idx (.var 1) (.var 5)))) (.e (.call f_do_clash (.cons (.var 0) (.cons (.var 4) (.cons (.op2 .idx (.var 2) (.var 5)) .nil)))))) (.cons (.rt (.cst (.bool false))) .nil) .nil) .nil)) .nil)) (.cons (.rt (.cst (.bool true))) .nil)))))⟩
def d_is_placing : Def := ⟨2, 2, (.cons (.exp (.call f_check_net (.cons (.var 0) .nil))) (.cons (.rt (.call f_is_valid_placing (.cons (.var 0) (.cons (.var 1) .nil)))) .nil))⟩
def d_placing_rule : Def := ⟨2, 7, (.cons (.exp (.call f_check_net (.cons (.var 0) .nil))) (.cons (.exp (.call f_need (.cons (.call f_is_valid_placing (.cons (.var 0) (.cons (.var 1) .nil))) (.cons (.cst (.str "placing")) .nil)))) (.cons (.set 2 (.own (.lst .nil))) (.cons (.fr (.nm 3) (.rng1 (.op2 .add (.op2 .maxD (.var 1) (.op1 .neg (.cst (.int 1)))) (.cst (.int 1)))) (.cons (.set 4 (.own (.comp [5, 6] (.op2 .idx (.op2 .idx (.var 0) (.cst (.int 0))) (.op2 .idx (.var 5) (.cst (.int 0)))) (.t2 (.nm 5) (.nm 6)) (.zip (.call f_all_links (.cons (.var 0) .nil)) (.var 1)) (.e (.op2 .eq (.var 6) (.var 3)))))) (.cons (.frz 4) (.cons (.app 2 (.op2 .join (.cst (.str "")) (.op1 .sset (.var 4)))) .nil)))) (.cons (.rt (.op1 .tuple (.ro 2))) .nil)))))⟩
def d__law_taken : Def := ⟨2, 4, (.cons (.ifs (.e (.op2 .gt (.cidx 0 (.cst (.int 3))) (.cst (.int 0)))) (.cons (.set 3 (.e (.op2 .mod (.op1 .int (.cidx 0 (.cst (.int 3)))) (.var 1)))) (.cons (.cset 0 (.cst (.int 3)) (.op2 .fdiv (.cidx 0 (.cst (.int 3))) (.var 1))) (.cons (.rt (.var 3)) .nil))) .nil) (.cons (.cset 0 (.cst (.int 1)) (.op2 .add (.cidx 0 (.cst (.int 1))) (.cst (.int 1)))) (.cons (.ifs (.e (.op2 .gt (.cidx 0 (.cst (.int 1))) (.op1 .len (.cidx 0 (.cst (.int 0)))))) (.cons (.cset 0 (.cst (.int 2)) (.op2 .mod (.op1 .int (.op2 .add (.op2 .mul (.cidx 0 (.cst (.int 2))) (.cst (.int 48271))) (.cst (.int 11)))) (.cst (.int 2147483647)))) (.cons (.rt (.op2 .mod (.op1 .int (.op2 .fdiv (.cidx 0 (.cst (.int 2))) (.cst (.int 7)))) (.var 1))) .nil)) .nil) (.cons (.set 2 (.e (.op2 .idx (.cidx 0 (.cst (.int 0))) (.op2 .sub (.cidx 0 (.cst (.int 1))) (.cst (.int 1)))))) (.cons (.cset 0 (.cst (.int 2)) (.op2 .mod (.op1 .int (.op2 .add (.op2 .add (.op2 .mul (.cidx 0 (.cst (.int 2))) (.cst (.int 48271))) (.op1 .int (.var 2))) (.cst (.int 11)))) (.cst (.int 2147483647)))) (.cons (.ifs (.e (.op2 .ge (.var 2) (.op2 .pow (.cst (.int 10)) (.cst (.int 18))))) (.cons (.cset 0 (.cst (.int 3)) (.op2 .fdiv (.op1 .int (.op2 .mod (.op1 .int (.var 2)) (.op2 .pow (.cst (.int 10)) (.cst (.int 90))))) (.var 1))) .nil) .nil) (.cons (.rt (.op2 .mod (.op1 .int (.var 2)) (.var 1))) .nil)))))))⟩
def d__law_pick : Def := ⟨2, 2, (.cons (.rt (.op2 .idx (.var 1) (.call f__law_taken (.cel 0 (.cons (.op1 .len (.var 1)) .nil))))) .nil)⟩
def d__law_alike : Def := ⟨2, 3, (.cons (.ifs (.e (.op1 (.isI .tuple) (.var 1))) (.cons (.ifs (.or (.not (.e (.op1 (.isI .tuple) (.var 0)))) (.e (.op2 .ne (.op1 .len (.var 0)) (.op1 .len (.var 1))))) (.cons (.rt (.cst (.bool false))) .nil) .nil) (.cons (.rt (.op2 .eq (.comp [2] (.var 2) (.nm 2) (.rng1 (.op1 .len (.var 1))) (.not (.e (.call f__law_alike (.cons (.op2 .idx (.var 0) (.var 2)) (.cons (.op2 .idx (.var 1) (.var 2)) .nil)))))) (.lst .nil))) .nil)) .nil) (.cons (.ifs (.or (.e (.op1 .isNone (.var 1))) (.e (.op1 (.isI .str) (.var 1)))) (.cons (.rt (.and (.op2 .eq (.var 0) (.var 1)) (.op2 .eq (.op1 (.isI .str) (.var 0)) (.op1 (.isI .str) (.var 1))))) .nil) .nil) (.cons (.rt (.and (.op1 (.isI .int) (.var 0)) (.and (.op2 .eq (.op1 (.isI .bool) (.var 0)) (.op1 (.isI .bool) (.var 1))) (.op2 .eq (.var 0) (.var 1))))) .nil)))⟩
def d__law_net : Def := ⟨2, 11, (.cons (.set 2 (.e (.op2 .add (.cst (.int 1)) (.call f__law_taken (.cel 0 (.cons (.var 1) .nil)))))) (.cons (.par 5 6 (.e (.call f__law_pick (.cel 0 (.cons (.lst (.cons (.cst (.str "ab")) (.cons (.cst (.str "abc")) (.cons (.cst (.str "abcdefg")) (.cons (.cst (.str "gfedcba")) (.cons (.cst (.str "a")) .nil)))))) .nil)))) (.own (.lst .nil))) (.cons (.set 3 (.e (.op2 .join (.cst (.str "")) (.comp [4] (.call f__law_pick (.cel 0 (.cons (.var 5) .nil))) (.nm 4) (.rng1 (.var 2)) .yes)))) (.cons (.ifs (.e (.op2 .eq (.call f__law_taken (.cel 0 (.cons (.cst (.int 3)) .nil))) (.cst (.int 0)))) (.cons (.set 3 (.e (.slU (.cst (.str "cgbeafd")) (.var 2)))) .nil) .nil) (.cons (.fr (.nm 4) (.rng1 (.var 2)) (.cons (.par 8 9 (.e (.call f__law_taken (.cel 0 (.cons (.cst (.int 128)) .nil)))) (.e (.ite (.e (.op2 .eq (.call f__law_taken (.cel 0 (.cons (.cst (.int 2)) .nil))) (.cst (.int 0)))) (.call f__law_taken (.cel 0 (.cons (.cst (.int 128)) .nil))) (.cst (.int 127))))) (.cons (.set 7 (.own (.comp [10] (.var 10) (.nm 10) (.rng1 (.var 2)) (.e (.op2 .eq (.op2 .mod (.op1 .int (.op2 .fdiv (.var 8) (.op2 .idx (.tup (.cons (.cst (.int 1)) (.cons (.cst (.int 2)) (.cons (.cst (.int 4)) (.cons (.cst (.int 8)) (.cons (.cst (.int 16)) (.cons (.cst (.int 32)) (.cons (.cst (.int 64)) .nil)))))))) (.var 10)))) (.cst (.int 2))) (.cst (.int 1))))))) (.cons (.frz 7) (.cons (.app 6 (.op1 .tuple (.comp [10] (.var 10) (.nm 10) (.seq (.var 7)) (.and (.e (.op2 .ne (.var 10) (.var 4))) (.e (.op2 .eq (.op2 .mod (.op1 .int (.op2 .fdiv (.var 9) (.op2 .idx (.tup (.cons (.cst (.int 1)) (.cons (.cst (.int 2)) (.cons (.cst (.int 4)) (.cons (.cst (.int 8)) (.cons (.cst (.int 16)) (.cons (.cst (.int 32)) (.cons (.cst (.int 64)) .nil)))))))) (.var 10)))) (.cst (.int 2))) (.cst (.int 1)))))))) .nil))))) (.cons (.rt (.tup (.cons (.var 3) (.cons (.op1 .tuple (.ro 6)) .nil)))) .nil))))))⟩
def d__law_links : Def := ⟨1, 4, (.cons (.set 1 (.e (.lst .nil))) (.cons (.fr (.nm 2) (.rng1 (.op1 .len (.op2 .idx (.var 0) (.cst (.int 0))))) (.cons (.set 1 (.e (.op2 .add (.var 1) (.comp [3] (.tup (.cons (.var 3) (.cons (.var 2) .nil))) (.nm 3) (.seq (.op2 .idx (.op2 .idx (.var 0) (.cst (.int 1))) (.var 2))) .yes)))) .nil)) (.cons (.rt (.op1 .sorted (.var 1))) .nil)))⟩
def d__law_hears : Def := ⟨3, 5, (.cons (.ifs (.e (.op2 .inn (.var 1) (.var 2))) (.cons (.rt (.op1 .neg (.cst (.int 3)))) .nil) .nil) (.cons (.set 3 (.own (.comp [4] (.var 4) (.nm 4) (.seq (.op2 .idx (.op2 .idx (.var 0) (.cst (.int 1))) (.var 1))) (.e (.op2 .inn (.var 4) (.var 2)))))) (.cons (.frz 3) (.cons (.rt (.ite (.e (.op2 .eq (.var 3) (.lst .nil))) (.op1 .neg (.cst (.int 1))) (.ite (.e (.op2 .eq (.op1 .len (.var 3)) (.cst (.int 1)))) (.op2 .idx (.var 3) (.cst (.int 0))) (.op1 .neg (.cst (.int 2)))))) .nil))))⟩
def d__law_clear : Def := ⟨2, 4, (.cons (.rt (.comp [2, 3] (.tup (.cons (.var 2) (.cons (.var 3) .nil))) (.t2 (.nm 2) (.nm 3)) (.seq (.call f__law_links (.cons (.var 0) .nil))) (.e (.op2 .eq (.call f__law_hears (.cons (.var 0) (.cons (.var 3) (.cons (.var 1) .nil)))) (.var 2))))) .nil)⟩
def d__law_slot : Def := ⟨1, 3, (.cons (.set 1 (.e (.call f__law_taken (.cel 0 (.cons (.cst (.int 128)) .nil))))) (.cons (.ifs (.e (.op2 .eq (.call f__law_taken (.cel 0 (.cons (.cst (.int 2)) .nil))) (.cst (.int 0)))) (.cons (.rt (.call f__law_pick (.cel 0 (.cons (.cst (.str "abcdefg")) .nil)))) .nil) .nil) (.cons (.rt (.op2 .join (.cst (.str "")) (.comp [2] (.op2 .idx (.cst (.str "abcdefg")) (.var 2)) (.nm 2) (.rng1 (.cst (.int 7))) (.e (.op2 .eq (.op2 .mod (.op1 .int (.op2 .fdiv (.var 1) (.op2 .idx (.tup (.cons (.cst (.int 1)) (.cons (.cst (.int 2)) (.cons (.cst (.int 4)) (.cons (.cst (.int 8)) (.cons (.cst (.int 16)) (.cons (.cst (.int 32)) (.cons (.cst (.int 64)) .nil)))))))) (.var 2)))) (.cst (.int 2))) (.cst (.int 1))))))) .nil)))⟩
def d__law_by : Def := ⟨2, 3, (.cons (.rt (.op1 .tuple (.comp [2] (.var 2) (.nm 2) (.rng1 (.op1 .len (.op2 .idx (.var 0) (.cst (.int 0))))) (.e (.op2 .inn (.op2 .idx (.op2 .idx (.var 0) (.cst (.int 0))) (.var 2)) (.var 1)))))) .nil)⟩
def d__law_covers : Def := ⟨2, 7, (.cons (.set 2 (.own (.lst .nil))) (.cons (.fr (.t2 (.nm 3) (.nm 4)) (.seq (.call f__law_links (.cons (.var 0) .nil))) (.cons (.set 5 (.own (.comp [6] (.var 6) (.nm 6) (.seq (.op1 .sorted (.op2 .add (.op2 .idx (.op2 .idx (.var 0) (.cst (.int 1))) (.var 4)) (.tup (.cons (.var 4) .nil))))) (.and (.e (.op2 .ne (.var 6) (.var 3))) (.e (.op2 .eq (.op2 .idx (.var 1) (.var 6)) (.op2 .idx (.var 1) (.var 3)))))))) (.cons (.frz 5) (.cons (.ifs (.e (.op2 .ne (.var 5) (.lst .nil))) (.cons (.app 2 (.tup (.cons (.var 3) (.cons (.var 4) (.cons (.op2 .idx (.var 5) (.cst (.int 0))) .nil))))) .nil) .nil) .nil)))) (.cons (.frz 2) (.cons (.rt (.var 2)) .nil))))⟩
def d__law_forbid : Def := ⟨2, 5, (.cons (.set 2 (.e (.op2 .add (.comp [3] (.var 3) (.nm 3) (.seq (.op2 .idx (.op2 .idx (.var 0) (.cst (.int 1))) (.op2 .idx (.var 1) (.cst (.int 1))))) (.e (.op2 .ne (.var 3) (.op2 .idx (.var 1) (.cst (.int 0)))))) (.lst (.cons (.op2 .idx (.var 1) (.cst (.int 1))) .nil))))) (.cons (.rt (.comp [3] (.var 3) (.nm 3) (.seq (.cst (.str "abcdefg"))) (.e (.op2 .inn (.var 3) (.comp [4] (.op2 .idx (.op2 .idx (.var 0) (.cst (.int 0))) (.var 4)) (.nm 4) (.seq (.var 2)) .yes))))) .nil))⟩
def d__law_clashes : Def := ⟨3, 3, (.cons (.rt (.or (.op2 .inn (.op2 .idx (.op2 .idx (.var 0) (.cst (.int 0))) (.op2 .idx (.var 1) (.cst (.int 0)))) (.call f__law_forbid (.cons (.var 0) (.cons (.var 2) .nil)))) (.op2 .inn (.op2 .idx (.op2 .idx (.var 0) (.cst (.int 0))) (.op2 .idx (.var 2) (.cst (.int 0)))) (.call f__law_forbid (.cons (.var 0) (.cons (.var 1) .nil)))))) .nil)⟩
def d__law_table : Def := ⟨1, 4, (.cons (.set 1 (.e (.call f__law_links (.cons (.var 0) .nil)))) (.cons (.rt (.comp [2] (.comp [3] (.var 3) (.nm 3) (.rng1 (.op1 .len (.var 1))) (.e (.call f__law_clashes (.cons (.var 0) (.cons (.var 2) (.cons (.op2 .idx (.var 1) (.var 3)) .nil)))))) (.nm 2) (.seq (.var 1)) .yes)) .nil))⟩
def d__law_place : Def := ⟨3, 7, (.cons (.ifs (.e (.op2 .eq (.op1 .len (.var 2)) (.op1 .len (.var 0)))) (.cons (.rt (.var 2)) .nil) .nil) (.cons (.set 3 (.e (.op2 .min2 (.var 1) (.op2 .add (.op2 .add (.cst (.int 1)) (.op1 .max (.op2 .add (.lst (.cons (.op1 .neg (.cst (.int 1))) .nil)) (.var 2)))) (.cst (.int 1)))))) (.cons (.fr (.nm 4) (.rng1 (.var 3)) (.cons (.ifs (.e (.op2 .eq (.comp [6] (.var 6) (.nm 6) (.seq (.op2 .idx (.var 0) (.op1 .len (.var 2)))) (.and (.e (.op2 .le (.var 6) (.op1 .len (.var 2)))) (.e (.op2 .eq (.op2 .idx (.op2 .add (.var 2) (.lst (.cons (.var 4) .nil))) (.var 6)) (.var 4))))) (.lst .nil))) (.cons (.set 5 (.e (.call f__law_place (.cons (.var 0) (.cons (.var 1) (.cons (.op2 .add (.var 2) (.lst (.cons (.var 4) .nil))) .nil)))))) (.cons (.ifs (.e (.op1 .notNone (.var 5))) (.cons (.rt (.var 5)) .nil) .nil) .nil)) .nil) .nil)) (.cons (.rt (.cst .none)) .nil))))⟩
def d__law_least : Def := ⟨1, 4, (.cons (.ifs (.e (.op2 .ne (.call f__law_covers (.cons (.var 0) (.cons (.op2 .idx (.var 0) (.cst (.int 0))) .nil))) (.lst .nil))) (.cons (.rt (.cst .none)) .nil) .nil) (.cons (.set 1 (.e (.call f__law_table (.cons (.var 0) .nil)))) (.cons (.fr (.nm 2) (.rng1 (.cst (.int 8))) (.cons (.set 3 (.e (.call f__law_place (.cons (.var 1) (.cons (.var 2) (.cons (.lst .nil) .nil)))))) (.cons (.ifs (.e (.op1 .notNone (.var 3))) (.cons (.rt (.var 3)) .nil) .nil) .nil))) (.cons (.rt (.cst .none)) .nil))))⟩
def d__law_fits : Def := ⟨2, 6, (.cons (.set 2 (.e (.call f__law_table (.cons (.var 0) .nil)))) (.cons (.ifs (.or (.e (.op2 .ne (.op1 .len (.var 1)) (.op1 .len (.var 2)))) (.e (.op2 .ne (.comp [4] (.var 4) (.nm 4) (.seq (.var 1)) (.or (.e (.op2 .lt (.var 4) (.cst (.int 0)))) (.e (.op2 .gt (.var 4) (.cst (.int 11)))))) (.lst .nil)))) (.cons (.rt (.cst (.bool false))) .nil) .nil) (.cons (.rt (.op2 .eq (.comp [3] (.var 3) (.nm 3) (.rng1 (.op1 .len (.var 2))) (.e (.op2 .ne (.comp [5] (.var 5) (.nm 5) (.seq (.op2 .idx (.var 2) (.var 3))) (.e (.op2 .eq (.op2 .idx (.var 1) (.var 5)) (.op2 .idx (.var 1) (.var 3))))) (.lst .nil)))) (.lst .nil))) .nil)))⟩
def d_law_k03 : Def := ⟨1, 19, (.cons (.set 1 (.cel (.cons (.var 0) (.cons (.cst (.int 0)) (.cons (.cst (.int 126019)) (.cons (.cst (.int 0)) .nil)))))) (.cons (.fr (.nm 2) (.rng1 (.cst (.int 10))) (.cons (.set 3 (.e (.call f__law_net (.cel 1 (.cons (.cst (.int 5)) .nil))))) (.cons (.par 7 8 (.e (.call f__law_links (.cons (.var 3) .nil))) (.e (.call f__law_least (.cons (.var 3) .nil)))) (.cons (.fr (.nm 4) (.seq (.var 7)) (.cons (.ifs (.not (.e (.call f__law_alike (.cons (.call f_forbidden (.cons (.var 3) (.cons (.var 4) .nil))) (.cons (.op2 .join (.cst (.str "")) (.call f__law_forbid (.cons (.var 3) (.cons (.var 4) .nil)))) .nil))))) (.cons (.rt (.cst (.bool false))) .nil) .nil) (.cons (.set 9 (.e (.call f__law_pick (.cel 1 (.cons (.var 7) .nil))))) (.cons (.ifs (.or (.not (.e (.call f__law_alike (.cons (.call f_clash (.cons (.var 3) (.cons (.var 4) (.cons (.var 9) .nil)))) (.cons (.call f__law_clashes (.cons (.var 3) (.cons (.var 4) (.cons (.var 9) .nil)))) .nil))))) (.e (.op2 .ne (.call f_clash (.cons (.var 3) (.cons (.var 9) (.cons (.var 4) .nil)))) (.call f_clash (.cons (.var 3) (.cons (.var 4) (.cons (.var 9) .nil))))))) (.cons (.rt (.cst (.bool false))) .nil) .nil) .nil)))) (.cons (.ifs (.not (.e (.call f__law_alike (.cons (.call f_first_placing (.cons (.var 3) .nil)) (.cons (.ite (.e (.op1 .isNone (.var 8))) (.cst .none) (.op1 .tuple (.var 8))) .nil))))) (.cons (.rt (.cst (.bool false))) .nil) .nil) (.cons (.ifs (.not (.e (.call f__law_alike (.cons (.call f_least_slots (.cons (.var 3) .nil)) (.cons (.ite (.e (.op1 .isNone (.var 8))) (.cst .none) (.op2 .add (.op1 .max (.op2 .add (.lst (.cons (.op1 .neg (.cst (.int 1))) .nil)) (.var 8))) (.cst (.int 1)))) .nil))))) (.cons (.rt (.cst (.bool false))) .nil) .nil) (.cons (.fr (.nm 5) (.rng1 (.cst (.int 4))) (.cons (.set 10 (.own (.comp [16] (.call f__law_taken (.cel 1 (.cons (.cst (.int 12)) .nil))) (.nm 16) (.seq (.var 7)) .yes))) (.cons (.frz 10) (.cons (.ifs (.and (.e (.op1 .notNone (.var 8))) (.e (.op2 .gt (.call f__law_taken (.cel 1 (.cons (.cst (.int 3)) .nil))) (.cst (.int 0))))) (.cons (.set 10 (.own (.comp [16] (.op2 .add (.var 16) (.ite (.e (.op2 .eq (.call f__law_taken (.cel 1 (.cons (.cst (.int 6)) .nil))) (.cst (.int 0)))) (.cst (.int 1)) (.cst (.int 0)))) (.nm 16) (.seq (.var 8)) .yes))) (.cons (.frz 10) .nil)) .nil) (.cons (.ifs (.and (.e (.op1 .notNone (.var 8))) (.e (.op2 .eq (.call f__law_taken (.cel 1 (.cons (.cst (.int 3)) .nil))) (.cst (.int 0))))) (.cons (.set 10 (.own (.comp [16] (.op2 .mul (.var 16) (.cst (.int 2))) (.nm 16) (.seq (.var 8)) .yes))) (.cons (.frz 10) .nil)) .nil) (.cons (.set 11 (.e (.call f__law_fits (.cons (.var 3) (.cons (.var 10) .nil))))) (.cons (.ifs (.not (.e (.call f__law_alike (.cons (.call f_is_placing (.cons (.var 3) (.cons (.op1 .tuple (.var 10)) .nil))) (.cons (.var 11) .nil))))) (.cons (.rt (.cst (.bool false))) .nil) .nil) (.cons (.ifs (.e (.op2 .eq (.op2 .eq (.refd (.call f_placing_rule (.cons (.var 3) (.cons (.op1 .tuple (.var 10)) .nil)))) (.cst (.str "placing"))) (.var 11))) (.cons (.rt (.cst (.bool false))) .nil) .nil) (.cons (.ifs (.e (.var 11)) (.cons (.set 13 (.e (.call f_placing_rule (.cons (.var 3) (.cons (.op1 .tuple (.var 10)) .nil))))) (.cons (.set 14 (.own (.lst .nil))) (.cons (.fr (.nm 12) (.rng1 (.op2 .add (.op1 .max (.op2 .add (.lst (.cons (.op1 .neg (.cst (.int 1))) .nil)) (.var 10))) (.cst (.int 1)))) (.cons (.set 17 (.own (.comp [18] (.op2 .idx (.op2 .idx (.var 3) (.cst (.int 0))) (.op2 .idx (.op2 .idx (.var 7) (.var 18)) (.cst (.int 0)))) (.nm 18) (.rng1 (.op1 .len (.var 7))) (.e (.op2 .eq (.op2 .idx (.var 10) (.var 18)) (.var 12)))))) (.cons (.frz 17) (.cons (.app 14 (.op2 .join (.cst (.str "")) (.comp [16] (.var 16) (.nm 16) (.seq (.cst (.str "abcdefg"))) (.e (.op2 .inn (.var 16) (.var 17)))))) .nil)))) (.cons (.ifs (.not (.e (.call f__law_alike (.cons (.var 13) (.cons (.op1 .tuple (.ro 14)) .nil))))) (.cons (.rt (.cst (.bool false))) .nil) .nil) (.cons (.ifs (.e (.op2 .ne (.comp [18] (.var 18) (.nm 18) (.rng1 (.op1 .len (.var 7))) (.e (.op2 .nin (.op2 .idx (.var 7) (.var 18)) (.call f__law_clear (.cons (.var 3) (.cons (.call f__law_by (.cons (.var 3) (.cons (.op2 .idx (.var 13) (.op2 .idx (.var 10) (.var 18))) .nil))) .nil)))))) (.lst .nil))) (.cons (.rt (.cst (.bool false))) .nil) .nil) .nil))))) .nil) .nil))))))))) (.cons (.ifs (.and (.e (.op1 .notNone (.var 8))) (.e (.op2 .ne (.var 7) (.lst .nil)))) (.cons (.par 13 15 (.e (.comp [16] (.call f__law_slot (.cel 1 .nil)) (.nm 16) (.rng1 (.op1 .max (.var 8))) .yes)) (.e (.lst .nil))) (.cons (.fr (.nm 12) (.seq (.var 13)) (.cons (.set 15 (.e (.op2 .add (.var 15) (.call f__law_clear (.cons (.var 3) (.cons (.call f__law_by (.cons (.var 3) (.cons (.var 12) .nil))) .nil)))))) .nil)) (.cons (.ifs (.e (.op2 .eq (.comp [16] (.var 16) (.nm 16) (.seq (.var 7)) (.e (.op2 .nin (.var 16) (.var 15)))) (.lst .nil))) (.cons (.rt (.cst (.bool false))) .nil) .nil) .nil))) .nil) (.cons (.set 6 (.e (.call f__law_pick (.cel 1 (.cons (.lst (.cons (.cst .none) (.cons (.cst (.int 5)) (.cons (.cst (.str "ab")) (.cons (.op2 .mul (.lst (.cons (.cst (.int 0)) .nil)) (.op1 .len (.var 7))) (.cons (.op2 .add (.op1 .tuple (.comp [16] (.cst (.bool true)) (.nm 16) (.seq (.var 7)) .yes)) (.tup (.cons (.cst (.int 0)) .nil))) (.cons (.op2 .add (.op1 .tuple (.comp [16] (.cst (.int 12)) (.nm 16) (.seq (.var 7)) .yes)) (.tup (.cons (.cst (.int 1)) .nil))) .nil))))))) .nil))))) (.cons (.ifs (.or (.e (.op1 (.notB false) (.call f_is_placing (.cons (.var 3) (.cons (.var 6) .nil))))) (.e (.op2 .ne (.refd (.call f_placing_rule (.cons (.var 3) (.cons (.var 6) .nil)))) (.cst (.str "placing"))))) (.cons (.rt (.cst (.bool false))) .nil) .nil) (.cons (.ifs (.or (.e (.op2 .ne (.refd (.call f_forbidden (.cons (.var 3) (.cons (.tup (.cons (.cst (.int 0)) (.cons (.cst (.int 0)) .nil))) .nil)))) (.cst (.str "link")))) (.e (.op2 .ne (.refd (.call f_clash (.cons (.var 3) (.cons (.tup (.cons (.cst (.int 0)) (.cons (.cst (.int 0)) .nil))) (.cons (.cst (.int 5)) .nil))))) (.cst (.str "one"))))) (.cons (.rt (.cst (.bool false))) .nil) .nil) (.cons (.ifs (.or (.and (.e (.op2 .ne (.var 7) (.lst .nil))) (.e (.op2 .ne (.refd (.call f_clash (.cons (.var 3) (.cons (.op2 .idx (.var 7) (.cst (.int 0))) (.cons (.cst .none) .nil))))) (.cst (.str "other"))))) (.e (.op2 .ne (.refd (.call f_least_slots (.cons (.var 6) .nil))) (.cst (.str "net"))))) (.cons (.rt (.cst (.bool false))) .nil) .nil) .nil)))))))))))) (.cons (.rt (.and (.op2 .eq (.call f_least_slots (.cons (.tup (.cons (.cst (.str "abc")) (.cons (.tup (.cons (.tup (.cons (.cst (.int 1)) (.cons (.cst (.int 2)) .nil))) (.cons (.tup (.cons (.cst (.int 0)) (.cons (.cst (.int 2)) .nil))) (.cons (.tup (.cons (.cst (.int 0)) (.cons (.cst (.int 1)) .nil))) .nil)))) .nil))) .nil)) (.cst (.int 3))) (.and (.op2 .eq (.call f_first_placing (.cons (.tup (.cons (.cst (.str "abc")) (.cons (.tup (.cons (.tup .nil) (.cons (.tup (.cons (.cst (.int 0)) .nil)) (.cons (.tup (.cons (.cst (.int 0)) .nil)) .nil)))) .nil))) .nil)) (.tup (.cons (.cst (.int 0)) (.cons (.cst (.int 0)) .nil)))) (.op2 .eq (.call f_least_slots (.cons (.tup (.cons (.cst (.str "ab")) (.cons (.tup (.cons (.tup .nil) (.cons (.tup .nil) .nil))) .nil))) .nil)) (.cst (.int 0)))))) .nil)))⟩
def tbl : Nat → Option Def
  | 0 => some d_need
  | 1 => some d_is_number
  | 2 => some d_is_rising
  | 3 => some d_are_letters
  | 4 => some d_is_station_row
  | 5 => some d_is_net
  | 6 => some d_check_net
  | 26 => some d_check_link
  | 12 => some d_all_links
  | 44 => some d_covers_by
  | 55 => some d_forbidden_labels
  | 56 => some d_forbidden
  | 57 => some d_do_clash
  | 58 => some d_clash
  | 59 => some d_clash_table
  | 60 => some d_placed
  | 61 => some d_best_placing
  | 62 => some d_first_placing
  | 63 => some d_least_slots
  | 64 => some d_is_valid_placing
  | 65 => some d_is_placing
  | 66 => some d_placing_rule
  | 14 => some d__law_taken
  | 15 => some d__law_pick
  | 17 => some d__law_alike
  | 18 => some d__law_net
  | 19 => some d__law_links
  | 33 => some d__law_hears
  | 48 => some d__law_clear
  | 49 => some d__law_slot
  | 50 => some d__law_by
  | 51 => some d__law_covers
  | 67 => some d__law_forbid
  | 68 => some d__law_clashes
  | 69 => some d__law_table
  | 70 => some d__law_place
  | 71 => some d__law_least
  | 72 => some d__law_fits
  | 73 => some d_law_k03
  | _ => none
end DL.P
end

section
namespace DL.P
open PySem PySem.Spec PyProof.Rows L2 DL
def top (i : Nat) : Stmt := PySem.Challenge.pw_channelshared_k03_whole_placings_and_lea.main.body.getD i (.Pass ⟨0, 0, 0, 0⟩)
def e_need : FnE := ⟨"need", ["is_valid", "name"], ["is_valid", "name"], defArgs (top 3), defBody (top 3), defScope (top 3), d_need⟩
def e_is_number : FnE := ⟨"is_number", ["value", "least", "most"], ["value", "least", "most"], defArgs (top 8), defBody (top 8), defScope (top 8), d_is_number⟩
def e_is_rising : FnE := ⟨"is_rising", ["row"], ["row", "one", "other"], defArgs (top 9), defBody (top 9), defScope (top 9), d_is_rising⟩
def e_are_letters : FnE := ⟨"are_letters", ["value"], ["value", "own"], defArgs (top 10), defBody (top 10), defScope (top 10), d_are_letters⟩
def e_is_station_row : FnE := ⟨"is_station_row", ["value", "many"], ["value", "many", "own"], defArgs (top 11), defBody (top 11), defScope (top 11), d_is_station_row⟩
def e_is_net : FnE := ⟨"is_net", ["value"], ["value", "labels", "ears", "at", "own"], defArgs (top 12), defBody (top 12), defScope (top 12), d_is_net⟩
def e_check_net : FnE := ⟨"check_net", ["net"], ["net"], defArgs (top 13), defBody (top 13), defScope (top 13), d_check_net⟩
def e_check_link : FnE := ⟨"check_link", ["net", "link", "name"], ["net", "link", "name", "is_pair", "own"], defArgs (top 14), defBody (top 14), defScope (top 14), d_check_link⟩
def e_all_links : FnE := ⟨"all_links", ["net"], ["net", "found", "listener", "row", "own"], defArgs (top 16), defBody (top 16), defScope (top 16), d_all_links⟩
def e_covers_by : FnE := ⟨"covers_by", ["net", "classes"], ["net", "classes", "found", "speaker", "listener", "near", "some", "own"], defArgs (top 18), defBody (top 18), defScope (top 18), d_covers_by⟩
def e_forbidden_labels : FnE := ⟨"forbidden_labels", ["net", "link"], ["net", "link", "near", "speaker", "listener", "own"], defArgs (top 20), defBody (top 20), defScope (top 20), d_forbidden_labels⟩
def e_forbidden : FnE := ⟨"forbidden", ["net", "link"], ["net", "link"], defArgs (top 21), defBody (top 21), defScope (top 21), d_forbidden⟩
def e_do_clash : FnE := ⟨"do_clash", ["net", "one", "other"], ["net", "one", "other"], defArgs (top 22), defBody (top 22), defScope (top 22), d_do_clash⟩
def e_clash : FnE := ⟨"clash", ["net", "one", "other"], ["net", "one", "other"], defArgs (top 23), defBody (top 23), defScope (top 23), d_clash⟩
def e_clash_table : FnE := ⟨"clash_table", ["net"], ["net", "rows", "one", "at", "other"], defArgs (top 24), defBody (top 24), defScope (top 24), d_clash_table⟩
def e_placed : FnE := ⟨"placed", ["table", "slots"], ["table", "slots", "found", "goal", "top", "at", "wish", "own"], defArgs (top 25), defBody (top 25), defScope (top 25), d_placed⟩
def e_best_placing : FnE := ⟨"best_placing", ["net"], ["net", "found", "table", "slots"], defArgs (top 26), defBody (top 26), defScope (top 26), d_best_placing⟩
def e_first_placing : FnE := ⟨"first_placing", ["net"], ["net"], defArgs (top 27), defBody (top 27), defScope (top 27), d_first_placing⟩
def e_least_slots : FnE := ⟨"least_slots", ["net"], ["net", "found"], defArgs (top 28), defBody (top 28), defScope (top 28), d_least_slots⟩
def e_is_valid_placing : FnE := ⟨"is_valid_placing", ["net", "placing"], ["net", "placing", "rows", "at", "one", "to", "own"], defArgs (top 29), defBody (top 29), defScope (top 29), d_is_valid_placing⟩
def e_is_placing : FnE := ⟨"is_placing", ["net", "placing"], ["net", "placing"], defArgs (top 30), defBody (top 30), defScope (top 30), d_is_placing⟩
def e_placing_rule : FnE := ⟨"placing_rule", ["net", "placing"], ["net", "placing", "found", "slot", "some", "link", "own"], defArgs (top 31), defBody (top 31), defScope (top 31), d_placing_rule⟩
def e__law_taken : FnE := ⟨"_law_taken", ["row", "many"], ["row", "many", "cell", "found"], defArgs (top 33), defBody (top 33), defScope (top 33), d__law_taken⟩
def e__law_pick : FnE := ⟨"_law_pick", ["row", "some"], ["row", "some"], defArgs (top 34), defBody (top 34), defScope (top 34), d__law_pick⟩
def e__law_alike : FnE := ⟨"_law_alike", ["found", "due"], ["found", "due", "at"], defArgs (top 36), defBody (top 36), defScope (top 36), d__law_alike⟩
def e__law_net : FnE := ⟨"_law_net", ["row", "most"], ["row", "most", "many", "labels", "at", "letters", "ears", "some", "bits", "thin", "own"], defArgs (top 37), defBody (top 37), defScope (top 37), d__law_net⟩
def e__law_links : FnE := ⟨"_law_links", ["net"], ["net", "found", "listener", "own"], defArgs (top 38), defBody (top 38), defScope (top 38), d__law_links⟩
def e__law_hears : FnE := ⟨"_law_hears", ["net", "station", "senders"], ["net", "station", "senders", "some", "own"], defArgs (top 39), defBody (top 39), defScope (top 39), d__law_hears⟩
def e__law_clear : FnE := ⟨"_law_clear", ["net", "senders"], ["net", "senders", "one", "two"], defArgs (top 40), defBody (top 40), defScope (top 40), d__law_clear⟩
def e__law_slot : FnE := ⟨"_law_slot", ["row"], ["row", "bits", "own"], defArgs (top 41), defBody (top 41), defScope (top 41), d__law_slot⟩
def e__law_by : FnE := ⟨"_law_by", ["net", "slot"], ["net", "slot", "at"], defArgs (top 42), defBody (top 42), defScope (top 42), d__law_by⟩
def e__law_covers : FnE := ⟨"_law_covers", ["net", "classes"], ["net", "classes", "found", "one", "two", "some", "own"], defArgs (top 43), defBody (top 43), defScope (top 43), d__law_covers⟩
def e__law_forbid : FnE := ⟨"_law_forbid", ["net", "link"], ["net", "link", "near", "own", "one"], defArgs (top 44), defBody (top 44), defScope (top 44), d__law_forbid⟩
def e__law_clashes : FnE := ⟨"_law_clashes", ["net", "one", "other"], ["net", "one", "other"], defArgs (top 45), defBody (top 45), defScope (top 45), d__law_clashes⟩
def e__law_table : FnE := ⟨"_law_table", ["net"], ["net", "rows", "one", "at"], defArgs (top 46), defBody (top 46), defScope (top 46), d__law_table⟩
def e__law_place : FnE := ⟨"_law_place", ["table", "slots", "done"], ["table", "slots", "done", "top", "slot", "found", "own"], defArgs (top 47), defBody (top 47), defScope (top 47), d__law_place⟩
def e__law_least : FnE := ⟨"_law_least", ["net"], ["net", "table", "slots", "found"], defArgs (top 48), defBody (top 48), defScope (top 48), d__law_least⟩
def e__law_fits : FnE := ⟨"_law_fits", ["net", "placing"], ["net", "placing", "table", "at", "own", "to"], defArgs (top 49), defBody (top 49), defScope (top 49), d__law_fits⟩
def e_law : FnE := ⟨"law", ["script"], ["script", "row", "turn", "net", "one", "again", "odd", "rows", "due", "other", "some", "is_good", "slot", "rule", "goal", "served", "own", "letters", "at"], defArgs (top 50), defBody (top 50), defScope (top 50), d_law_k03⟩
def e__law_refused : FnE := ⟨"_law_refused", ["call"], ["call", "e"], defArgs (top 35), defBody (top 35), defScope (top 35), ⟨1, 2, .nil⟩⟩
def tab : List (Nat × FnE) := ([(f_need, e_need), (f_is_number, e_is_number), (f_is_rising, e_is_rising), (f_are_letters, e_are_letters), (f_is_station_row, e_is_station_row), (f_is_net, e_is_net), (f_check_net, e_check_net), (f_check_link, e_check_link)] : List (Nat × FnE)) ++ ([(f_all_links, e_all_links), (f_covers_by, e_covers_by), (f_forbidden_labels, e_forbidden_labels), (f_forbidden, e_forbidden), (f_do_clash, e_do_clash), (f_clash, e_clash), (f_clash_table, e_clash_table), (f_placed, e_placed)] : List (Nat × FnE)) ++ ([(f_best_placing, e_best_placing), (f_first_placing, e_first_placing), (f_least_slots, e_least_slots), (f_is_valid_placing, e_is_valid_placing), (f_is_placing, e_is_placing), (f_placing_rule, e_placing_rule), (f__law_taken, e__law_taken), (f__law_pick, e__law_pick)] : List (Nat × FnE)) ++ ([(f__law_alike, e__law_alike), (f__law_net, e__law_net), (f__law_links, e__law_links), (f__law_hears, e__law_hears), (f__law_clear, e__law_clear), (f__law_slot, e__law_slot), (f__law_by, e__law_by), (f__law_covers, e__law_covers)] : List (Nat × FnE)) ++ ([(f__law_forbid, e__law_forbid), (f__law_clashes, e__law_clashes), (f__law_table, e__law_table), (f__law_place, e__law_place), (f__law_least, e__law_least), (f__law_fits, e__law_fits)] : List (Nat × FnE))
def free : List Str := (["ValueError", "all", "any", "bool", "enumerate", "int", "isinstance", "len", "max", "min", "range", "set", "sorted", "str", "tuple", "zip"] : List Str)
def glb : List (Str × D) := ([("LETTERS", (.str "abcdefg")), ("MOST_STATIONS", (.int 7)), ("MOST_SLOTS", (.int 12))] : List (Str × D))
def L : Lw := ⟨tab, free, glb, e_law, e__law_refused⟩
theorem ok_need : e_need.ok (fnsOf tab) free glb false = true := by decide +kernel
theorem ok_is_number : e_is_number.ok (fnsOf tab) free glb false = true := by decide +kernel
theorem ok_is_rising : e_is_rising.ok (fnsOf tab) free glb false = true := by decide +kernel
theorem ok_are_letters : e_are_letters.ok (fnsOf tab) free glb false = true := by decide +kernel
theorem ok_is_station_row : e_is_station_row.ok (fnsOf tab) free glb false = true := by decide +kernel
theorem ok_is_net : e_is_net.ok (fnsOf tab) free glb false = true := by decide +kernel
theorem ok_check_net : e_check_net.ok (fnsOf tab) free glb false = true := by decide +kernel
theorem ok_check_link : e_check_link.ok (fnsOf tab) free glb false = true := by decide +kernel
theorem ok_all_links : e_all_links.ok (fnsOf tab) free glb false = true := by decide +kernel
theorem ok_covers_by : e_covers_by.ok (fnsOf tab) free glb false = true := by decide +kernel
theorem ok_forbidden_labels : e_forbidden_labels.ok (fnsOf tab) free glb false = true := by decide +kernel
theorem ok_forbidden : e_forbidden.ok (fnsOf tab) free glb false = true := by decide +kernel
theorem ok_do_clash : e_do_clash.ok (fnsOf tab) free glb false = true := by decide +kernel
theorem ok_clash : e_clash.ok (fnsOf tab) free glb false = true := by decide +kernel
theorem ok_clash_table : e_clash_table.ok (fnsOf tab) free glb false = true := by decide +kernel
theorem ok_placed : e_placed.ok (fnsOf tab) free glb false = true := by decide +kernel
theorem ok_best_placing : e_best_placing.ok (fnsOf tab) free glb false = true := by decide +kernel
theorem ok_first_placing : e_first_placing.ok (fnsOf tab) free glb false = true := by decide +kernel
theorem ok_least_slots : e_least_slots.ok (fnsOf tab) free glb false = true := by decide +kernel
theorem ok_is_valid_placing : e_is_valid_placing.ok (fnsOf tab) free glb false = true := by decide +kernel
theorem ok_is_placing : e_is_placing.ok (fnsOf tab) free glb false = true := by decide +kernel
theorem ok_placing_rule : e_placing_rule.ok (fnsOf tab) free glb false = true := by decide +kernel
theorem ok__law_taken : e__law_taken.ok (fnsOf tab) free glb false = true := by decide +kernel
theorem ok__law_pick : e__law_pick.ok (fnsOf tab) free glb false = true := by decide +kernel
theorem ok__law_alike : e__law_alike.ok (fnsOf tab) free glb false = true := by decide +kernel
theorem ok__law_net : e__law_net.ok (fnsOf tab) free glb false = true := by decide +kernel
theorem ok__law_links : e__law_links.ok (fnsOf tab) free glb false = true := by decide +kernel
theorem ok__law_hears : e__law_hears.ok (fnsOf tab) free glb false = true := by decide +kernel
theorem ok__law_clear : e__law_clear.ok (fnsOf tab) free glb false = true := by decide +kernel
theorem ok__law_slot : e__law_slot.ok (fnsOf tab) free glb false = true := by decide +kernel
theorem ok__law_by : e__law_by.ok (fnsOf tab) free glb false = true := by decide +kernel
theorem ok__law_covers : e__law_covers.ok (fnsOf tab) free glb false = true := by decide +kernel
theorem ok__law_forbid : e__law_forbid.ok (fnsOf tab) free glb false = true := by decide +kernel
theorem ok__law_clashes : e__law_clashes.ok (fnsOf tab) free glb false = true := by decide +kernel
theorem ok__law_table : e__law_table.ok (fnsOf tab) free glb false = true := by decide +kernel
theorem ok__law_place : e__law_place.ok (fnsOf tab) free glb false = true := by decide +kernel
theorem ok__law_least : e__law_least.ok (fnsOf tab) free glb false = true := by decide +kernel
theorem ok__law_fits : e__law_fits.ok (fnsOf tab) free glb false = true := by decide +kernel
theorem ok_law : e_law.ok (fnsOf tab) free glb true = true := by decide +kernel
theorem tab_ok : (tab.all fun q => q.2.ok (fnsOf tab) free glb false) = true := by
  simp only [tab, List.all_append, List.all_cons, List.all_nil, Bool.and_true, Bool.and_eq_true]
  exact ⟨⟨⟨⟨⟨ok_need, ok_is_number, ok_is_rising, ok_are_letters, ok_is_station_row, ok_is_net, ok_check_net, ok_check_link⟩, ⟨ok_all_links, ok_covers_by, ok_forbidden_labels, ok_forbidden, ok_do_clash, ok_clash, ok_clash_table, ok_placed⟩⟩, ⟨ok_best_placing, ok_first_placing, ok_least_slots, ok_is_valid_placing, ok_is_placing, ok_placing_rule, ok__law_taken, ok__law_pick⟩⟩, ⟨ok__law_alike, ok__law_net, ok__law_links, ok__law_hears, ok__law_clear, ok__law_slot, ok__law_by, ok__law_covers⟩⟩, ⟨ok__law_forbid, ok__law_clashes, ok__law_table, ok__law_place, ok__law_least, ok__law_fits⟩⟩
theorem L_ok : L.ok = true := by
  unfold Lw.ok
  rw [show (L.tab.all fun q => q.2.ok (fnsOf L.tab) L.free L.glb false) = true from tab_ok, show L.law.ok (fnsOf L.tab) L.free L.glb true = true from ok_law]
  decide +kernel
theorem b_need : e_need.Bnd := fun _ _ _ _ _ _ us hl => match us, hl with | [_, _], _ => ⟨rfl, rfl⟩
theorem b_is_number : e_is_number.Bnd := fun _ _ _ _ _ _ us hl => match us, hl with | [_, _, _], _ => ⟨rfl, rfl⟩
theorem b_is_rising : e_is_rising.Bnd := fun _ _ _ _ _ _ us hl => match us, hl with | [_], _ => ⟨rfl, rfl⟩
theorem b_are_letters : e_are_letters.Bnd := fun _ _ _ _ _ _ us hl => match us, hl with | [_], _ => ⟨rfl, rfl⟩
theorem b_is_station_row : e_is_station_row.Bnd := fun _ _ _ _ _ _ us hl => match us, hl with | [_, _], _ => ⟨rfl, rfl⟩
theorem b_is_net : e_is_net.Bnd := fun _ _ _ _ _ _ us hl => match us, hl with | [_], _ => ⟨rfl, rfl⟩
theorem b_check_net : e_check_net.Bnd := fun _ _ _ _ _ _ us hl => match us, hl with | [_], _ => ⟨rfl, rfl⟩
theorem b_check_link : e_check_link.Bnd := fun _ _ _ _ _ _ us hl => match us, hl with | [_, _, _], _ => ⟨rfl, rfl⟩
theorem b_all_links : e_all_links.Bnd := fun _ _ _ _ _ _ us hl => match us, hl with | [_], _ => ⟨rfl, rfl⟩
theorem b_covers_by : e_covers_by.Bnd := fun _ _ _ _ _ _ us hl => match us, hl with | [_, _], _ => ⟨rfl, rfl⟩
theorem b_forbidden_labels : e_forbidden_labels.Bnd := fun _ _ _ _ _ _ us hl => match us, hl with | [_, _], _ => ⟨rfl, rfl⟩
theorem b_forbidden : e_forbidden.Bnd := fun _ _ _ _ _ _ us hl => match us, hl with | [_, _], _ => ⟨rfl, rfl⟩
theorem b_do_clash : e_do_clash.Bnd := fun _ _ _ _ _ _ us hl => match us, hl with | [_, _, _], _ => ⟨rfl, rfl⟩
theorem b_clash : e_clash.Bnd := fun _ _ _ _ _ _ us hl => match us, hl with | [_, _, _], _ => ⟨rfl, rfl⟩
theorem b_clash_table : e_clash_table.Bnd := fun _ _ _ _ _ _ us hl => match us, hl with | [_], _ => ⟨rfl, rfl⟩
theorem b_placed : e_placed.Bnd := fun _ _ _ _ _ _ us hl => match us, hl with | [_, _], _ => ⟨rfl, rfl⟩
theorem b_best_placing : e_best_placing.Bnd := fun _ _ _ _ _ _ us hl => match us, hl with | [_], _ => ⟨rfl, rfl⟩
theorem b_first_placing : e_first_placing.Bnd := fun _ _ _ _ _ _ us hl => match us, hl with | [_], _ => ⟨rfl, rfl⟩
theorem b_least_slots : e_least_slots.Bnd := fun _ _ _ _ _ _ us hl => match us, hl with | [_], _ => ⟨rfl, rfl⟩
theorem b_is_valid_placing : e_is_valid_placing.Bnd := fun _ _ _ _ _ _ us hl => match us, hl with | [_, _], _ => ⟨rfl, rfl⟩
theorem b_is_placing : e_is_placing.Bnd := fun _ _ _ _ _ _ us hl => match us, hl with | [_, _], _ => ⟨rfl, rfl⟩
theorem b_placing_rule : e_placing_rule.Bnd := fun _ _ _ _ _ _ us hl => match us, hl with | [_, _], _ => ⟨rfl, rfl⟩
theorem b__law_taken : e__law_taken.Bnd := fun _ _ _ _ _ _ us hl => match us, hl with | [_, _], _ => ⟨rfl, rfl⟩
theorem b__law_pick : e__law_pick.Bnd := fun _ _ _ _ _ _ us hl => match us, hl with | [_, _], _ => ⟨rfl, rfl⟩
theorem b__law_alike : e__law_alike.Bnd := fun _ _ _ _ _ _ us hl => match us, hl with | [_, _], _ => ⟨rfl, rfl⟩
theorem b__law_net : e__law_net.Bnd := fun _ _ _ _ _ _ us hl => match us, hl with | [_, _], _ => ⟨rfl, rfl⟩
theorem b__law_links : e__law_links.Bnd := fun _ _ _ _ _ _ us hl => match us, hl with | [_], _ => ⟨rfl, rfl⟩
theorem b__law_hears : e__law_hears.Bnd := fun _ _ _ _ _ _ us hl => match us, hl with | [_, _, _], _ => ⟨rfl, rfl⟩
theorem b__law_clear : e__law_clear.Bnd := fun _ _ _ _ _ _ us hl => match us, hl with | [_, _], _ => ⟨rfl, rfl⟩
theorem b__law_slot : e__law_slot.Bnd := fun _ _ _ _ _ _ us hl => match us, hl with | [_], _ => ⟨rfl, rfl⟩
theorem b__law_by : e__law_by.Bnd := fun _ _ _ _ _ _ us hl => match us, hl with | [_, _], _ => ⟨rfl, rfl⟩
theorem b__law_covers : e__law_covers.Bnd := fun _ _ _ _ _ _ us hl => match us, hl with | [_, _], _ => ⟨rfl, rfl⟩
theorem b__law_forbid : e__law_forbid.Bnd := fun _ _ _ _ _ _ us hl => match us, hl with | [_, _], _ => ⟨rfl, rfl⟩
theorem b__law_clashes : e__law_clashes.Bnd := fun _ _ _ _ _ _ us hl => match us, hl with | [_, _, _], _ => ⟨rfl, rfl⟩
theorem b__law_table : e__law_table.Bnd := fun _ _ _ _ _ _ us hl => match us, hl with | [_], _ => ⟨rfl, rfl⟩
theorem b__law_place : e__law_place.Bnd := fun _ _ _ _ _ _ us hl => match us, hl with | [_, _, _], _ => ⟨rfl, rfl⟩
theorem b__law_least : e__law_least.Bnd := fun _ _ _ _ _ _ us hl => match us, hl with | [_], _ => ⟨rfl, rfl⟩
theorem b__law_fits : e__law_fits.Bnd := fun _ _ _ _ _ _ us hl => match us, hl with | [_, _], _ => ⟨rfl, rfl⟩
theorem b_law : ∀ (kV doc pm : Value) (an : Option Addr) (cdv ct : Value) (us : List Value), us.length = e_law.ps.length → bindArgs (PySem.W.fnOf e_law.x e_law.x e_law.params e_law.body e_law.sc .none kV doc pm an cdv ct) ⟨us, []⟩ = pure (e_law.ps.zip us) := fun _ _ _ _ _ _ us hl => match us, hl with | [_], _ => rfl
theorem b__law_refused : ∀ (kV doc pm : Value) (an : Option Addr) (cdv ct : Value) (us : List Value), us.length = e__law_refused.ps.length → bindArgs (PySem.W.fnOf e__law_refused.x e__law_refused.x e__law_refused.params e__law_refused.body e__law_refused.sc .none kV doc pm an cdv ct) ⟨us, []⟩ = pure (e__law_refused.ps.zip us) := fun _ _ _ _ _ _ us hl => match us, hl with | [_], _ => rfl
theorem L_bnd : L.Bnd := ⟨fun q hq => by
  have hq : q ∈ tab := hq
  simp only [tab, List.mem_append, List.mem_cons, List.not_mem_nil, or_false] at hq
  rcases hq with (((((rfl | rfl | rfl | rfl | rfl | rfl | rfl | rfl) | (rfl | rfl | rfl | rfl | rfl | rfl | rfl | rfl)) | (rfl | rfl | rfl | rfl | rfl | rfl | rfl | rfl)) | (rfl | rfl | rfl | rfl | rfl | rfl | rfl | rfl)) | (rfl | rfl | rfl | rfl | rfl | rfl))
  · exact b_need
  · exact b_is_number
  · exact b_is_rising
  · exact b_are_letters
  · exact b_is_station_row
  · exact b_is_net
  · exact b_check_net
  · exact b_check_link
  · exact b_all_links
  · exact b_covers_by
  · exact b_forbidden_labels
  · exact b_forbidden
  · exact b_do_clash
  · exact b_clash
  · exact b_clash_table
  · exact b_placed
  · exact b_best_placing
  · exact b_first_placing
  · exact b_least_slots
  · exact b_is_valid_placing
  · exact b_is_placing
  · exact b_placing_rule
  · exact b__law_taken
  · exact b__law_pick
  · exact b__law_alike
  · exact b__law_net
  · exact b__law_links
  · exact b__law_hears
  · exact b__law_clear
  · exact b__law_slot
  · exact b__law_by
  · exact b__law_covers
  · exact b__law_forbid
  · exact b__law_clashes
  · exact b__law_table
  · exact b__law_place
  · exact b__law_least
  · exact b__law_fits, b_law, b__law_refused⟩
def loose : List Str := (["ChannelError", "BadArgument", "need", "LETTERS", "MOST_STATIONS", "MOST_SLOTS", "is_number", "is_rising", "are_letters", "is_station_row", "is_net", "check_net", "check_link", "all_links", "covers_by", "forbidden_labels", "forbidden", "do_clash", "clash", "clash_table", "placed", "best_placing", "first_placing", "least_slots", "is_valid_placing", "is_placing", "placing_rule", "_law_taken", "_law_pick", "_law_refused"] : List Str) ++ (["_law_alike", "_law_net", "_law_links", "_law_hears", "_law_clear", "_law_slot", "_law_by", "_law_covers", "_law_forbid", "_law_clashes", "_law_table", "_law_place", "_law_least", "_law_fits"] : List Str)
abbrev R : PySem.W.OpenRow := PySem.W.OpenLaw.row PySem.Challenge.rw_channelshared_k03_whole_placings_and_lea
abbrev hk : PySem.W.Hook := hookL 6 R.prog.main.file L
def ob (s : PySem.W.SharedT) : He.AlD × Bool := obsL 6 R.prog.main.file L (HandSHeadRun.getT s)
theorem ob_eq (s : PySem.W.SharedT) : ob s = hk.obs s.abs := obsL_eq (HandSHeadRun.getT_eq s)
end DL.P
end

section
namespace DL.P
open PySem PySem.Spec PyProof.Rows L2 DL
theorem head_run (w : World) : HandSHeadRun.RunEq R (PySem.W.view R.prog [50]) hk ob 3000 loose w := by
  intro os
  kernel_rfl
end DL.P
end

section
open PySem PySem.W PySem.Calls PyProof.Rows in
theorem DL.P.holds_of {fuel kr : Nat} (hkr : kr ≤ 40)
    (hrun : ∀ ns : List Int, ns.length ≤ 63 → (∀ z ∈ ns, Builtin.Int.intBits z ≤ 1048576) → ∃ S', DL.callDef ⟨DL.run (DL.tblOf DL.P.tab) fuel kr, fuel⟩ DL.P.d_law_k03 [.d (.list (ns.map .int))] [] = some (.ok (.d (.bool true)), S')) : PySem.Challenge.rw_channelshared_k03_whole_placings_and_lea.Holds := by
  w_on; o_law
  refine HandSHeadRun.head_any (r := OpenLaw.row PySem.Challenge.rw_channelshared_k03_whole_placings_and_lea) (q := view (OpenLaw.row PySem.Challenge.rw_channelshared_k03_whole_placings_and_lea).prog [50]) (H := DL.P.hk) (ob := DL.P.ob) (M := 3000) (loose := DL.P.loose) (d := HandSHeadRun.topDef (OpenLaw.row PySem.Challenge.rw_channelshared_k03_whole_placings_and_lea).prog 50) (kwd := []) DL.P.ob_eq
    (by kernel_rfl) (fun s => by kernel_rfl) DL.P.head_run (by kernel_rfl) (by kernel_rfl) (by kernel_rfl) (by rfl) (by first | assumption | decide +kernel) (by decide +kernel) ⟨rfl, rfl, rfl, rfl, rfl, by decide +kernel⟩ ?hw ?hc
  case hw => w_witness2
  case hc =>
    refine LamX.walk_ofTsE (l := PySem.Challenge.rw_channelshared_k03_whole_placings_and_lea) (n := 63) (k := 3 * kr + 3) (x := "script") (CX := fun w => L2.CX PySem.Challenge.rw_channelshared_k03_whole_placings_and_lea.prog w) rfl (by decide) (by kernel_rfl) ⟨rfl, ?r1, ?r2⟩ ?F (fun w H s e s' z => by obtain ⟨_, _, _, _, _, _, _, _, _, _, _, _, z⟩ := z; exact z)
    case r1 => exact Nat.lt_of_le_of_lt (by show _ ≤ callerA.depth + 3 * (3 * 40 + 3) + 5; omega) (by decide +kernel)
    case r2 => exact Nat.lt_of_le_of_lt (by show _ ≤ callerA.units + 16 * (3 * 40 + 3) + 200; omega) (by decide +kernel)
    case F =>
      intro w mg fa h Y G hmg0
      obtain ⟨K, KX, c⟩ := Y
      have hmg : mg DL.P.L.law.x = some (.ref fa) := by
        have e : (HandSHeadRun.topDef (OpenLaw.row PySem.Challenge.rw_channelshared_k03_whole_placings_and_lea).prog 50).name = DL.P.L.law.x := by kernel_rfl
        rw [← e]
        exact hmg0
      exact ⟨K, KX, DL.law_at (fuel := fuel) (kr := kr) KX G c hmg (by kernel_rfl) DL.P.L_ok DL.P.L_bnd hrun⟩
end

section
/-! Mr: what a compact text does, told by what holds behind it -/
namespace DL
open PySem
def Run {α : Type} (m : M α) (S : Store) (Q : α → Store → Prop) (R : Str → D → Store → Prop) : Prop := match m S with
  | none => False
  | some (.ok a, T) => Q a T
  | some (.err c x, T) => R c x T
section
variable {α β : Type} {m : M α} {S S' : Store} {Q Q' : α → Store → Prop} {R R' : Str → D → Store → Prop}
theorem run_ok {a : α} (h : m S = some (.ok a, S')) : Run m S Q R ↔ Q a S' := by
  unfold Run
  rw [h]
theorem run_err {c : Str} {x : D} (h : m S = some (.err c x, S')) : Run m S Q R ↔ R c x S' := by
  unfold Run
  rw [h]
theorem run_no (h : m S = none) : Run m S Q R ↔ False := by
  unfold Run
  rw [h]
theorem eq_ok {a : α} (h : Run m S (fun b T => b = a ∧ T = S') (fun _ _ _ => False)) : m S = some (.ok a, S') := by
  unfold Run at h
  split at h
  · exact h.elim
  · rename_i e
    obtain ⟨rfl, rfl⟩ := h
    exact e
  · exact h.elim
theorem Run.get (h : Run m S Q (fun _ _ _ => False)) : ∃ a T, m S = some (.ok a, T) ∧ Q a T := by
  unfold Run at h
  split at h
  · exact h.elim
  · exact ⟨_, _, by assumption, h⟩
  · exact h.elim
theorem Run.mono (h : Run m S Q R) (hq : ∀ a T, Q a T → Q' a T) (hr : ∀ c x T, R c x T → R' c x T) : Run m S Q' R' := by
  unfold Run at h ⊢
  split at h
  · exact h.elim
  · exact hq _ _ h
  · exact hr _ _ _ h
@[simp] theorem run_rt {a : α} : Run (ret a) S Q R ↔ Q a S := run_ok rfl
@[simp] theorem run_lift_some {a : α} : Run (lift (some a)) S Q R ↔ Q a S := run_ok rfl
@[simp] theorem run_lift_none : Run (lift (none : Option α)) S Q R ↔ False := run_no rfl
@[simp] theorem run_fail : Run (fail : M α) S Q R ↔ False := run_no rfl
@[simp] theorem run_bnd {f : α → M β} {Q : β → Store → Prop} : Run (bnd m f) S Q R ↔ Run m S (fun a T => Run (f a) T Q R) R := by
  cases h : m S with
  | none => rw [run_no h, run_no (m := bnd m f) (by unfold bnd; rw [h])]
  | some p =>
    obtain ⟨r, T⟩ := p
    cases r with
    | ok a =>
      rw [run_ok h]
      unfold Run bnd
      rw [h]
    | err c x => rw [run_err h, run_err (m := bnd m f) (c := c) (x := x) (S' := T) (by unfold bnd; rw [h])]
@[simp] theorem run_noerr : Run (noerr m) S Q R ↔ Run m S Q (fun _ _ _ => False) := by
  cases h : m S with
  | none => rw [run_no h, run_no (m := noerr m) (by unfold noerr; rw [h])]
  | some p =>
    obtain ⟨r, T⟩ := p
    cases r with
    | ok a => rw [run_ok h, run_ok (m := noerr m) (a := a) (S' := T) (by unfold noerr; rw [h])]
    | err c x => rw [run_err h, run_no (m := noerr m) (by unfold noerr; rw [h])]
@[simp] theorem run_ite {c : Prop} [Decidable c] {a b : M α} : Run (if c then a else b) S Q R ↔ if c then Run a S Q R else Run b S Q R := by
  split <;> rfl
end
section
variable {Γ : Ctx} {env : Env} {S : Store} {Q : D → Store → Prop} {R : Str → D → Store → Prop} {QB : Bool → Store → Prop} {QL : List D → Store → Prop} {QA : List Av → Store → Prop} {QF : Fl → Store → Prop}
@[simp] theorem r_var {i : Nat} : Run (evE Γ (.var i) env) S Q R ↔ Run (lift (getD env i)) S Q R := by simp only [evE]
@[simp] theorem r_ro {i : Nat} : Run (evE Γ (.ro i) env) S Q R ↔ Run (lift ((getO env i).map .list)) S Q R := by simp only [evE]
@[simp] theorem r_cst {d : D} : Run (evE Γ (.cst d) env) S Q R ↔ Q d S := by simp only [evE, run_rt]
@[simp] theorem r_glb {x : Str} {d : D} : Run (evE Γ (.glb x d) env) S Q R ↔ Q d S := by simp only [evE, run_rt]
@[simp] theorem r_op1 {o : O1} {a : E} : Run (evE Γ (.op1 o a) env) S Q R ↔ Run (evE Γ a env) S (fun x T => Run (lift (op1 o x)) T Q R) R := by simp only [evE, run_bnd]
@[simp] theorem r_op2 {o : O2} {a b : E} : Run (evE Γ (.op2 o a b) env) S Q R ↔ Run (evE Γ a env) S (fun x T => Run (evE Γ b env) T (fun y U => Run (lift (op2 o x y)) U Q R) R) R := by simp only [evE, run_bnd]
@[simp] theorem r_slL {a b : E} : Run (evE Γ (.slL a b) env) S Q R ↔ Run (evE Γ a env) S (fun x T => Run (evE Γ b env) T (fun y U => Run (lift ((asInt y).bind fun l => slice x (some l) none)) U Q R) R) R := by simp only [evE, run_bnd]
@[simp] theorem r_slU {a b : E} : Run (evE Γ (.slU a b) env) S Q R ↔ Run (evE Γ a env) S (fun x T => Run (evE Γ b env) T (fun y U => Run (lift ((asInt y).bind fun l => slice x none (some l))) U Q R) R) R := by simp only [evE, run_bnd]
@[simp] theorem r_chain {o p : O2} {a b c : E} : Run (evE Γ (.chain o p a b c) env) S Q R ↔ Run (evE Γ a env) S (fun x T => Run (evE Γ b env) T (fun y U => Run (lift ((op2 o x y).bind asB)) U (fun r V => if r then Run (evE Γ c env) V (fun z W => Run (lift (op2 p y z)) W Q R) R else Q (.bool false) V) R) R) R := by
  simp only [evE, run_bnd, run_ite, run_rt]
@[simp] theorem r_tup {es : Es} : Run (evE Γ (.tup es) env) S Q R ↔ Run (evEs Γ es env) S (fun xs T => Q (.tuple xs) T) R := by simp only [evE, run_bnd, run_rt]
@[simp] theorem r_lst {es : Es} : Run (evE Γ (.lst es) env) S Q R ↔ Run (evEs Γ es env) S (fun xs T => Q (.list xs) T) R := by simp only [evE, run_bnd, run_rt]
@[simp] theorem r_and {a b : E} : Run (evE Γ (.and a b) env) S Q R ↔ Run (evE Γ a env) S (fun x T => Run (lift (asB x)) T (fun r U => if r then Run (evE Γ b env) U Q R else Q (.bool false) U) R) R := by simp only [evE, run_bnd, run_ite, run_rt]
@[simp] theorem r_or {a b : E} : Run (evE Γ (.or a b) env) S Q R ↔ Run (evE Γ a env) S (fun x T => Run (lift (asB x)) T (fun r U => if r then Q (.bool true) U else Run (evE Γ b env) U Q R) R) R := by simp only [evE, run_bnd, run_ite, run_rt]
@[simp] theorem r_not {a : E} : Run (evE Γ (.not a) env) S Q R ↔ Run (evE Γ a env) S (fun x T => Run (lift (truth x)) T (fun r U => Q (.bool (!r)) U) R) R := by simp only [evE, run_bnd, run_rt]
@[simp] theorem r_ifx {c : T} {a b : E} : Run (evE Γ (.ite c a b) env) S Q R ↔ Run (evT Γ c env) S (fun r T => if r then Run (evE Γ a env) T Q R else Run (evE Γ b env) T Q R) R := by simp only [evE, run_bnd, run_ite]
@[simp] theorem r_comp {vs : List Nat} {elt : E} {tg : Tg} {src : I} {cd : T} : Run (evE Γ (.comp vs elt tg src cd) env) S Q R ↔ Run (evI Γ src env) S (fun xs T => Run (compM (wipeE env vs) tg (evT Γ cd) (evE Γ elt) xs) T (fun ys U => Q (.list ys) U) R) R := by simp only [evE, run_bnd, run_rt]
@[simp] theorem r_call {f : Nat} {es : As} : Run (evE Γ (.call f es) env) S Q R ↔ Run (evAs Γ es env) S (fun vs T => Run (Γ.call f vs) T (fun r U => match r with
    | .d x => Q x U
    | .c _ => False) R) R := by
  simp only [evE, run_bnd]
  constructor
  · exact fun h => h.mono (fun a T h => h.mono (fun r U q => by cases r <;> simpa using q) fun _ _ _ z => z) fun _ _ _ z => z
  · exact fun h => h.mono (fun a T h => h.mono (fun r U q => by cases r <;> simpa using q) fun _ _ _ z => z) fun _ _ _ z => z
@[simp] theorem r_cidx {i : Nat} {j : E} : Run (evE Γ (.cidx i j) env) S Q R ↔ Run (lift (getC env i)) S (fun r T => Run (evE Γ j env) T (fun y U => Run (celL r) U (fun xs V => Run (lift ((asInt y).bind (getI xs))) V Q R) R) R) R := by simp only [evE, run_bnd]
@[simp] theorem r_refd {e : E} : Run (evE Γ (.refd e) env) S Q R ↔ Run (evE Γ e env) S (fun _ T => Q (.str "") T) (fun c x T => c = "BadArgument" ∧ Q x T) := by
  cases h : evE Γ e env S with
  | none => rw [run_no h, run_no (m := evE Γ (.refd e) env) (by simp only [evE]; rw [h])]
  | some p =>
    obtain ⟨r, T⟩ := p
    cases r with
    | ok a => rw [run_ok h, run_ok (m := evE Γ (.refd e) env) (a := .str "") (S' := T) (by simp only [evE]; rw [h])]
    | err c x =>
      rw [run_err h]
      by_cases hc : c = "BadArgument"
      · rw [run_ok (m := evE Γ (.refd e) env) (a := x) (S' := T) (by simp only [evE]; rw [h]; simp only [hc, if_true])]
        simp [hc]
      · rw [run_no (m := evE Γ (.refd e) env) (by simp only [evE]; rw [h]; simp only [hc, if_false])]
        simp [hc]
@[simp] theorem r_yes : Run (evT Γ .yes env) S QB R ↔ QB true S := by simp only [evT, run_rt]
@[simp] theorem r_te {a : E} : Run (evT Γ (.e a) env) S QB R ↔ Run (evE Γ a env) S (fun x T => Run (lift (truth x)) T QB R) R := by simp only [evT, run_bnd]
@[simp] theorem r_tand {a b : T} : Run (evT Γ (.and a b) env) S QB R ↔ Run (evT Γ a env) S (fun r T => if r then Run (evT Γ b env) T QB R else QB false T) R := by simp only [evT, run_bnd, run_ite, run_rt]
@[simp] theorem r_tor {a b : T} : Run (evT Γ (.or a b) env) S QB R ↔ Run (evT Γ a env) S (fun r T => if r then QB true T else Run (evT Γ b env) T QB R) R := by simp only [evT, run_bnd, run_ite, run_rt]
@[simp] theorem r_tnot {a : T} : Run (evT Γ (.not a) env) S QB R ↔ Run (evT Γ a env) S (fun r T => QB (!r) T) R := by simp only [evT, run_bnd, run_rt]
@[simp] theorem r_enil : Run (evEs Γ .nil env) S QL R ↔ QL [] S := by simp only [evEs, run_rt]
@[simp] theorem r_econs {e : E} {es : Es} : Run (evEs Γ (.cons e es) env) S QL R ↔ Run (evE Γ e env) S (fun x T => Run (evEs Γ es env) T (fun xs U => QL (x :: xs) U) R) R := by simp only [evEs, run_bnd, run_rt]
@[simp] theorem r_anil : Run (evAs Γ .nil env) S QA R ↔ QA [] S := by simp only [evAs, run_rt]
@[simp] theorem r_acons {e : E} {es : As} : Run (evAs Γ (.cons e es) env) S QA R ↔ Run (evE Γ e env) S (fun x T => Run (evAs Γ es env) T (fun xs U => QA (.d x :: xs) U) R) R := by simp only [evAs, run_bnd, run_rt]
@[simp] theorem r_acel {i : Nat} {es : As} : Run (evAs Γ (.cel i es) env) S QA R ↔ Run (lift (getC env i)) S (fun r T => Run (evAs Γ es env) T (fun xs U => QA (.c r :: xs) U) R) R := by simp only [evAs, run_bnd, run_rt]
@[simp] theorem r_seq {e : E} : Run (evI Γ (.seq e) env) S QL R ↔ Run (evE Γ e env) S (fun x T => Run (lift (items x)) T QL R) R := by simp only [evI, run_bnd]
@[simp] theorem r_rng1 {e : E} : Run (evI Γ (.rng1 e) env) S QL R ↔ Run (evE Γ e env) S (fun x T => Run (lift ((asInt x).bind fun n => if n ≤ LIM ∧ -(LIM : Int) ≤ n then some (rngI 0 n.toNat) else none)) T QL R) R := by simp only [evI, run_bnd]
@[simp] theorem r_enum {e : E} : Run (evI Γ (.enum e) env) S QL R ↔ Run (evE Γ e env) S (fun x T => Run (lift ((items x).map enum)) T QL R) R := by simp only [evI, run_bnd]
@[simp] theorem r_zip {a b : E} : Run (evI Γ (.zip a b) env) S QL R ↔ Run (evE Γ a env) S (fun x T => Run (evE Γ b env) T (fun y U => Run (lift ((items x).bind fun xs => (items y).map fun ys => zipD xs ys)) U QL R) R) R := by simp only [evI, run_bnd]
/-! ### statements -/
variable {i j : Nat} {a b e : E} {QS : Slot → Store → Prop}
@[simp] theorem r_re : Run (evR Γ (.e a) env) S QS R ↔ Run (evE Γ a env) S (fun x T => QS (.dat x) T) R := by simp only [evR, run_bnd, run_rt]
@[simp] theorem r_rown : Run (evR Γ (.own a) env) S QS R ↔ Run (evE Γ a env) S (fun x T => match x with
    | .list xs => QS (.own xs) T
    | _ => False) R := by
  simp only [evR, run_bnd]
  constructor
  · exact fun h => h.mono (fun x T q => by cases x <;> simpa using q) fun _ _ _ z => z
  · exact fun h => h.mono (fun x T q => by cases x <;> simpa using q) fun _ _ _ z => z
@[simp] theorem r_rcel {es : Es} : Run (evR Γ (.cel es) env) S QS R ↔ Run (evEs Γ es env) S (fun xs T => QS (.cel T.length) (T ++ [.lst xs])) R := by
  simp only [evR, run_bnd, run_rt]
  constructor
  · exact fun h => h.mono (fun xs T q => (run_ok (m := celNew xs) rfl).mp q) fun _ _ _ z => z
  · exact fun h => h.mono (fun xs T q => (run_ok (m := celNew xs) rfl).mpr q) fun _ _ _ z => z
@[simp] theorem r_set {r : DL.R} : Run (evS Γ (.set i r) env) S QF R ↔ Run (evR Γ r env) S (fun s T => QF (.next (env.set i (some s))) T) R := by simp only [evS, run_bnd, run_rt]
@[simp] theorem r_par {r q : DL.R} : Run (evS Γ (.par i j r q) env) S QF R ↔ Run (evR Γ r env) S (fun s T => Run (evR Γ q env) T (fun t U => QF (.next ((env.set i (some s)).set j (some t))) U) R) R := by simp only [evS, run_bnd, run_rt]
@[simp] theorem r_unp {tg : Tg} : Run (evS Γ (.unp tg e) env) S QF R ↔ Run (evE Γ e env) S (fun x T => Run (lift (bind1 tg x env)) T (fun env' U => QF (.next env') U) R) R := by simp only [evS, run_bnd, run_rt]
@[simp] theorem r_app : Run (evS Γ (.app i e) env) S QF R ↔ Run (lift (getO env i)) S (fun xs T => Run (evE Γ e env) T (fun x U => if xs.length < LIM then QF (.next (env.set i (some (.own (xs ++ [x]))))) U else False) R) R := by simp only [evS, run_bnd, run_ite, run_rt, run_fail]
@[simp] theorem r_cset : Run (evS Γ (.cset i a e) env) S QF R ↔ Run (evE Γ e env) S (fun x T => Run (lift (getC env i)) T (fun r U => Run (evE Γ a env) U (fun j V => Run (celL r) V (fun xs W => Run (lift ((asInt j).bind (ixI xs.length))) W (fun j X => QF (.next env) (X.set r (.lst (xs.set j x)))) R) R) R) R) R := by
  simp only [evS, run_bnd, run_rt]
  have key : ∀ (r j : Nat) (x : D) (xs : List D) (W : Store), Run (celSet r (xs.set j x)) W (fun _ T => QF (.next env) T) R ↔ QF (.next env) (W.set r (.lst (xs.set j x))) := fun r j x xs W => run_ok rfl
  simp only [key]
@[simp] theorem r_exp : Run (evS Γ (.exp e) env) S QF R ↔ Run (evE Γ e env) S (fun _ T => QF (.next env) T) R := by simp only [evS, run_bnd, run_rt]
@[simp] theorem r_rt : Run (evS Γ (.rt e) env) S QF R ↔ Run (evE Γ e env) S (fun x T => QF (.ret (.d x)) T) R := by simp only [evS, run_bnd, run_rt]
@[simp] theorem r_ifs {c : T} {x y : Ss} : Run (evS Γ (.ifs c x y) env) S QF R ↔ Run (evT Γ c env) S (fun r T => if r then Run (evSs Γ x env) T QF R else Run (evSs Γ y env) T QF R) R := by simp only [evS, run_bnd, run_ite]
@[simp] theorem r_fr {tg : Tg} {src : I} {x : Ss} : Run (evS Γ (.fr tg src x) env) S QF R ↔ Run (evI Γ src env) S (fun xs T => Run (forM tg (evSs Γ x) xs env) T QF R) R := by simp only [evS, run_bnd]
theorem rais_eq {c : Str} : evS Γ (.rais c e) env S = match evE Γ e env S with
    | none => none
    | some (.ok x, T) => some (.err c x, T)
    | some (.err d x, T) => some (.err d x, T) := by
  simp only [evS]
  unfold bnd
  cases evE Γ e env S with
  | none => rfl
  | some p =>
    obtain ⟨r, T⟩ := p
    cases r <;> rfl
@[simp] theorem r_rais {c : Str} : Run (evS Γ (.rais c e) env) S QF R ↔ Run (evE Γ e env) S (fun x T => R c x T) R := by
  cases h : evE Γ e env S with
  | none => rw [run_no h, run_no (m := evS Γ (.rais c e) env) (by rw [rais_eq, h])]
  | some p =>
    obtain ⟨r, T⟩ := p
    cases r with
    | ok a => rw [run_ok h, run_err (m := evS Γ (.rais c e) env) (c := c) (x := a) (S' := T) (by rw [rais_eq, h])]
    | err d x => rw [run_err h, run_err (m := evS Γ (.rais c e) env) (c := d) (x := x) (S' := T) (by rw [rais_eq, h])]
@[simp] theorem r_frz : Run (evS Γ (.frz i) env) S QF R ↔ Run (lift (getO env i)) S (fun xs T => QF (.next (env.set i (some (.dat (.list xs))))) T) R := by simp only [evS, run_bnd, run_rt]
@[simp] theorem r_snil : Run (evSs Γ .nil env) S QF R ↔ QF (.next env) S := by simp only [evSs, run_rt]
theorem r_scons {s : DL.S} {r : Ss} : Run (evSs Γ (.cons s r) env) S QF R ↔ Run (evS Γ s env) S (fun f T => match f with
    | .next e => Run (evSs Γ r e) T QF R
    | .cont e => QF (.cont e) T
    | .brk e => QF (.brk e) T
    | .ret v => QF (.ret v) T) R := by
  simp only [evSs, run_bnd]
  constructor
  · exact fun h => h.mono (fun x T q => by cases x <;> simpa using q) fun _ _ _ z => z
  · exact fun h => h.mono (fun x T q => by cases x <;> simpa using q) fun _ _ _ z => z
@[simp] theorem r_celL {r : Nat} : Run (celL r) S QL R ↔ Run (lift ((S[r]?).map fun | .lst xs => xs)) S QL R := by
  cases h : S[r]? with
  | none => rw [run_no (m := celL r) (by unfold celL; rw [h])]; simp
  | some c =>
    cases c with
    | lst xs => rw [run_ok (m := celL r) (a := xs) (S' := S) (by unfold celL; rw [h])]; simp
end
/-- a def's call -/
theorem run_callDef {Γ : Ctx} {d : Def} {as : List Av} {S : Store} {Q : Av → Store → Prop} {R : Str → D → Store → Prop} : Run (callDef Γ d as) S Q R ↔ as.length = d.np ∧ Run (evSs Γ d.body (env0 d as)) S (fun f T => match f with
    | .ret (.d x) => Q (.d x) (T.take S.length)
    | .ret (.c r) => Q (.c r) T
    | .next _ => Q (.d .none) (T.take S.length)
    | _ => False) (fun c x T => R c x (T.take S.length)) := by
  by_cases hl : as.length = d.np
  · cases h : evSs Γ d.body (env0 d as) S with
    | none => rw [run_no (m := callDef Γ d as) (by unfold callDef; rw [if_pos hl, h]), run_no h]; simp
    | some p =>
      obtain ⟨r, T⟩ := p
      cases r with
      | err c x => rw [run_err (m := callDef Γ d as) (by unfold callDef; rw [if_pos hl, h]), run_err h]; simp [hl]
      | ok f =>
        cases f with
        | ret v =>
          cases v with
          | d x => rw [run_ok (m := callDef Γ d as) (by unfold callDef; rw [if_pos hl, h]), run_ok h]; simp [hl]
          | c x => rw [run_ok (m := callDef Γ d as) (by unfold callDef; rw [if_pos hl, h]), run_ok h]; simp [hl]
        | next e => rw [run_ok (m := callDef Γ d as) (by unfold callDef; rw [if_pos hl, h]), run_ok h]; simp [hl]
        | brk e => rw [run_no (m := callDef Γ d as) (by unfold callDef; rw [if_pos hl, h]), run_ok h]; simp [hl]
        | cont e => rw [run_no (m := callDef Γ d as) (by unfold callDef; rw [if_pos hl, h]), run_ok h]; simp [hl]
  · rw [run_no (m := callDef Γ d as) (by unfold callDef; rw [if_neg hl])]
    simp [hl]
/-! ### loops, lists -/
theorem run_comp {env : Env} {tg : Tg} {cd : Env → M Bool} {elt : Env → M D} {R : Str → D → Store → Prop} {S : Store} (c : D → Bool) (g : D → D) : ∀ (xs : List D) {Q : List D → Store → Prop},
    (∀ x ∈ xs, ∃ env', bind1 tg x env = some env' ∧ cd env' S = some (.ok (c x), S) ∧ (c x = true → elt env' S = some (.ok (g x), S))) → (Run (compM env tg cd elt xs) S Q R ↔ Q ((xs.filter c).map g) S)
  | [], Q, h => by simp [compM]
  | x :: xs, Q, h => by
    obtain ⟨env', h1, h2, h3⟩ := h x List.mem_cons_self
    have ih := fun Q => run_comp (R := R) (S := S) (env := env) (tg := tg) (cd := cd) (elt := elt) c g xs (Q := Q) fun y hy => h y (List.mem_cons_of_mem _ hy)
    simp only [compM, run_bnd, h1, run_lift_some, run_noerr, run_ok h2, run_ite]
    cases hc : c x with
    | true =>
      simp only [if_true, run_bnd, run_noerr, run_ok (h3 hc), run_rt, ih]
      simp [hc]
    | false =>
      simp only [Bool.false_eq_true, if_false, ih]
      simp [hc]
/-- the same, the turns may change the store -/
theorem run_compS {env : Env} {tg : Tg} {cd : Env → M Bool} {elt : Env → M D} {R : Str → D → Store → Prop} (I : Store → Prop) (Y : D → Prop) : ∀ (xs : List D) {S : Store} {Q : List D → Store → Prop}, I S →
    (∀ x ∈ xs, ∀ S, I S → ∃ env', bind1 tg x env = some env' ∧ Run (cd env') S (fun b T => I T ∧ ∀ U, I U → b = true → Run (elt env') U (fun y V => I V ∧ Y y) (fun _ _ _ => False)) (fun _ _ _ => False)) →
    (∀ ys T, ys.length ≤ xs.length → (∀ y ∈ ys, Y y) → I T → Q ys T) → Run (compM env tg cd elt xs) S Q R
  | [], S, Q, hI, h, q => by
    simp only [compM, run_rt]
    exact q [] S (Nat.le_refl _) (fun y hy => by cases hy) hI
  | x :: xs, S, Q, hI, h, q => by
    obtain ⟨env', h1, h2⟩ := h x List.mem_cons_self S hI
    simp only [compM, run_bnd, h1, run_lift_some, run_noerr, run_ite]
    refine h2.mono (fun b T ⟨hT, hb⟩ => ?_) fun _ _ _ z => z.elim
    cases b with
    | true =>
      simp only [if_true, run_bnd, run_noerr, run_rt]
      refine (hb T hT rfl).mono (fun y V ⟨hV, hy⟩ => ?_) fun _ _ _ z => z.elim
      exact run_compS I Y xs hV (fun z hz => h z (List.mem_cons_of_mem _ hz)) fun ys U hl hys hU => q (y :: ys) U (by simp; omega) (fun z hz => by
        rcases List.mem_cons.mp hz with rfl | hz
        · exact hy
        · exact hys z hz) hU
    | false =>
      simp only [Bool.false_eq_true, if_false]
      exact run_compS I Y xs hT (fun z hz => h z (List.mem_cons_of_mem _ hz)) fun ys U hl hys hU => q ys U (by simp; omega) hys hU
/-- a for whose turns all go on -/
theorem run_for {tg : Tg} {body : Env → M Fl} {R : Str → D → Store → Prop} {Q : Fl → Store → Prop} (xs : List D) (I : Nat → Env → Store → Prop) {env : Env} {S : Store} (h0 : I 0 env S)
    (h : ∀ i x, xs[i]? = some x → ∀ env S, I i env S → ∃ env', bind1 tg x env = some env' ∧ Run (body env') S (fun f T => match f with
      | .next e => I (i + 1) e T
      | .cont e => I (i + 1) e T
      | _ => False) R) (hq : ∀ env S, I xs.length env S → Q (.next env) S) : Run (forM tg body xs env) S Q R := by
  have key : ∀ (ys : List D) (i : Nat) (env : Env) (S : Store), xs.drop i = ys → i ≤ xs.length → I i env S → Run (forM tg body ys env) S Q R := by
    intro ys
    induction ys with
    | nil =>
      intro i env S e hi hI
      simp only [forM, run_rt]
      have hl : xs.length ≤ i := by simpa using e
      have hie : i = xs.length := by omega
      subst hie
      exact hq env S hI
    | cons y ys ih =>
      intro i env S e hi hI
      have hy : xs[i]? = some y := by
        have z := congrArg (fun l => l[0]?) e
        simpa using z
      have hlt : i < xs.length := (List.getElem?_eq_some_iff.mp hy).1
      have e2 : xs.drop (i + 1) = ys := by
        have z := congrArg (List.drop 1) e
        simpa [List.drop_drop, Nat.add_comm] using z
      obtain ⟨env', h1, h2⟩ := h i y hy env S hI
      simp only [forM, run_bnd, h1, run_lift_some]
      refine h2.mono (fun f T q => ?_) fun _ _ _ z => z
      cases f with
      | next en => exact ih (i + 1) en T e2 (by omega) q
      | cont en => exact ih (i + 1) en T e2 (by omega) q
      | brk en => exact q.elim
      | ret v => exact q.elim
  exact key xs 0 env S rfl (Nat.zero_le _) h0
end DL
end

section
/-! Mt: more rules of what a compact text does: lists of a kind, loops told by what went before -/
namespace DL
open PySem
section
variable {Γ : Ctx} {env : Env} {S : Store} {Q : D → Store → Prop} {R : Str → D → Store → Prop} {QL : List D → Store → Prop} {QF : Fl → Store → Prop} {i j l m : Nat} {a b e : E}
@[simp] theorem r_slB {a b c : E} : Run (evE Γ (.slB a b c) env) S Q R ↔ Run (evE Γ a env) S (fun x T => Run (evE Γ b env) T (fun y U => Run (lift (asInt y)) U (fun l U2 => Run (evE Γ c env) U2 (fun z V => Run (lift ((asInt z).bind fun h => slice x (some l) (some h))) V Q R) R) R) R) R := by simp only [evE, run_bnd]
@[simp] theorem r_index {a b : E} : Run (evE Γ (.index a b) env) S Q R ↔ Run (evE Γ a env) S (fun x T => Run (lift (asLst x)) T (fun xs U => Run (evE Γ b env) U (fun y V => Run (lift (indexD2 (.list xs) y)) V Q R) R) R) R := by simp only [evE, run_bnd]
@[simp] theorem r_rng2 {a b : E} : Run (evI Γ (.rng2 a b) env) S QL R ↔ Run (evE Γ a env) S (fun x T => Run (evE Γ b env) T (fun y U => Run (lift ((asInt x).bind fun a => (asInt y).bind fun b => if a ≤ LIM ∧ -(LIM : Int) ≤ a ∧ b ≤ LIM ∧ -(LIM : Int) ≤ b ∧ b - a ≤ LIM then some (rngI a (b - a).toNat) else none)) U QL R) R) R := by simp only [evI, run_bnd]
@[simp] theorem r_par3 {r q u : DL.R} : Run (evS Γ (.par3 i j l r q u) env) S QF R ↔ Run (evR Γ r env) S (fun s T => Run (evR Γ q env) T (fun t U => Run (evR Γ u env) U (fun w V => QF (.next (((env.set i (some s)).set j (some t)).set l (some w))) V) R) R) R := by simp only [evS, run_bnd, run_rt]
@[simp] theorem r_par4 {r q u v : DL.R} : Run (evS Γ (.par4 i j l m r q u v) env) S QF R ↔ Run (evR Γ r env) S (fun s T => Run (evR Γ q env) T (fun t U => Run (evR Γ u env) U (fun w V => Run (evR Γ v env) V (fun x W => QF (.next ((((env.set i (some s)).set j (some t)).set l (some w)).set m (some x))) W) R) R) R) R := by simp only [evS, run_bnd, run_rt]
@[simp] theorem r_ext : Run (evS Γ (.ext i e) env) S QF R ↔ Run (lift (getO env i)) S (fun xs T => Run (evE Γ e env) T (fun x U => match x with
    | .list ys => if xs.length + ys.length ≤ LIM then QF (.next (env.set i (some (.own (xs ++ ys))))) U else False
    | _ => False) R) R := by
  simp only [evS, run_bnd]
  constructor
  · exact fun h => h.mono (fun xs T h => h.mono (fun x U q => by cases x <;> simpa [run_ite, run_rt, run_fail] using q) fun _ _ _ z => z) fun _ _ _ z => z
  · exact fun h => h.mono (fun xs T h => h.mono (fun x U q => by cases x <;> simpa [run_ite, run_rt, run_fail] using q) fun _ _ _ z => z) fun _ _ _ z => z
@[simp] theorem r_six : Run (evS Γ (.six i a e) env) S QF R ↔ Run (evE Γ e env) S (fun x T => Run (lift (getO env i)) T (fun xs U => Run (evE Γ a env) U (fun j V => Run (lift ((asInt j).bind (ixI xs.length))) V (fun j W => QF (.next (env.set i (some (.own (xs.set j x))))) W) R) R) R) R := by simp only [evS, run_bnd, run_rt]
@[simp] theorem r_pop : Run (evS Γ (.pop i) env) S QF R ↔ Run (lift (getO env i)) S (fun xs T => if xs.isEmpty then False else QF (.next (env.set i (some (.own xs.dropLast)))) T) R := by simp only [evS, run_bnd, run_ite, run_rt, run_fail]
@[simp] theorem r_popi : Run (evS Γ (.popi i e) env) S QF R ↔ Run (lift (getO env i)) S (fun xs T => Run (evE Γ e env) T (fun k U => Run (lift (if xs.length ≤ LIM then (asInt k).bind (ixI xs.length) else none)) U (fun k V => QF (.next (env.set i (some (.own (xs.eraseIdx k))))) V) R) R) R := by simp only [evS, run_bnd, run_rt]
@[simp] theorem r_apop : Run (evS Γ (.apop i j e) env) S QF R ↔ Run (lift (getO env i)) S (fun xs T0 => Run (lift (getO env j)) T0 (fun ys T => Run (evE Γ e env) T (fun k U => Run (lift (if ys.length ≤ LIM then (asInt k).bind (ixI ys.length) else none)) U (fun k V => Run (lift ys[k]?) V (fun x W => if i = j ∨ ¬ xs.length < LIM then False else QF (.next ((env.set j (some (.own (ys.eraseIdx k)))).set i (some (.own (xs ++ [x]))))) W) R) R) R) R) R := by simp only [evS, run_bnd, run_ite, run_rt, run_fail]
@[simp] theorem r_zret {vs : List Nat} {ce : E} {tg : Tg} : Run (evS Γ (.zret i a b vs ce tg) env) S QF R ↔ Run (evE Γ a env) S (fun x T => Run (evE Γ b env) T (fun y U => Run (lift ((items x).bind fun xs => (items y).map fun ys => zipD xs ys)) U (fun zs V => Run (compM (wipeE (env.set i none) vs) tg (evT Γ .yes) (evE Γ ce) zs) V (fun ys W => QF (.ret (.d (.tuple ys))) W) R) R) R) R := by simp only [evS, run_bnd, run_rt]
@[simp] theorem r_aug : Run (evS Γ (.aug i e) env) S QF R ↔ Run (lift (getD env i)) S (fun x T => Run (evE Γ e env) T (fun y U => Run (lift ((asInt x).bind fun a => (asInt y).map fun b => a + b)) U (fun z V => QF (.next (env.set i (some (.dat (.int z))))) V) R) R) R := by simp only [evS, run_bnd, run_rt]
@[simp] theorem r_cont : Run (evS Γ .cont env) S QF R ↔ QF (.cont env) S := by simp only [evS, run_rt]
@[simp] theorem r_brk : Run (evS Γ .brk env) S QF R ↔ QF (.brk env) S := by simp only [evS, run_rt]
theorem r_wh {c : T} {x : Ss} : Run (evS Γ (.wh c x) env) S QF R ↔ Run (whileM (evT Γ c) (evSs Γ x) Γ.fuel env) S QF R := by simp only [evS]
end
section
variable {α β : Type} {tg : Tg} {env : Env} {cd : Env → M Bool} {elt : Env → M D} {R : Str → D → Store → Prop} {S : Store}
/-- a comprehension over a list of a kind -/
theorem run_cmp (enc : α → D) (c : α → Bool) (g : α → D) : ∀ (l : List α) {Q : List D → Store → Prop},
    (∀ a ∈ l, ∃ env', bind1 tg (enc a) env = some env' ∧ cd env' S = some (.ok (c a), S) ∧ (c a = true → elt env' S = some (.ok (g a), S))) → (Run (compM env tg cd elt (l.map enc)) S Q R ↔ Q ((l.filter c).map g) S)
  | [], Q, h => by simp [compM]
  | x :: xs, Q, h => by
    obtain ⟨env', h1, h2, h3⟩ := h x List.mem_cons_self
    have ih := fun Q => run_cmp (enc := enc) c g xs (Q := Q) fun y hy => h y (List.mem_cons_of_mem _ hy)
    simp only [List.map_cons, compM, run_bnd, h1, run_lift_some, run_noerr, run_ok h2, run_ite]
    cases hc : c x with
    | true =>
      simp only [if_true, run_bnd, run_noerr, run_ok (h3 hc), run_rt, ih]
      simp [hc]
    | false =>
      simp only [Bool.false_eq_true, if_false, ih]
      simp [hc]
/-- the same, all kept -/
theorem run_cmpY {Γ : Ctx} (enc : α → D) (g : α → D) (l : List α) {Q : List D → Store → Prop} (h : ∀ a ∈ l, ∃ env', bind1 tg (enc a) env = some env' ∧ elt env' S = some (.ok (g a), S)) : Run (compM env tg (evT Γ .yes) elt (l.map enc)) S Q R ↔ Q (l.map g) S := by
  rw [run_cmp enc (fun _ => true) g l (fun a ha => by
    obtain ⟨e, h1, h2⟩ := h a ha
    exact ⟨e, h1, by simp only [evT]; rfl, fun _ => h2⟩)]
  rw [List.filter_eq_self.mpr (fun _ _ => rfl)]
/-- a for over a list of a kind, told by the part that it has walked; it may end early -/
theorem run_forP {body : Env → M Fl} {Q : Fl → Store → Prop} (enc : α → D) (l : List α) (I : List α → Env → Store → Prop) (h0 : I [] env S)
    (h : ∀ pre a post, l = pre ++ a :: post → ∀ env S, I pre env S → ∃ env', bind1 tg (enc a) env = some env' ∧ Run (body env') S (fun f T => match f with
      | .next e => I (pre ++ [a]) e T
      | .cont e => I (pre ++ [a]) e T
      | .brk e => Q (.next e) T
      | .ret v => Q (.ret v) T) R) (hq : ∀ env S, I l env S → Q (.next env) S) : Run (forM tg body (l.map enc) env) S Q R := by
  have key : ∀ (post pre : List α) (env : Env) (S : Store), l = pre ++ post → I pre env S → Run (forM tg body (post.map enc) env) S Q R := by
    intro post
    induction post with
    | nil =>
      intro pre env S e hI
      simp only [List.map_nil, forM, run_rt]
      rw [List.append_nil] at e
      subst e
      exact hq env S hI
    | cons y ys ih =>
      intro pre env S e hI
      obtain ⟨env', h1, h2⟩ := h pre y ys e env S hI
      simp only [List.map_cons, forM, run_bnd, h1, run_lift_some]
      refine h2.mono (fun f T q => ?_) fun _ _ _ z => z
      cases f with
      | next en => exact ih (pre ++ [y]) en T (by rw [e]; simp) q
      | cont en => exact ih (pre ++ [y]) en T (by rw [e]; simp) q
      | brk en => simpa using q
      | ret v => simpa using q
  exact key l [] env S rfl h0
/-- a comprehension whose turns may change the store, over a list of a kind: what came of each turn -/
theorem run_cmpS {Γ : Ctx} (enc : α → D) (I : List D → Store → Prop) (l : List α) {Q : List D → Store → Prop} (h0 : I [] S)
    (h : ∀ pre ys a post, l = pre ++ a :: post → ∀ S, pre.length = ys.length → I ys S → ∃ env', bind1 tg (enc a) env = some env' ∧ Run (elt env') S (fun y T => I (ys ++ [y]) T) (fun _ _ _ => False)) (hq : ∀ ys T, ys.length = l.length → I ys T → Q ys T) : Run (compM env tg (evT Γ .yes) elt (l.map enc)) S Q R := by
  have key : ∀ (post pre : List α) (ys : List D) (S : Store) (Q : List D → Store → Prop), l = pre ++ post → pre.length = ys.length → I ys S → (∀ zs T, (ys ++ zs).length = l.length → I (ys ++ zs) T → Q zs T) → Run (compM env tg (evT Γ .yes) elt (post.map enc)) S Q R := by
    intro post
    induction post with
    | nil =>
      intro pre ys S Q e hl hI hq
      simp only [List.map_nil, compM, run_rt]
      rw [List.append_nil] at e
      exact hq [] S (by rw [e]; simp [hl]) (by simpa using hI)
    | cons y r ih =>
      intro pre ys S Q e hl hI hq
      obtain ⟨env', h1, h2⟩ := h pre ys y r e S hl hI
      simp only [List.map_cons, compM, run_bnd, h1, run_lift_some, run_noerr]
      rw [show evT Γ .yes env' = ret true by simp only [evT]]
      simp only [run_rt, run_ite, if_true, run_bnd, run_noerr]
      refine h2.mono (fun z T q => ?_) fun _ _ _ z => z.elim
      exact ih (pre ++ [y]) (ys ++ [z]) T _ (by rw [e]; simp) (by simp [hl]) q fun zs U hz hzI => by
        refine hq (z :: zs) U ?_ ?_
        · simpa using hz
        · simpa using hzI
  exact key l [] [] S Q rfl rfl h0 fun zs T hz hzI => hq zs T (by simpa using hz) (by simpa using hzI)
end
end DL
end

section
/-! Mb: the package's values, plain -/
namespace DL.P
open PySem DL
abbrev tb : Nat → Option Def := tblOf tab
section
variable {F k : Nat} {S : Store} {Q : Av → Store → Prop} {R : Str → D → Store → Prop}
theorem run_eq {f : Nat} {d : Def} {as : List Av} (h : tb f = some d) : run tb F (k + 1) f as = callDef ⟨run tb F k, F⟩ d as := by
  rw [run, h]
theorem take_self {α : Type} (l : List α) : l.take l.length = l := List.take_length
@[simp] theorem sp_need (b : Bool) (x : D) : Run (run tb F (k + 1) f_need [.d (.bool b), .d x]) S Q R ↔ if b then Q (.d .none) S else R "BadArgument" x S := by
  rw [run_eq (d := d_need) rfl, run_callDef]
  cases b <;> simp [d_need, r_scons, env0, DL.getD, truth, slotOf]
def isNumD (v : D) (lo hi : Int) : Bool := match v with
  | .int n => decide (lo ≤ n) && decide (n ≤ hi)
  | _ => false
theorem sp_is_number (v : D) (lo hi : Int) : run tb F (k + 1) f_is_number [.d v, .d (.int lo), .d (.int hi)] S = some (.ok (.d (.bool (isNumD v lo hi))), S) := by
  rw [run_eq (d := d_is_number) rfl]
  apply eq_ok
  rw [run_callDef]
  cases v <;> simp [d_is_number, r_scons, env0, DL.getD, truth, slotOf, op1, op2, isID1, isTy, asB, isNumD, leD2]
  rename_i n
  by_cases h : lo ≤ n <;> simp [h]
def rising (ns : List Int) : Bool := (ns.zip (ns.drop 1)).all fun p => decide (p.1 < p.2)
theorem cut_drop {α : Type} (xs : List α) (i : Nat) : cut xs (some (i : Int)) none = xs.drop i := by
  unfold cut cutIx
  have h : ¬ ((i : Int) < 0) := by omega
  simp only [h, if_false, Int.toNat_natCast]
  by_cases hi : i ≤ xs.length
  · rw [Nat.min_eq_left hi]
    apply List.take_of_length_le
    simp
  · have : min i xs.length = xs.length := by omega
    rw [this]
    simp
    omega
theorem cut_take {α : Type} (xs : List α) (i : Nat) : cut xs none (some (i : Int)) = xs.take i := by
  unfold cut cutIx
  have h : ¬ ((i : Int) < 0) := by omega
  simp only [h, if_false, Int.toNat_natCast, List.drop_zero, Nat.sub_zero]
  by_cases hi : i ≤ xs.length
  · rw [Nat.min_eq_left hi]
  · have : min i xs.length = xs.length := by omega
    rw [this, List.take_length, List.take_of_length_le (by omega)]
theorem asBools_map {α : Type} (f : α → Bool) : ∀ xs : List α, asBools (xs.map fun x => .bool (f x)) = some (xs.map f)
  | [] => rfl
  | x :: xs => by simp [asBools, asBools_map f xs]
theorem asInts_map : ∀ xs : List Int, asInts (xs.map .int) = some xs
  | [] => rfl
  | x :: xs => by simp [asInts, asInts_map xs]
theorem all_map {α : Type} (f : α → Bool) (xs : List α) : (xs.map f).all id = xs.all f := by
  rw [List.all_map]
  rfl
def ltPair : D → D
  | .tuple [.int a, .int b] => .bool (decide (a < b))
  | _ => .none
theorem sp_is_rising (ns : List Int) : run tb F (k + 1) f_is_rising [.d (.tuple (ns.map .int))] S = some (.ok (.d (.bool (rising ns))), S) := by
  rw [run_eq (d := d_is_rising) rfl]
  apply eq_ok
  rw [run_callDef]
  have e : cut (ns.map PyData.int) (some (1 : Int)) none = (ns.drop 1).map .int := by
    rw [show (1 : Int) = ((1 : Nat) : Int) from rfl, cut_drop, List.map_drop]
  have z : zipD (ns.map PyData.int) ((ns.drop 1).map .int) = (ns.zip (ns.drop 1)).map fun p => .tuple [.int p.1, .int p.2] := by
    unfold zipD
    rw [List.zip_map, List.map_map]
    rfl
  simp only [d_is_rising, r_scons, r_rt, r_op1, r_comp, r_zip, r_var, r_slL, r_cst, env0, DL.getD, slotOf, asInt, slice, items]
  simp only [List.map_cons, List.map_nil, List.cons_append, List.nil_append, List.getElem?_cons_zero, run_lift_some, Option.bind_some, Option.map_some, e, z]
  refine ⟨rfl, ?_⟩
  rw [run_comp (fun _ => true) ltPair]
  · rw [List.filter_eq_self.mpr (fun _ _ => rfl), List.map_map]
    have g : (ltPair ∘ fun (p : Int × Int) => PyData.tuple [.int p.1, .int p.2]) = fun p => .bool (decide (p.1 < p.2)) := rfl
    rw [g]
    simp only [op1, allD1, asBools_map, Option.map_some, run_lift_some, all_map, rising, take_self, and_self]
  · intro x hx
    obtain ⟨p, hp, rfl⟩ := List.mem_map.mp hx
    refine ⟨_, rfl, rfl, fun _ => ?_⟩
    apply eq_ok
    simp [wipeE, DL.getD, op2, ltD2, ltPair]
def rowB (v : D) (m : Int) : Bool := match v with
  | .tuple xs => (match asInts xs with
    | some ns => (ns.all fun n => decide (0 ≤ n) && decide (n ≤ m - 1)) && rising ns
    | none => false)
  | _ => false
theorem nums_ints {lo hi : Int} : ∀ {xs : List D}, (xs.all fun x => isNumD x lo hi) = true → ∃ ns : List Int, xs = ns.map .int ∧ (ns.all fun n => decide (lo ≤ n) && decide (n ≤ hi)) = true
  | [], _ => ⟨[], rfl, rfl⟩
  | x :: xs, h => by
    rw [List.all_cons, Bool.and_eq_true] at h
    obtain ⟨ns, rfl, h2⟩ := nums_ints h.2
    cases x with
    | int n => exact ⟨n :: ns, rfl, by rw [List.all_cons, Bool.and_eq_true]; exact ⟨h.1, h2⟩⟩
    | _ => cases h.1
theorem ints_nums {lo hi : Int} (ns : List Int) : ((ns.map PyData.int).all fun x => isNumD x lo hi) = ns.all fun n => decide (lo ≤ n) && decide (n ≤ hi) := by
  rw [List.all_map]
  rfl
theorem sp_row (v : D) (m : Int) : run tb F (k + 2) f_is_station_row [.d v, .d (.int m)] S = some (.ok (.d (.bool (rowB v m))), S) := by
  rw [run_eq (d := d_is_station_row) rfl]
  apply eq_ok
  rw [run_callDef]
  cases v with
  | tuple xs =>
    simp only [d_is_station_row, r_scons, r_rt, r_and, r_op1, r_comp, r_seq, r_var, r_cst, env0, DL.getD, slotOf, items, op1, isID1, isTy, asB]
    simp only [List.map_cons, List.map_nil, List.cons_append, List.nil_append, List.getElem?_cons_zero, run_lift_some, if_true]
    refine ⟨rfl, ?_⟩
    rw [run_comp (fun _ => true) (fun x => .bool (isNumD x 0 (m - 1)))]
    · rw [List.filter_eq_self.mpr (fun _ _ => rfl)]
      simp only [allD1, asBools_map, Option.map_some, run_lift_some, all_map, asB]
      by_cases h : (xs.all fun x => isNumD x 0 (m - 1)) = true
      · rw [if_pos h]
        obtain ⟨ns, rfl, h2⟩ := nums_ints h
        simp [DL.getD, sp_is_rising, run_ok (sp_is_rising ns), rowB, asInts_map, h2]
      · rw [if_neg h]
        have hr : rowB (.tuple xs) m = false := by
          unfold rowB
          simp only
          split
          · rename_i ns e
            have e2 := asInts_eq e
            subst e2
            rw [ints_nums] at h
            have h' : (ns.all fun n => decide (0 ≤ n) && decide (n ≤ m - 1)) = false := by
              cases z : (ns.all fun n => decide (0 ≤ n) && decide (n ≤ m - 1)) with
              | false => rfl
              | true => exact absurd z h
            rw [h', Bool.false_and]
          · rfl
        simp only [hr, take_self, and_self]
    · intro x hx
      refine ⟨_, rfl, rfl, fun _ => ?_⟩
      apply eq_ok
      simp [wipeE, DL.getD, op2, subD2, run_ok (sp_is_number x 0 (m - 1))]
  | _ =>
    simp [d_is_station_row, r_scons, env0, DL.getD, slotOf, op1, isID1, isTy, asB, rowB]
end
end DL.P
end

section
/-! Mc: nets, checked -/
namespace DL.P
open PySem DL
section
variable {F k : Nat} {S : Store} {Q : Av → Store → Prop} {R : Str → D → Store → Prop}
theorem isIn_int (a : Int) : ∀ ns : List Int, isIn (.int a) (ns.map .int) = decide (a ∈ ns)
  | [] => by simp [isIn]
  | n :: ns => by
    have ih := isIn_int a ns
    unfold isIn at ih ⊢
    simp only [List.map_cons, List.any_cons, ih, PyData.eqv]
    by_cases h : n = a
    · simp [h]
    · have h2 : ¬ a = n := fun e => h e.symm
      simp [h, h2]
theorem eqv_int (a b : Int) : PyData.eqv (.int a) (.int b) = (a == b) := by simp [PyData.eqv]
theorem dep_int (a : Int) : PyData.depth (.int a) = 0 := by simp [PyData.depth]
theorem lim_pos : (7 : Nat) ≤ LIM := by decide
def abc : List Nat := ("abcdefg" : Str).cps.toList
def lettersB : D → Bool
  | .str z => z.cps.toList.all fun c => decide (c ∈ abc)
  | _ => false
def letG : D → D
  | .str x => (match x.cps.toList with
    | [c] => .bool (decide (c ∈ abc))
    | _ => .none)
  | _ => .none
theorem sp_letters (v : D) (hv : ∀ z, v = .str z → z.length ≤ LIM) : run tb F (k + 1) f_are_letters [.d v] S = some (.ok (.d (.bool (lettersB v))), S) := by
  rw [run_eq (d := d_are_letters) rfl]
  apply eq_ok
  rw [run_callDef]
  cases v with
  | str z =>
    have hz := hv z rfl
    simp only [d_are_letters, r_scons, r_rt, r_and, r_op1, r_comp, r_seq, r_var, env0, DL.getD, slotOf, items, op1, isID1, isTy, asB]
    simp only [List.map_cons, List.map_nil, List.cons_append, List.nil_append, List.getElem?_cons_zero, run_lift_some, if_true, hz]
    refine ⟨rfl, ?_⟩
    rw [run_comp (fun _ => true) letG]
    · rw [List.filter_eq_self.mpr (fun _ _ => rfl), List.map_map]
      have g : (letG ∘ chr) = fun c => .bool (decide (c ∈ abc)) := rfl
      rw [g]
      simp only [allD1, asBools_map, Option.map_some, run_lift_some, all_map, lettersB, take_self, and_self]
    · intro x hx
      obtain ⟨c, hc, rfl⟩ := List.mem_map.mp hx
      refine ⟨_, rfl, rfl, fun _ => ?_⟩
      apply eq_ok
      simp [wipeE, DL.getD, op2, innD2, chr, letG, abc]
  | _ => simp [d_are_letters, r_scons, env0, DL.getD, slotOf, op1, isID1, isTy, asB, lettersB]
/-- a row of the net, at i among m -/
def netG (m : Int) : D → D
  | .tuple [.int i, .tuple xs] => .bool (rowB (.tuple xs) m && !isIn (.int i) xs)
  | .tuple [.int _, _] => .bool false
  | _ => .none
def netE (m : Int) : D → Bool
  | .tuple [.int i, .tuple xs] => rowB (.tuple xs) m && !isIn (.int i) xs
  | _ => false
def netB : D → Bool
  | .tuple [.str l, .tuple rows] => lettersB (.str l) && (decide (1 ≤ l.length ∧ l.length ≤ 7) && (decide (rows.length = l.length) && (enum rows).all (netE l.length)))
  | _ => false
theorem netG_eq {m : Int} {i : Nat} {v : D} : netG m (.tuple [.int i, v]) = .bool (netE m (.tuple [.int i, v])) := by
  cases v <;> rfl
theorem enum_g (m : Int) (rows : List D) : (enum rows).map (netG m) = (enum rows).map fun x => .bool (netE m x) := by
  apply List.map_congr_left
  intro x hx
  unfold enum at hx
  obtain ⟨p, hp, rfl⟩ := List.mem_map.mp hx
  exact netG_eq
theorem rowB_not {v : D} {m : Int} (h : rowB v m = true) : ∃ ns : List Int, v = .tuple (ns.map .int) ∧ (ns.all fun n => decide (0 ≤ n) && decide (n ≤ m - 1)) = true ∧ rising ns = true := by
  unfold rowB at h
  split at h
  · split at h
    · rename_i xs ns e
      have e2 := asInts_eq e
      subst e2
      rw [Bool.and_eq_true] at h
      exact ⟨_, rfl, h.1, h.2⟩
    · cases h
  · cases h
theorem rowB_of {ns : List Int} {m : Int} (h1 : (ns.all fun n => decide (0 ≤ n) && decide (n ≤ m - 1)) = true) (h2 : rising ns = true) : rowB (.tuple (ns.map .int)) m = true := by
  unfold rowB
  simp only [asInts_map, h1, h2, Bool.and_self]
/-- what is asked of a value's text: that it is not too long -/
def short : D → Prop
  | .tuple (.str z :: _) => z.length ≤ LIM
  | _ => True
theorem netB_l {l e : D} (h : ∀ z, l ≠ .str z) : netB (.tuple [l, e]) = false := by
  cases l <;> first | rfl | (exact absurd rfl (h _))
theorem netB_len {xs : List D} (h : xs.length ≠ 2) : netB (.tuple xs) = false := by
  unfold netB
  split
  · rename_i e
    cases e
    exact absurd rfl h
  · rfl
theorem sp_is_net (v : D) (hv : short v) : run tb F (k + 3) f_is_net [.d v] S = some (.ok (.d (.bool (netB v))), S) := by
  rw [run_eq (d := d_is_net) rfl]
  apply eq_ok
  rw [run_callDef]
  cases v with
  | tuple xs =>
    by_cases h2 : xs.length = 2
    · match xs, h2 with
      | [l, e], _ =>
        by_cases hl : ∃ z, l = .str z
        · obtain ⟨z, rfl⟩ := hl
          have hz : z.length ≤ LIM := hv
          have sl := fun (S : Store) => sp_letters (F := F) (k := k + 1) (S := S) (.str z) (fun y e => by cases e; exact hz)
          simp [d_is_net, r_scons, env0, slotOf, DL.getD, op1, isID1, isTy, truth, lenD1, op2, eqD2, bind1, dep_int, eqv_int, run_ok (sl S), hz, leD2, asB]
          by_cases c1 : lettersB (.str z) = true
          · by_cases c2 : 1 ≤ (z.length : Int)
            · by_cases c3 : (z.length : Int) ≤ 7
              · cases e with
                | tuple rows =>
                  simp only [c1, c2, c3, if_true, eqv_int]
                  by_cases c4 : rows.length = z.length
                  · have c4' : ((rows.length : Int) == (z.length : Int)) = true := by rw [c4]; simp
                    simp only [run_lift_some, eqv_int, c4', if_true, items, Option.map_some]
                    rw [run_comp (fun _ => true) (netG z.length)]
                    · rw [List.filter_eq_self.mpr (fun _ _ => rfl), enum_g]
                      simp only [allD1, asBools_map, Option.map_some, run_lift_some, all_map, take_self, and_true]
                      unfold netB
                      have c5 : 1 ≤ z.length ∧ z.length ≤ 7 := by omega
                      simp only [c1, c4, c5, and_self, decide_true, Bool.true_and]
                    · intro x hx
                      unfold enum at hx
                      obtain ⟨p, hp, rfl⟩ := List.mem_map.mp hx
                      refine ⟨_, rfl, rfl, fun _ => ?_⟩
                      apply eq_ok
                      simp [wipeE, DL.getD, op1, lenD1, hz, run_ok (sp_row p.1 z.length), asB, netG_eq]
                      by_cases c6 : rowB p.1 z.length = true
                      · obtain ⟨ns, e1, _⟩ := rowB_not c6
                        simp only [c6, if_true]
                        rw [e1] at c6 ⊢
                        simp [op2, ninD2, dep_int, netE, c6]
                      · have c7 : rowB p.1 z.length = false := by simpa using c6
                        simp only [c7, Bool.false_eq_true, if_false]
                        cases hp1 : p.1 <;> simp [netE]
                        rw [hp1] at c7
                        rw [c7]
                        exact fun z => nomatch z
                  · have c4' : ((rows.length : Int) == (z.length : Int)) = false := by
                      simp
                      omega
                    simp only [run_lift_some, eqv_int, c4', Bool.false_eq_true, if_false, take_self, and_true]
                    unfold netB
                    simp [c4]
                | _ => simp [c1, c2, c3, netB]
              · have c5 : ¬ (1 ≤ z.length ∧ z.length ≤ 7) := by omega
                simp only [c1, c2, c3, if_true, if_false]
                cases e <;> simp [netB, c5]
            · have c5 : ¬ (1 ≤ z.length ∧ z.length ≤ 7) := by omega
              simp only [c1, c2, if_true, if_false]
              cases e <;> simp [netB, c5]
          · simp only [c1, if_false]
            cases e <;> simp [netB, c1]
        · have hl' : ∀ z, l ≠ .str z := fun z e => hl ⟨z, e⟩
          have sl := fun (S : Store) => sp_letters (F := F) (k := k + 1) (S := S) l (fun y e => absurd e (hl' y))
          have l0 : lettersB l = false := by cases l <;> first | rfl | exact absurd rfl (hl' _)
          simp [d_is_net, r_scons, env0, slotOf, DL.getD, op1, isID1, isTy, truth, lenD1, op2, eqD2, bind1, PyData.depth, PyData.eqv, run_ok (sl S), l0, netB_l hl']
    · have h3 : ((xs.length : Int) == 2) = false := by
        simp
        omega
      simp [d_is_net, r_scons, env0, slotOf, DL.getD, op1, isID1, isTy, truth, lenD1, op2, eqD2, PyData.depth, PyData.eqv, h3, netB_len h2]
  | _ => simp [d_is_net, r_scons, env0, DL.getD, slotOf, op1, isID1, isTy, asB, netB, truth, run_callDef]
end
end DL.P
end

section
/-! Me: checks, what is heard -/
namespace DL.P
open PySem DL
structure Net where
  l : Str
  e : List (List Int)
def Net.d (n : Net) : D := .tuple [.str n.l, .tuple (n.e.map fun r => .tuple (r.map .int))]
def Net.m (n : Net) : Nat := n.l.length
structure Net.Ok (n : Net) : Prop where
  len : n.e.length = n.m
  m1 : 1 ≤ n.m
  m7 : n.m ≤ 7
  lt : lettersB (.str n.l) = true
  row : ∀ (i : Nat) (r : List Int), n.e[i]? = some r → (∀ x ∈ r, 0 ≤ x ∧ x < (n.m : Int) ∧ x ≠ (i : Int)) ∧ rising r = true
def rowOf (e : List (List Int)) (i : Int) : List Int := (e[i.toNat]?).getD []
def tupI (ns : List Int) : D := .tuple (ns.map .int)
section
variable {F k : Nat} {S : Store} {Q : Av → Store → Prop} {R : Str → D → Store → Prop} {n : Net}
theorem Net.Ok.lim (O : n.Ok) : n.m ≤ LIM := Nat.le_trans O.m7 lim_pos
theorem Net.Ok.short (O : n.Ok) : short n.d := O.lim
theorem Net.Ok.ok (O : n.Ok) : netB n.d = true := by
  have h2 : 1 ≤ n.l.length ∧ n.l.length ≤ 7 := ⟨O.m1, O.m7⟩
  have h3 : (n.e.map fun r => PyData.tuple (r.map .int)).length = n.l.length := by rw [List.length_map]; exact O.len
  simp only [Net.d, netB, O.lt, h3, h2, and_self, decide_true, Bool.true_and]
  rw [List.all_eq_true]
  intro x hx
  unfold enum at hx
  obtain ⟨p, hp, rfl⟩ := List.mem_map.mp hx
  have hp2 := List.mem_zipIdx_iff_getElem?.mp hp
  rw [List.getElem?_map] at hp2
  cases hr : n.e[p.2]? with
  | none => rw [hr] at hp2; cases hp2
  | some r =>
    rw [hr] at hp2
    have e : p.1 = .tuple (r.map .int) := (Option.some.inj hp2).symm
    obtain ⟨r1, r2⟩ := O.row _ _ hr
    rw [e]
    show (rowB (.tuple (r.map .int)) (n.l.length : Int) && !isIn (.int p.2) (r.map .int)) = true
    have r3 : (r.all fun n' => decide (0 ≤ n') && decide (n' ≤ (n.l.length : Int) - 1)) = true := by
      rw [List.all_eq_true]
      intro y hy
      obtain ⟨h1, h2, _⟩ := r1 y hy
      unfold Net.m at h2
      simp
      omega
    have r4 : ¬ (p.2 : Int) ∈ r := fun hm => (r1 _ hm).2.2 rfl
    rw [rowB_of r3 r2, isIn_int, decide_eq_false r4]
    rfl
theorem row_get (O : n.Ok) {i : Int} (h0 : 0 ≤ i) (h1 : i < n.m) : n.e[i.toNat]? = some (rowOf n.e i) := by
  unfold rowOf
  have : i.toNat < n.e.length := by rw [O.len]; omega
  rw [List.getElem?_eq_getElem this]
  rfl
theorem getI_nn {α : Type} {xs : List α} {i : Int} (h : 0 ≤ i) : getI xs i = xs[i.toNat]? := by
  unfold getI
  rw [if_pos h]
theorem row_getD (O : n.Ok) {i : Int} (h0 : 0 ≤ i) (h1 : i < n.m) : getI (n.e.map fun r => PyData.tuple (r.map .int)) i = some (tupI (rowOf n.e i)) := by
  rw [getI_nn h0, List.getElem?_map, row_get O h0 h1]
  rfl
@[simp] theorem getI_0 {α : Type} {a : α} {l : List α} : getI (a :: l) 0 = some a := rfl
@[simp] theorem getI_1 {α : Type} {a b : α} {l : List α} : getI (a :: b :: l) 1 = some b := rfl
theorem hm (n : Net) : n.l.length = n.m := rfl
theorem sp_check_net (v : D) (hv : short v) : Run (run tb F (k + 4) f_check_net [.d v]) S Q R ↔ if netB v = true then Q (.d .none) S else R "BadArgument" (.str "net") S := by
  rw [run_eq (d := d_check_net) rfl, run_callDef]
  simp [d_check_net, r_scons, env0, slotOf, DL.getD, run_ok (sp_is_net v hv)]
def linkB (n : Net) : D → Bool
  | .tuple [.int a, .int b] => decide (0 ≤ a ∧ a ≤ (n.m : Int) - 1 ∧ 0 ≤ b ∧ b ≤ (n.m : Int) - 1 ∧ a ∈ rowOf n.e b)
  | _ => false
theorem sp_check_link (O : n.Ok) (v nm : D) : Run (run tb F (k + 3) f_check_link [.d n.d, .d v, .d nm]) S Q R ↔ if linkB n v = true then Q (.d .none) S else R "BadArgument" nm S := by
  rw [run_eq (d := d_check_link) rfl, run_callDef]
  have hn := O.lim
  cases v with
  | tuple xs =>
    by_cases h2 : xs.length = 2
    · match xs, h2 with
      | [x, y], _ =>
        simp [d_check_link, r_scons, env0, slotOf, DL.getD, op1, op2, isID1, isTy, asB, lenD1, eqD2, dep_int, eqv_int, items]
        rw [run_comp (fun _ => true) (fun z => .bool (isNumD z 0 ((n.m : Int) - 1)))]
        · simp [allD1, asBools, asB, idxD2]
          cases x with
          | int a =>
            cases y with
            | int b =>
              simp [isNumD]
              by_cases c : ((0 ≤ a ∧ a ≤ (n.m : Int) - 1) ∧ 0 ≤ b ∧ b ≤ (n.m : Int) - 1)
              · have hb : b < n.m := by omega
                have g := row_getD O c.2.1 hb
                simp [c, Net.d, op2, idxD2, g, tupI, innD2, dep_int, isIn_int, linkB]
              · have c' : ¬ (0 ≤ a ∧ a ≤ (n.m : Int) - 1 ∧ 0 ≤ b ∧ b ≤ (n.m : Int) - 1 ∧ a ∈ rowOf n.e b) := fun ⟨q1, q2, q3, q4, _⟩ => c ⟨⟨q1, q2⟩, q3, q4⟩
                simp [c, linkB, c']
            | _ => simp [isNumD, linkB]
          | _ => simp [isNumD, linkB]
        · intro z hz
          refine ⟨_, rfl, rfl, fun _ => ?_⟩
          apply eq_ok
          simp [wipeE, DL.getD, Net.d, op1, op2, idxD2, lenD1, hm n, hn, subD2, run_ok (sp_is_number z 0 ((n.m : Int) - 1))]
    · have h3 : ((xs.length : Int) == 2) = false := by
        simp
        omega
      have h4 : linkB n (.tuple xs) = false := by
        unfold linkB
        split
        · rename_i e
          cases e
          exact absurd rfl h2
        · rfl
      simp [d_check_link, r_scons, env0, slotOf, DL.getD, op1, op2, isID1, isTy, asB, lenD1, eqD2, dep_int, eqv_int, h3, h4]
  | _ => simp [d_check_link, r_scons, env0, slotOf, DL.getD, op1, op2, isID1, isTy, asB, lenD1, eqD2, linkB]
end
end DL.P
end

section
/-! Mf: what is heard, links -/
namespace DL.P
open PySem DL
def hv (e : List (List Int)) (st : Int) (snd : List Int) : Int :=
  if st ∈ snd then -3 else match (rowOf e st).filter (fun x => decide (x ∈ snd)) with
    | [] => -1
    | [x] => x
    | _ => -2
theorem rngI_0 (n : Nat) : rngI 0 n = (List.range n).map fun i => .int (i : Int) := by
  unfold rngI
  apply List.map_congr_left
  intro i _
  simp
section
variable {F k : Nat} {S : Store} {Q : Av → Store → Prop} {R : Str → D → Store → Prop} {n : Net} {snd : List Int}
def inG (snd : List Int) : D → Bool
  | .int x => decide (x ∈ snd)
  | _ => false
theorem filter_ints (p : D → Bool) (xs : List Int) : (xs.map PyData.int).filter p = (xs.filter fun x => p (.int x)).map .int := by
  rw [List.filter_map]
  rfl
def heardD (n : Net) (snd : List Int) : D := .tuple ((List.range n.m).map fun (st : Nat) => .int (hv n.e st snd))
def hvG (n : Net) (snd : List Int) : D → D
  | .int st => .int (hv n.e st snd)
  | _ => .none
theorem range_mem {m : Nat} {x : D} (h : x ∈ rngI 0 m) : ∃ st : Int, x = .int st ∧ 0 ≤ st ∧ st < m := by
  rw [rngI_0] at h
  obtain ⟨i, hi, rfl⟩ := List.mem_map.mp h
  have := List.mem_range.mp hi
  exact ⟨i, rfl, by omega, by omega⟩
theorem rng_ok (O : n.Ok) : ((n.m : Int) ≤ LIM ∧ -(LIM : Int) ≤ n.m) := by
  have h := O.lim
  have h2 : LIM = 16777216 := rfl
  omega
end
end DL.P
end

section
/-! Mg: pairs in order, links -/
namespace DL.P
open PySem DL
abbrev Pr := Int × Int
def pr (p : Pr) : D := .tuple [.int p.1, .int p.2]
def leP (p q : Pr) : Bool := decide (p.1 < q.1) || (decide (p.1 = q.1) && decide (p.2 ≤ q.2))
theorem leP_trans (a b c : Pr) (h1 : leP a b = true) (h2 : leP b c = true) : leP a c = true := by
  unfold leP at *
  simp at *
  omega
theorem leP_total (a b : Pr) : (leP a b || leP b a) = true := by
  unfold leP
  simp
  omega
theorem leP_anti {a b : Pr} (h1 : leP a b = true) (h2 : leP b a = true) : a = b := by
  unfold leP at *
  simp at *
  obtain ⟨a1, a2⟩ := a
  obtain ⟨b1, b2⟩ := b
  simp at *
  omega
theorem dle_pr (p q : Pr) : dle (pr p) (pr q) = leP p q := by
  have e : PySem.W.dataLt (pr q) (pr p) = (decide (q.1 < p.1) || (!decide (p.1 < q.1) && decide (q.2 < p.2))) := by
    unfold PySem.W.dataLt pr
    simp [PySem.W.keyToks, PySem.W.keyToksAll, PyProof.Rows.lexLt, PyProof.Rows.itemOrd, PyProof.Rows.itemLt]
  unfold dle leP
  rw [e, Bool.eq_iff_iff]
  simp
  omega
theorem sortable_pr (xs : List Pr) : sortable (xs.map pr) = true := by
  unfold sortable
  simp only [Bool.and_eq_true, Bool.or_eq_true]
  refine ⟨⟨?_, .inl ?_⟩, ?_⟩
  · rw [List.all_eq_true]
    intro x hx
    obtain ⟨p, _, rfl⟩ := List.mem_map.mp hx
    rw [List.all_eq_true]
    intro y hy
    obtain ⟨q, _, rfl⟩ := List.mem_map.mp hy
    simp [pr, PySem.W.alike, PySem.W.alikeAll]
  · rw [List.all_eq_true]
    intro x hx
    obtain ⟨p, _, rfl⟩ := List.mem_map.mp hx
    rfl
  · rw [List.all_eq_true]
    intro x hx
    obtain ⟨p, _, rfl⟩ := List.mem_map.mp hx
    simp [pr, PyData.depth, PyData.depthAll]
theorem sort_pr (xs : List Pr) : sortD (xs.map pr) = some ((xs.mergeSort leP).map pr) := by
  unfold sortD
  rw [if_pos (sortable_pr xs), List.map_mergeSort (s := dle) (fun a _ b _ => (dle_pr a b).symm)]
theorem sort_filter (p : Pr → Bool) (l : List Pr) : (l.filter p).mergeSort leP = (l.mergeSort leP).filter p := by
  refine List.Perm.eq_of_pairwise (le := fun a b => leP a b = true) (fun a b _ _ h1 h2 => leP_anti h1 h2) (List.pairwise_mergeSort leP_trans leP_total _) ((List.pairwise_mergeSort leP_trans leP_total _).filter _) ?_
  exact (List.mergeSort_perm _ _).trans ((List.mergeSort_perm l leP).symm.filter p)
def allL (n : Net) : List Pr := (List.range n.m).flatMap fun (st : Nat) => (rowOf n.e st).map fun x => (x, (st : Int))
def links (n : Net) : List Pr := (allL n).mergeSort leP
def clearL (n : Net) (snd : List Int) : List Pr := (links n).filter fun p => hv n.e p.2 snd == p.1
theorem rising_lt : ∀ {ns : List Int}, rising ns = true → ns.Pairwise (· < ·)
  | [], _ => List.Pairwise.nil
  | [a], _ => by simp
  | a :: b :: r, h => by
    have h' : (decide (a < b) && rising (b :: r)) = true := by
      unfold rising at h ⊢
      simpa using h
    rw [Bool.and_eq_true] at h'
    have ih := rising_lt h'.2
    have hab : a < b := of_decide_eq_true h'.1
    rw [List.pairwise_cons]
    refine ⟨fun x hx => ?_, ih⟩
    rcases List.mem_cons.mp hx with rfl | hx
    · exact hab
    · have := (List.pairwise_cons.mp ih).1 x hx
      omega
theorem rising_of : ∀ {ns : List Int}, ns.Pairwise (· < ·) → rising ns = true
  | [], _ => rfl
  | [a], _ => rfl
  | a :: b :: r, h => by
    have ih := rising_of (List.pairwise_cons.mp h).2
    have hab := (List.pairwise_cons.mp h).1 b List.mem_cons_self
    unfold rising at ih ⊢
    simp at ih ⊢
    exact ⟨hab, ih⟩
theorem nodup_lt {ns : List Int} (h : ns.Pairwise (· < ·)) : ns.Nodup := h.imp fun h => by omega
theorem filter_eq_one {ns : List Int} (h : ns.Nodup) {x : Int} (hx : x ∈ ns) : ns.filter (fun y => x == y) = [x] := by
  induction ns with
  | nil => cases hx
  | cons a r ih =>
    rw [List.nodup_cons] at h
    by_cases e : x = a
    · subst e
      rw [List.filter_cons_of_pos (by simp)]
      congr 1
      rw [List.filter_eq_nil_iff]
      intro y hy q
      have : x = y := by simpa using q
      subst this
      exact h.1 hy
    · rw [List.filter_cons_of_neg (by simpa using e)]
      rcases List.mem_cons.mp hx with q | q
      · exact absurd q e
      · exact ih h.2 q
theorem hv_mem {e : List (List Int)} {st : Int} {snd : List Int} (h : 0 ≤ hv e st snd) : hv e st snd ∈ rowOf e st := by
  unfold hv at h ⊢
  split at h
  · omega
  · rename_i c
    rw [if_neg c]
    split at h
    · omega
    · rename_i x q
      have : x ∈ (rowOf e st).filter (fun x => decide (x ∈ snd)) := by rw [q]; exact List.mem_cons_self
      exact (List.mem_filter.mp this).1
    · omega
section
variable {n : Net} {snd : List Int}
theorem row_ok (O : n.Ok) {i : Int} (h0 : 0 ≤ i) (h1 : i < n.m) : (∀ x ∈ rowOf n.e i, 0 ≤ x ∧ x < (n.m : Int) ∧ x ≠ i) ∧ rising (rowOf n.e i) = true := by
  have h := O.row _ _ (row_get O h0 h1)
  refine ⟨fun x hx => ?_, h.2⟩
  have := h.1 x hx
  rw [Int.toNat_of_nonneg h0] at this
  exact this
theorem row_nd (O : n.Ok) {i : Int} (h0 : 0 ≤ i) (h1 : i < n.m) : (rowOf n.e i).Nodup := nodup_lt (rising_lt (row_ok O h0 h1).2)
theorem mem_allL (O : n.Ok) {a b : Int} : (a, b) ∈ allL n ↔ 0 ≤ b ∧ b < n.m ∧ a ∈ rowOf n.e b := by
  unfold allL
  simp only [List.mem_flatMap, List.mem_range, List.mem_map, Prod.mk.injEq]
  constructor
  · rintro ⟨st, h1, x, hx, rfl, rfl⟩
    exact ⟨by omega, by omega, hx⟩
  · rintro ⟨h0, h1, h2⟩
    exact ⟨b.toNat, by omega, a, by rw [Int.toNat_of_nonneg h0]; exact h2, rfl, by omega⟩
theorem mem_links (O : n.Ok) {a b : Int} : (a, b) ∈ links n ↔ 0 ≤ b ∧ b < n.m ∧ a ∈ rowOf n.e b := by
  unfold links
  rw [List.mem_mergeSort]
  exact mem_allL O
/-- the links that are heard, listener by listener -/
def heardL (n : Net) (snd : List Int) : List Pr := (List.range n.m).filterMap fun (st : Nat) => if 0 ≤ hv n.e st snd then some (hv n.e st snd, (st : Int)) else none
theorem heardL_eq (O : n.Ok) : heardL n snd = (allL n).filter fun p => hv n.e p.2 snd == p.1 := by
  have key : ∀ l : List Nat, (∀ i ∈ l, i < n.m) → l.filterMap (fun (st : Nat) => if 0 ≤ hv n.e st snd then some (hv n.e st snd, (st : Int)) else none) = (l.flatMap fun (st : Nat) => (rowOf n.e st).map fun x => (x, (st : Int))).filter fun p => hv n.e p.2 snd == p.1 := by
    intro l
    induction l with
    | nil => intro _; rfl
    | cons a r ih =>
      intro h
      have ih := ih fun i hi => h i (List.mem_cons_of_mem _ hi)
      have ha := h a List.mem_cons_self
      have nd := row_nd O (i := (a : Int)) (by omega) (by omega)
      have nn := (row_ok O (i := (a : Int)) (by omega) (by omega)).1
      rw [List.flatMap_cons, List.filter_append, ← ih]
      have e : ((rowOf n.e a).map fun x => (x, (a : Int))).filter (fun p => hv n.e p.2 snd == p.1) = ((rowOf n.e a).filter fun x => hv n.e a snd == x).map fun x => (x, (a : Int)) := by
        rw [List.filter_map]
        rfl
      rw [e]
      by_cases c : 0 ≤ hv n.e a snd
      · rw [filter_eq_one nd (hv_mem c), List.filterMap_cons_some (by rw [if_pos c])]
        rfl
      · have e2 : (rowOf n.e a).filter (fun x => hv n.e a snd == x) = [] := by
          rw [List.filter_eq_nil_iff]
          intro x hx q
          have := eq_of_beq q
          have := (nn x hx).1
          omega
        rw [e2, List.filterMap_cons_none (by rw [if_neg c])]
        rfl
  exact key _ fun i hi => List.mem_range.mp hi
theorem clear_sort (O : n.Ok) : (heardL n snd).mergeSort leP = clearL n snd := by
  rw [heardL_eq O, sort_filter]
  rfl
end
section
variable {F k : Nat} {S : Store} {Q : Av → Store → Prop} {R : Str → D → Store → Prop} {n : Net} {snd : List Int}
theorem range_get {m i : Nat} {x : D} (h : (rngI 0 m)[i]? = some x) : i < m ∧ x = .int (i : Int) := by
  rw [rngI_0, List.getElem?_map] at h
  by_cases hi : i < m
  · rw [List.getElem?_range hi] at h
    exact ⟨hi, (Option.some.inj h).symm⟩
  · rw [List.getElem?_eq_none (by simp; omega)] at h
    cases h
def heardTo (n : Net) (snd : List Int) (i : Nat) : List Pr := (List.range i).filterMap fun (st : Nat) => if 0 ≤ hv n.e st snd then some (hv n.e st snd, (st : Int)) else none
theorem heardTo_len (i : Nat) : (heardTo n snd i).length ≤ i := by
  unfold heardTo
  have := List.length_filterMap_le (fun (st : Nat) => if 0 ≤ hv n.e st snd then some (hv n.e st snd, (st : Int)) else none) (List.range i)
  rwa [List.length_range] at this
end
end DL.P
end

section
/-! Mh: draws -/
namespace DL.P
open PySem DL
def rowS (sc : List Int) (p s x : Int) : Store := [.lst [.list (sc.map .int), .int p, .int s, .int x]]
def St (S : Store) : Prop := ∃ sc p s x, S = rowS sc p s x ∧ 0 ≤ p
def NoR : Str → D → Store → Prop := fun _ _ _ => False
section
variable {F k : Nat} {S : Store}
theorem sp_taken {many : Int} (h1 : 1 ≤ many) (h2 : many < 1073741824) (hS : St S) : Run (run tb F (k + 1) f__law_taken [.c 0, .d (.int many)]) S (fun v T => (∃ i, v = .d (.int i) ∧ 0 ≤ i ∧ i < many) ∧ St T) NoR := by
  obtain ⟨sc, p, s, x, rfl, hp⟩ := hS
  rw [run_eq (d := d__law_taken) rfl, run_callDef]
  have hm : ∀ a : Int, 0 ≤ a % many ∧ a % many < many := fun a => ⟨Int.emod_nonneg a (by omega), Int.emod_lt_of_pos a (by omega)⟩
  have h0 : 0 < many := by omega
  have c1 : (48271 : Int).natAbs < 2 ^ 64 := by decide
  have i1 : ixI 4 1 = some 1 := by decide
  have i2 : ixI 4 2 = some 2 := by decide
  have i3 : ixI 4 3 = some 3 := by decide
  have hS : ∀ (sc : List Int) (p s x : Int), 0 ≤ p → St [.lst [.list (sc.map .int), .int p, .int s, .int x]] := fun sc p s x h => ⟨sc, p, s, x, rfl, h⟩
  have p18 : powD2 (.int 10) (.int 18) = some (.int 1000000000000000000) := by rfl
  have p90 : powD2 (.int 10) (.int 90) = some (.int (10 ^ 90)) := by
    simp [powD2]
  have c2 : (0 : Int) < 10 ^ 90 := by decide +kernel
  by_cases hx : 0 < x
  · simp [d__law_taken, r_scons, env0, slotOf, DL.getD, getC, rowS, getI, op1, op2, gtD2, truth, asInt, intD1, modD2, fdivD2, h0, h2, hx, i3, hm, hS, hp]
  · simp [d__law_taken, r_scons, env0, slotOf, DL.getD, getC, rowS, getI, op1, op2, gtD2, truth, asInt, intD1, modD2, fdivD2, h0, h2, hx, i1, addD2, lenD1]
    by_cases hl : (sc.length : Int) < p + 1
    · simp [hl, i2, addD2, mulD2, hm, hS, show 0 ≤ p + 1 by omega, h0, h2]
    · have hg : getI (sc.map PyData.int) p = some (.int (sc[p.toNat]'(by omega))) := by
        rw [getI_nn hp, List.getElem?_map, List.getElem?_eq_getElem (by omega)]
        rfl
      have e1 : p + 1 - 1 = p := by omega
      generalize sc[p.toNat]'(by omega) = cell at hg
      simp [hl, i2, addD2, mulD2, subD2, idxD2, e1, hg, DL.getD, geD2, p18, p90, truth]
      by_cases hc : 1000000000000000000 ≤ cell
      · simp [hc, i3, hm, hS, c2, getC, asInt, show 0 ≤ p + 1 by omega, intD1, modD2, h0, h2, DL.getD]
      · simp [hc, hm, hS, show 0 ≤ p + 1 by omega, intD1, modD2, h0, h2, DL.getD]
end
end DL.P
end

section
/-! Mi: drawn items, rows, nets -/
namespace DL.P
open PySem DL
section
variable {F k : Nat} {S : Store}
theorem St.len (h : St S) : S.length = 1 := by
  obtain ⟨sc, p, s, x, rfl, _⟩ := h
  rfl
theorem St.tk (h : St S) {n : Nat} (hn : n = 1) : S.take n = S := by
  subst hn
  rw [← h.len]
  exact List.take_length
theorem getI_mem {α : Type} {xs : List α} {i : Int} (h0 : 0 ≤ i) (h1 : i < xs.length) : ∃ x ∈ xs, getI xs i = some x := by
  refine ⟨xs[i.toNat]'(by omega), List.getElem_mem _, ?_⟩
  rw [getI_nn h0, List.getElem?_eq_getElem (by omega)]
theorem sp_pick {xs : List D} (h1 : 1 ≤ xs.length) (h2 : xs.length ≤ 1000000) (hS : St S) : Run (run tb F (k + 2) f__law_pick [.c 0, .d (.list xs)]) S (fun v T => (∃ x ∈ xs, v = .d x) ∧ St T) NoR := by
  rw [run_eq (d := d__law_pick) rfl, run_callDef]
  simp [d__law_pick, r_scons, env0, slotOf, DL.getD, getC, op1, lenD1]
  refine (sp_taken (k := k) (F := F) (many := xs.length) (by omega) (by omega) hS).mono ?_ fun _ _ _ z => z
  rintro v T ⟨⟨i, rfl, i0, i1⟩, hT⟩
  obtain ⟨x, hx, e⟩ := getI_mem i0 i1
  simp [op2, idxD2, e, hx, hT.tk hS.len, hT]
theorem sp_pick_s {z : Str} (h1 : 1 ≤ z.length) (h2 : z.length ≤ 1000000) (hS : St S) : Run (run tb F (k + 2) f__law_pick [.c 0, .d (.str z)]) S (fun v T => (∃ c ∈ z.cps.toList, v = .d (chr c)) ∧ St T) NoR := by
  rw [run_eq (d := d__law_pick) rfl, run_callDef]
  have hz : z.length ≤ LIM := Nat.le_trans h2 (by decide)
  have hl : z.cps.toList.length = z.length := by simp [Str.length]
  simp [d__law_pick, r_scons, env0, slotOf, DL.getD, getC, op1, lenD1, hz]
  refine (sp_taken (k := k) (F := F) (many := z.length) (by omega) (by omega) hS).mono ?_ fun _ _ _ z => z
  rintro v T ⟨⟨i, rfl, i0, i1⟩, hT⟩
  obtain ⟨x, hx, e⟩ := getI_mem (xs := z.cps.toList) i0 (by rw [hl]; exact i1)
  have hx' : x ∈ z.cps := by simpa using hx
  simp [op2, idxD2, e, hT.tk hS.len, hT, hz]
  exact ⟨x, hx', rfl⟩
def pws : List Int := [1, 2, 4, 8, 16, 32, 64]
def pw (i : Int) : Int := (pws[i.toNat]?).getD 1
theorem pw_get {i : Int} (h0 : 0 ≤ i) (h1 : i < 7) : getI [PyData.int 1, .int 2, .int 4, .int 8, .int 16, .int 32, .int 64] i = some (.int (pw i)) ∧ 0 < pw i ∧ pw i < 1073741824 := by
  have h : i = 0 ∨ i = 1 ∨ i = 2 ∨ i = 3 ∨ i = 4 ∨ i = 5 ∨ i = 6 := by omega
  rcases h with rfl | rfl | rfl | rfl | rfl | rfl | rfl <;> exact ⟨rfl, by decide, by decide⟩
def bitB (b i : Int) : Bool := decide (b / pw i % 2 = 1)
def bitD (b : Int) : D → Bool
  | .int i => bitB b i
  | _ => false
/-- the numbers below m that hold p -/
def sub (m : Nat) (p : Int → Bool) : List Int := ((List.range m).map fun (i : Nat) => (i : Int)).filter p
theorem sub_row (m : Nat) (p : Int → Bool) : rowB (tupI (sub m p)) m = true := by
  have hp : ((List.range m).map fun (i : Nat) => (i : Int)).Pairwise (· < ·) := by
    rw [List.pairwise_map]
    exact List.pairwise_lt_range.imp fun h => by omega
  refine rowB_of ?_ (rising_of (hp.filter p))
  rw [List.all_eq_true]
  intro x hx
  obtain ⟨i, hi, rfl⟩ := List.mem_map.mp (List.mem_filter.mp hx).1
  have := List.mem_range.mp hi
  simp
  omega
theorem rng_filter (m : Nat) (p : D → Bool) : (rngI 0 m).filter p = (sub m fun i => p (.int i)).map .int := by
  unfold sub
  rw [rngI_0, List.filter_map, List.filter_map, List.map_map]
  rfl
theorem eqv_1 (a : Int) : PyData.eqv (.int a) (.int 1) = decide (a = 1) := by
  rw [eqv_int]
  rfl
theorem cps_append (a b : Str) : (a ++ b).cps = a.cps ++ b.cps := rfl
theorem join_cps : ∀ ss : List Str, (Str.join "" ss).cps.toList = (ss.map fun s => s.cps.toList).flatten
  | [] => rfl
  | [x] => by simp [Str.join]
  | x :: y :: r => by
    have ih := join_cps (y :: r)
    simp only [Str.join, cps_append, Array.toList_append, ih, List.map_cons, List.flatten_cons]
    simp
    rfl
theorem asStrs_map : ∀ xs : List Str, asStrs (xs.map .str) = some xs
  | [] => rfl
  | x :: xs => by simp [asStrs, asStrs_map xs]
theorem chrs_map (cs : List Nat) : cs.map chr = (cs.map fun c => (⟨#[c]⟩ : Str)).map .str := by
  rw [List.map_map]
  rfl
theorem chrs_len : ∀ cs : List Nat, ((cs.map fun c => (⟨#[c]⟩ : Str)).map (·.length)).sum = cs.length
  | [] => rfl
  | c :: cs => by
    have ih := chrs_len cs
    simp only [List.map_cons, List.sum_cons, ih]
    show 1 + cs.length = cs.length + 1
    omega
theorem chrs_flat : ∀ cs : List Nat, ((cs.map fun c => (⟨#[c]⟩ : Str)).map fun s => s.cps.toList).flatten = cs
  | [] => rfl
  | c :: cs => by
    have ih := chrs_flat cs
    simp only [List.map_cons, List.flatten_cons, ih]
    rfl
theorem join_chrs {cs : List Nat} (h : cs.length ≤ 1000) : ∃ z : Str, joinD2 (.str "") (.list (cs.map chr)) = some (.str z) ∧ z.cps.toList = cs := by
  refine ⟨Str.join "" (cs.map fun c => (⟨#[c]⟩ : Str)), ?_, ?_⟩
  · unfold joinD2
    simp only [chrs_map, asStrs_map, Option.bind_some, chrs_len]
    rw [if_pos]
    have h2 : LIM = 16777216 := rfl
    show cs.length + (cs.map fun c => (⟨#[c]⟩ : Str)).length * 0 ≤ LIM
    omega
  · rw [join_cps, chrs_flat]
end
end DL.P
end

section
/-! Mj: drawn nets -/
namespace DL.P
open PySem DL
theorem run_compA {env : Env} {tg : Tg} {cd : Env → M Bool} {elt : Env → M D} {R : Str → D → Store → Prop} (I : Store → Prop) (Y : D → Prop) : ∀ (xs : List D) {S : Store} {Q : List D → Store → Prop}, I S →
    (∀ x ∈ xs, ∀ S, I S → ∃ env', bind1 tg x env = some env' ∧ cd env' S = some (.ok true, S) ∧ Run (elt env') S (fun y V => I V ∧ Y y) (fun _ _ _ => False)) →
    (∀ ys T, ys.length = xs.length → (∀ y ∈ ys, Y y) → I T → Q ys T) → Run (compM env tg cd elt xs) S Q R
  | [], S, Q, hI, h, q => by
    simp only [compM, run_rt]
    exact q [] S rfl (fun y hy => by cases hy) hI
  | x :: xs, S, Q, hI, h, q => by
    obtain ⟨env', h1, h2, h3⟩ := h x List.mem_cons_self S hI
    simp only [compM, run_bnd, h1, run_lift_some, run_noerr, run_ite, run_ok h2, if_true, run_rt]
    refine h3.mono (fun y V ⟨hV, hy⟩ => ?_) fun _ _ _ z => z.elim
    exact run_compA I Y xs hV (fun z hz => h z (List.mem_cons_of_mem _ hz)) fun ys U hl hys hU => q (y :: ys) U (by simp [hl]) (fun z hz => by
      rcases List.mem_cons.mp hz with rfl | hz
      · exact hy
      · exact hys z hz) hU
theorem chrs_of {ys : List D} {p : Nat → Prop} (h : ∀ y ∈ ys, ∃ c, p c ∧ y = chr c) : ∃ cs : List Nat, ys = cs.map chr ∧ ∀ c ∈ cs, p c := by
  induction ys with
  | nil => exact ⟨[], rfl, fun c hc => by cases hc⟩
  | cons y ys ih =>
    obtain ⟨cs, h1, h2⟩ := ih fun z hz => h z (List.mem_cons_of_mem _ hz)
    obtain ⟨c, hc, e⟩ := h y List.mem_cons_self
    refine ⟨c :: cs, by rw [h1, e]; rfl, fun z hz => ?_⟩
    rcases List.mem_cons.mp hz with rfl | hz
    · exact hc
    · exact h2 z hz
section
variable {F k : Nat} {S : Store}
/-- labels of m letters -/
def Lab (m : Nat) (z : Str) : Prop := z.length = m ∧ lettersB (.str z) = true
theorem lab_of {z : Str} {cs : List Nat} (h : z.cps.toList = cs) (hp : ∀ c ∈ cs, c ∈ abc) : Lab cs.length z := by
  refine ⟨?_, ?_⟩
  · rw [← h]; simp [Str.length]
  · unfold lettersB
    simp only [h]
    rw [List.all_eq_true]
    intro c hc
    exact decide_eq_true (hp c hc)
def okRows (m : Nat) (rows : List (List Int)) : Prop := ∀ (i : Nat) (r : List Int), rows[i]? = some r → (∀ x ∈ r, 0 ≤ x ∧ x < (m : Int) ∧ x ≠ (i : Int)) ∧ rising r = true
def andG (b : Int) (i : Nat) : D → Bool
  | .int x => !decide (x = (i : Int)) && bitB b x
  | _ => false
def alphs : List Str := ["ab", "abc", "abcdefg", "gfedcba", "a"]
theorem alphs_ok : ∀ z ∈ alphs, 1 ≤ z.length ∧ z.length ≤ 1000000 ∧ ∀ c ∈ z.cps.toList, c ∈ abc := by decide +kernel
def cut7 (m : Nat) : Str := ⟨((("cgbeafd" : Str).cps.toList).take m).toArray⟩
theorem cut7_ok : ∀ m, m ≤ 7 → Lab m (cut7 m) := by
  intro m h
  have : m = 0 ∨ m = 1 ∨ m = 2 ∨ m = 3 ∨ m = 4 ∨ m = 5 ∨ m = 6 ∨ m = 7 := by omega
  unfold Lab
  rcases this with rfl | rfl | rfl | rfl | rfl | rfl | rfl | rfl <;> exact ⟨by decide +kernel, by decide +kernel⟩
def ssDrop : Nat → Ss → Ss
  | 0, s => s
  | n + 1, .cons _ r => ssDrop n r
  | _ + 1, .nil => .nil
def encR (r : List Int) : D := .tuple (r.map .int)
theorem sub_mem {m : Nat} {p : Int → Bool} {x : Int} (h : x ∈ sub m p) : 0 ≤ x ∧ x < (m : Int) := by
  obtain ⟨i, hi, rfl⟩ := List.mem_map.mp (List.mem_filter.mp h).1
  have := List.mem_range.mp hi
  omega
theorem sub_lt (m : Nat) (p : Int → Bool) : (sub m p).Pairwise (· < ·) := by
  have hp : ((List.range m).map fun (i : Nat) => (i : Int)).Pairwise (· < ·) := by
    rw [List.pairwise_map]
    exact List.pairwise_lt_range.imp fun h => by omega
  exact hp.filter p
theorem net_tail {m : Nat} {zl : Str} {most a4 a5 : Option Slot} (m1 : 1 ≤ m) (m7 : m ≤ 7) (lz : Lab m zl) {T : Store} (hT : St T) :
    Run (evSs ⟨run tb F (k + 2), F⟩ (ssDrop 4 d__law_net.body) [some (.cel 0), most, some (.dat (.int m)), some (.dat (.str zl)), a4, a5, some (.own []), none, none, none, none]) T (fun f U => ∃ n : Net, f = .ret (.d n.d) ∧ n.Ok ∧ n.m = m ∧ St U) NoR := by
  have hr : ((m : Int) ≤ LIM ∧ -(LIM : Int) ≤ m) := by
    have h2 : LIM = 16777216 := rfl
    omega
  simp only [d__law_net, ssDrop]
  rw [r_scons]
  simp [DL.getD, asInt, hr.1, hr.2]
  refine run_for _ (fun i env U => St U ∧ ∃ (rows : List (List Int)) (a4 a7 a8 a9 a10 : Option Slot), rows.length = i ∧ okRows m rows ∧ env = [some (.cel 0), most, some (.dat (.int m)), some (.dat (.str zl)), a4, a5, some (.own (rows.map encR)), a7, a8, a9, a10])
    ⟨hT, [], _, _, _, _, _, rfl, fun i r h => by simp at h, rfl⟩ ?_ ?_
  · rintro i x hx env U ⟨hU, rows, b4, b7, b8, b9, b10, hlen, hrows, rfl⟩
    obtain ⟨hi, rfl⟩ := range_get hx
    refine ⟨_, rfl, ?_⟩
    rw [r_scons]
    simp [getC]
    refine (sp_taken (k := k + 1) (F := F) (many := 128) (by omega) (by omega) hU).mono ?_ fun _ _ _ z => z.elim
    rintro v U1 ⟨⟨bits, rfl, _, _⟩, hU1⟩
    simp [getC]
    refine (sp_taken (k := k + 1) (F := F) (many := 2) (by omega) (by omega) hU1).mono ?_ fun _ _ _ z => z.elim
    rintro v U2 ⟨⟨coin, rfl, _, _⟩, hU2⟩
    have fin : ∀ (thin : Int) (V : Store), St V → Run (evSs ⟨run tb F (k + 2), F⟩ (ssDrop 1 (match (ssDrop 4 d__law_net.body) with
        | .cons (.fr _ _ b) _ => b
        | _ => .nil)) [some (.cel 0), most, some (.dat (.int m)), some (.dat (.str zl)), some (.dat (.int (i : Int))), a5, some (.own (rows.map encR)), b7, some (.dat (.int bits)), some (.dat (.int thin)), b10]) V
        (fun f T => match f with
          | .next e => St T ∧ ∃ (rows : List (List Int)) (a4 a7 a8 a9 a10 : Option Slot), rows.length = i + 1 ∧ okRows m rows ∧ e = [some (.cel 0), most, some (.dat (.int m)), some (.dat (.str zl)), a4, a5, some (.own (rows.map encR)), a7, a8, a9, a10]
          | _ => False) NoR := by
      intro thin V hV
      simp only [d__law_net, ssDrop]
      rw [r_scons]
      simp [DL.getD, asInt, hr.1, hr.2]
      rw [run_comp (bitD bits) id]
      · rw [rng_filter, List.map_id]
        try dsimp only
        rw [r_scons]
        simp [getO]
        rw [r_scons]
        have hlim : rows.length < LIM := by
          have h2 : LIM = 16777216 := rfl
          omega
        simp [getO, DL.getD, items]
        rw [run_comp (andG thin i) id]
        · rw [filter_ints, List.map_id]
          simp [op1, tupleD1, hlim]
          refine ⟨hV, rows ++ [(sub m fun i => bitD bits (.int i)).filter fun x => andG thin i (.int x)], by simp [hlen], fun j r hj => ?_, by simp [encR]⟩
          by_cases hj2 : j < rows.length
          · rw [List.getElem?_append_left hj2] at hj
            exact hrows j r hj
          · rw [List.getElem?_append_right (by omega)] at hj
            have hz : j - rows.length = 0 := by
              have := (List.getElem?_eq_some_iff.mp hj).1
              simp at this
              omega
            rw [hz] at hj
            have hj : (sub m fun i => bitD bits (.int i)).filter (fun x => andG thin i (.int x)) = r := Option.some.inj hj
            subst hj
            have hji : j = i := by omega
            subst hji
            refine ⟨fun x hx => ?_, rising_of ((sub_lt m _).filter _)⟩
            obtain ⟨x1, x2⟩ := List.mem_filter.mp hx
            obtain ⟨y1, y2⟩ := sub_mem x1
            refine ⟨y1, y2, fun z => ?_⟩
            subst z
            simp [andG] at x2
        · intro x hx
          obtain ⟨y, hy, rfl⟩ := List.mem_map.mp hx
          obtain ⟨y1, y2⟩ := sub_mem hy
          obtain ⟨g1, g2, g3⟩ := pw_get y1 (by omega)
          refine ⟨_, rfl, ?_, fun _ => ?_⟩
          · apply eq_ok
            by_cases c : y = (i : Int)
            · simp [wipeE, DL.getD, op2, neD2, dep_int, eqv_int, truth, andG, c]
            · have c' : (y == (i : Int)) = false := by simpa using c
              simp [wipeE, DL.getD, op1, op2, neD2, idxD2, g1, fdivD2, g2, g3, intD1, modD2, eqD2, dep_int, eqv_1, eqv_int, truth, andG, bitB, c, c']
              rfl
          · apply eq_ok
            simp [wipeE, DL.getD]
      · intro x hx
        obtain ⟨y, rfl, y1, y2⟩ := range_mem hx
        obtain ⟨g1, g2, g3⟩ := pw_get y1 (by omega)
        refine ⟨_, rfl, ?_, fun _ => ?_⟩
        · apply eq_ok
          simp [wipeE, DL.getD, op1, op2, idxD2, g1, fdivD2, g2, g3, intD1, modD2, eqD2, dep_int, eqv_1, truth, bitD, bitB]
        · apply eq_ok
          simp [wipeE, DL.getD]
    simp [op2, eqD2, dep_int, eqv_int, truth]
    by_cases c : coin = 0
    · simp only [c, if_true]
      refine (sp_taken (k := k + 1) (F := F) (many := 128) (by omega) (by omega) hU2).mono ?_ fun _ _ _ z => z.elim
      rintro v U3 ⟨⟨thin, rfl, _, _⟩, hU3⟩
      refine (fin thin U3 hU3).mono (fun f V q => ?_) fun _ _ _ z => z
      cases f with
      | next e' =>
        obtain ⟨q1, rows', c4, c7, c8, c9, c10, q2, q3, q4⟩ := q
        exact ⟨q1, rows', q2, q3, _, _, _, _, _, q4⟩
      | _ => exact q.elim
    · simp only [c, if_false]
      refine (fin 127 U2 hU2).mono (fun f V q => ?_) fun _ _ _ z => z
      cases f with
      | next e' =>
        obtain ⟨q1, rows', c4, c7, c8, c9, c10, q2, q3, q4⟩ := q
        exact ⟨q1, rows', q2, q3, _, _, _, _, _, q4⟩
      | _ => exact q.elim
  · rintro env U ⟨hU, rows, b4, b7, b8, b9, b10, hlen, hrows, rfl⟩
    rw [rngI_0, List.length_map, List.length_range] at hlen
    dsimp only
    rw [r_scons]
    simp [DL.getD, getO, op1, tupleD1]
    refine ⟨⟨zl, rows⟩, rfl, ⟨?_, ?_, ?_, lz.2, fun i r h => ?_⟩, lz.1, hU⟩
    · rw [hlen]; exact lz.1.symm
    · show 1 ≤ zl.length
      rw [lz.1]; exact m1
    · show zl.length ≤ 7
      rw [lz.1]; exact m7
    · have := hrows i r h
      show (∀ x ∈ r, 0 ≤ x ∧ x < (zl.length : Int) ∧ x ≠ i) ∧ _
      rw [lz.1]
      exact this
theorem sp_net {most : Nat} (hm1 : 1 ≤ most) (hm7 : most ≤ 7) (hS : St S) : Run (run tb F (k + 3) f__law_net [.c 0, .d (.int most)]) S (fun v T => (∃ n : Net, n.Ok ∧ n.m ≤ most ∧ v = .d n.d) ∧ St T) NoR := by
  rw [run_eq (d := d__law_net) rfl, run_callDef]
  refine ⟨rfl, ?_⟩
  simp only [d__law_net]
  -- many
  rw [r_scons]
  simp [env0, slotOf, DL.getD, getC]
  refine (sp_taken (k := k + 1) (F := F) (many := most) (by omega) (by omega) hS).mono ?_ fun _ _ _ z => z
  rintro v T ⟨⟨b, rfl, b0, b1⟩, hT⟩
  simp [op2, addD2]
  obtain ⟨m, e, m1, m7⟩ : ∃ m : Nat, 1 + b = (m : Int) ∧ 1 ≤ m ∧ m ≤ most := ⟨(1 + b).toNat, by omega, by omega, by omega⟩
  rw [e]
  -- letters, ears
  rw [r_scons]
  simp [getC]
  refine (sp_pick (k := k) (F := F) (by decide) (by decide) hT).mono ?_ fun _ _ _ z => z
  rintro v T1 ⟨⟨x, hx, rfl⟩, hT1⟩
  obtain ⟨z, hz, rfl⟩ : ∃ z ∈ alphs, x = .str z := by
    have hx : x ∈ alphs.map .str := hx
    obtain ⟨z, hz, e⟩ := List.mem_map.mp hx
    exact ⟨z, hz, e.symm⟩
  obtain ⟨z1, z2, z3⟩ := alphs_ok z hz
  have hr : ((m : Int) ≤ LIM ∧ -(LIM : Int) ≤ m) := by
    have h2 : LIM = 16777216 := rfl
    omega
  -- labels
  dsimp only
  rw [r_scons]
  simp [DL.getD, asInt, hr.1, hr.2]
  refine run_compA St (fun y => ∃ c, c ∈ abc ∧ y = chr c) _ hT1 (fun y hy U hU => ?_) fun ys T2 hl hys hT2 => ?_
  · obtain ⟨i, rfl, i0, i1⟩ := range_mem hy
    refine ⟨_, rfl, rfl, ?_⟩
    simp [wipeE, DL.getD, getC]
    refine (sp_pick_s (k := k) (F := F) z1 z2 hU).mono ?_ fun _ _ _ z => z
    rintro v V ⟨⟨c, hc, rfl⟩, hV⟩
    exact ⟨hV, c, z3 c hc, rfl⟩
  obtain ⟨cs, rfl, hcs⟩ := chrs_of hys
  have hcl : cs.length = m := by
    rw [rngI_0] at hl
    simpa using hl
  obtain ⟨zl, j1, j2⟩ := join_chrs (cs := cs) (by omega)
  have lz : Lab m zl := by
    rw [← hcl]
    exact lab_of j2 hcs
  have j1' : op2 .join (.str "") (.list (cs.map chr)) = some (.str zl) := j1
  simp [j1']
  -- perhaps other labels
  try dsimp only
  rw [r_scons]
  simp [getC]
  refine (sp_taken (k := k + 1) (F := F) (many := 3) (by omega) (by omega) hT2).mono ?_ fun _ _ _ z => z
  rintro v T3 ⟨⟨b3, rfl, _, _⟩, hT3⟩
  simp [op2, eqD2, dep_int, eqv_int, truth]
  have fin : ∀ (zl : Str) (V : Store), Lab m zl → St V → Run (evSs ⟨run tb F (k + 2), F⟩ (ssDrop 4 d__law_net.body) [some (.cel 0), some (.dat (.int most)), some (.dat (.int m)), some (.dat (.str zl)), none, some (.dat (.str z)), some (.own []), none, none, none, none]) V
      (fun f T => match f with
        | Fl.ret (Av.d x) => (∃ n : Net, n.Ok ∧ n.m ≤ most ∧ x = n.d) ∧ St (List.take (List.length S) T)
        | Fl.ret (Av.c r) => False
        | Fl.next env => (∃ n : Net, n.Ok ∧ n.m ≤ most ∧ PyData.none = n.d) ∧ St (List.take (List.length S) T)
        | x => False) (fun c x T => NoR c x (List.take (List.length S) T)) := by
    intro zl V hl hV
    refine (net_tail m1 (by omega) hl hV).mono ?_ fun _ _ _ z => z.elim
    rintro f U ⟨n, rfl, hn, hm, hU⟩
    exact ⟨⟨n, hn, by omega, rfl⟩, by rw [hU.tk hS.len]; exact hU⟩
  by_cases c : b3 = 0
  · simp only [c, if_true]
    rw [r_scons]
    have e7 : cut ("cgbeafd" : Str).cps.toList none (some (m : Int)) = (("cgbeafd" : Str).cps.toList).take m := cut_take _ _
    have e8 : slice (.str "cgbeafd") none (some (m : Int)) = some (.str (cut7 m)) := by
      unfold slice
      simp only
      rw [if_pos (by decide), e7]
      rfl
    simp [DL.getD, asInt, e8]
    exact fin _ _ (cut7_ok m (by omega)) hT3
  · simp only [c, if_false]
    exact fin _ _ lz hT3
end
end DL.P
end

section
/-! Mk: alike, links, what the law itself reckons -/
namespace DL.P
open PySem DL
section
variable {F k : Nat} {S : Store} {Q : Av → Store → Prop} {R : Str → D → Store → Prop} {n : Net} {snd : List Int}
def AlA : D → Prop
  | .int _ => True
  | .bool _ => True
  | .none => True
  | .str _ => True
  | _ => False
theorem dep_atom {d : D} (h : AlA d) : PyData.depth d = 0 := by
  cases d <;> first | (simp [PyData.depth]; done) | exact h.elim
theorem eqv_atom {d : D} (h : AlA d) : PyData.eqv d d = true := by
  cases d <;> first | (simp [PyData.eqv]; done) | exact h.elim
theorem sp_alike_a {d : D} (h : AlA d) : run tb F (k + 1) f__law_alike [.d d, .d d] S = some (.ok (.d (.bool true)), S) := by
  rw [run_eq (d := d__law_alike) rfl]
  apply eq_ok
  rw [run_callDef]
  have h1 := dep_atom h
  have h2 := eqv_atom h
  cases d with
  | int i => simp [d__law_alike, r_scons, env0, slotOf, DL.getD, op1, op2, isID1, isTy, truth, isNoneD1, asB, eqD2, h1, h2, PyData.depth, PyData.eqv]
  | bool i => simp [d__law_alike, r_scons, env0, slotOf, DL.getD, op1, op2, isID1, isTy, truth, isNoneD1, asB, eqD2, h1, h2, PyData.depth, PyData.eqv]
  | none => simp [d__law_alike, r_scons, env0, slotOf, DL.getD, op1, op2, isID1, isTy, truth, isNoneD1, asB, eqD2, h1, h2, PyData.depth, PyData.eqv]
  | str i => simp [d__law_alike, r_scons, env0, slotOf, DL.getD, op1, op2, isID1, isTy, truth, isNoneD1, asB, eqD2, h1, h2, PyData.depth, PyData.eqv]
  | _ => exact h.elim
/-- a tuple, its items alike themselves -/
theorem sp_alike_t {xs : List D} {j : Nat} (hl : xs.length ≤ 1000000) (h : ∀ x ∈ xs, ∀ (k : Nat) (S : Store), run tb F (k + j) f__law_alike [.d x, .d x] S = some (.ok (.d (.bool true)), S)) :
    run tb F (k + j + 1) f__law_alike [.d (.tuple xs), .d (.tuple xs)] S = some (.ok (.d (.bool true)), S) := by
  rw [run_eq (d := d__law_alike) rfl]
  apply eq_ok
  rw [run_callDef]
  have hr : ((xs.length : Int) ≤ LIM ∧ -(LIM : Int) ≤ xs.length) := by
    have h2 : LIM = 16777216 := rfl
    omega
  simp [d__law_alike, r_scons, env0, slotOf, DL.getD, op1, op2, isID1, isTy, truth, asB, lenD1, neD2, dep_int, eqv_int, asInt, hr.1, hr.2]
  rw [run_comp (fun _ => false) id]
  · have e0 : (rngI 0 xs.length).filter (fun _ => false) = [] := by simp
    rw [e0]
    simp [eqD2, PyData.depth, PyData.depthAll, PyData.eqv, PyData.eqvAll]
  · intro x hx
    obtain ⟨i, rfl, i0, i1⟩ := range_mem hx
    obtain ⟨y, hy, e⟩ := getI_mem (xs := xs) i0 i1
    refine ⟨_, rfl, ?_, fun z => nomatch z⟩
    apply eq_ok
    simp [wipeE, DL.getD, op2, idxD2, e, run_ok (h y hy k _), truth]
theorem sp_alike_ints {ns : List Int} (hl : ns.length ≤ 1000000) : run tb F (k + 2) f__law_alike [.d (tupI ns), .d (tupI ns)] S = some (.ok (.d (.bool true)), S) :=
  sp_alike_t (j := 1) (by rw [List.length_map]; exact hl) fun x hx k S => by
    obtain ⟨i, _, rfl⟩ := List.mem_map.mp hx
    exact sp_alike_a trivial
theorem sp_alike_prs {ns : List Pr} (hl : ns.length ≤ 1000000) : run tb F (k + 3) f__law_alike [.d (.tuple (ns.map pr)), .d (.tuple (ns.map pr))] S = some (.ok (.d (.bool true)), S) :=
  sp_alike_t (j := 2) (by rw [List.length_map]; exact hl) fun x hx k S => by
    obtain ⟨p, _, rfl⟩ := List.mem_map.mp hx
    exact sp_alike_ints (ns := [p.1, p.2]) (by simp)
theorem sp_hears (O : n.Ok) {st : Int} (h0 : 0 ≤ st) (h1 : st < n.m) : run tb F (k + 1) f__law_hears [.d n.d, .d (.int st), .d (tupI snd)] S = some (.ok (.d (.int (hv n.e st snd))), S) := by
  rw [run_eq (d := d__law_hears) rfl]
  apply eq_ok
  rw [run_callDef]
  have g := row_getD O h0 h1
  simp [d__law_hears, r_scons, env0, slotOf, DL.getD, getO, op1, op2, tupI, innD2, dep_int, isIn_int, truth, Net.d, idxD2, g, items, negD1]
  by_cases c : st ∈ snd
  · simp [c, hv]
  · simp only [c, if_false]
    rw [run_comp (inG snd) id]
    · rw [filter_ints, List.map_id]
      have e : (List.filter (fun x => inG snd (PyData.int x)) (rowOf n.e st)) = (rowOf n.e st).filter (fun x => decide (x ∈ snd)) := rfl
      rw [e]
      unfold hv
      rw [if_neg c]
      cases hr : (rowOf n.e st).filter (fun x => decide (x ∈ snd)) with
      | nil => simp [DL.getD, getO, op1, op2, lenD1, eqD2, dep_int, eqv_int, truth, PyData.depth, PyData.depthAll, PyData.eqv, PyData.eqvAll, r_scons]
      | cons x r =>
        cases r with
        | nil => simp [DL.getD, getO, op1, lenD1, eqD2, dep_int, eqv_int, truth, op2, idxD2, PyData.depth, PyData.depthAll, PyData.eqv, PyData.eqvAll, r_scons]
        | cons y r =>
          have h3 : (((r.length : Int) + 1 + 1) == 1) = false := by
            simp
            omega
          simp [DL.getD, getO, op1, lenD1, eqD2, dep_int, eqv_int, truth, op2, h3, PyData.depth, PyData.depthAll, PyData.eqv, PyData.eqvAll, r_scons]
    · intro x hx
      obtain ⟨i, hi, rfl⟩ := List.mem_map.mp hx
      refine ⟨_, rfl, ?_, fun _ => ?_⟩
      · apply eq_ok
        simp [wipeE, DL.getD, op2, innD2, dep_int, isIn_int, truth, inG]
      · apply eq_ok
        simp [wipeE, DL.getD]
end
end DL.P
end

section
/-! Ml: links told, spoilers -/
namespace DL.P
open PySem DL
section
variable {F k : Nat} {S : Store} {Q : Av → Store → Prop} {R : Str → D → Store → Prop} {n : Net} {snd : List Int}
theorem lt_len : ∀ {ns : List Int} {a m : Int}, ns.Pairwise (· < ·) → (∀ x ∈ ns, a ≤ x ∧ x < m) → (ns.length : Int) ≤ max 0 (m - a)
  | [], a, m, _, _ => by simp; omega
  | x :: r, a, m, hp, h => by
    have h1 := h x List.mem_cons_self
    have ih := lt_len (a := x + 1) (m := m) (List.pairwise_cons.mp hp).2 fun y hy => by
      have := (List.pairwise_cons.mp hp).1 y hy
      have := h y (List.mem_cons_of_mem _ hy)
      omega
    simp only [List.length_cons]
    omega
theorem row_len (O : n.Ok) {i : Int} (h0 : 0 ≤ i) (h1 : i < n.m) : (rowOf n.e i).length ≤ 7 := by
  obtain ⟨a, b⟩ := row_ok O h0 h1
  have := lt_len (rising_lt b) (a := 0) (m := n.m) fun x hx => ⟨(a x hx).1, (a x hx).2.1⟩
  have := O.m7
  omega
def allTo (n : Net) (i : Nat) : List Pr := (List.range i).flatMap fun (st : Nat) => (rowOf n.e st).map fun x => (x, (st : Int))
theorem allTo_succ (i : Nat) : allTo n (i + 1) = allTo n i ++ (rowOf n.e i).map fun x => (x, (i : Int)) := by
  unfold allTo
  rw [List.range_succ, List.flatMap_append]
  simp
theorem allTo_len (O : n.Ok) : ∀ i, i ≤ n.m → (allTo n i).length ≤ 7 * i
  | 0, _ => by simp [allTo]
  | i + 1, h => by
    have := allTo_len O i (by omega)
    have := row_len O (i := (i : Int)) (by omega) (by omega)
    rw [allTo_succ, List.length_append, List.length_map]
    omega
theorem links_len (O : n.Ok) : (links n).length ≤ 49 := by
  unfold links
  rw [List.length_mergeSort]
  have := allTo_len O n.m (Nat.le_refl _)
  have := O.m7
  have e : allL n = allTo n n.m := rfl
  rw [e]
  omega
def mkPr (i : Int) : D → D
  | .int x => pr (x, i)
  | _ => .none
theorem sp_links (O : n.Ok) : run tb F (k + 1) f__law_links [.d n.d] S = some (.ok (.d (.list ((links n).map pr))), S) := by
  rw [run_eq (d := d__law_links) rfl]
  apply eq_ok
  rw [run_callDef]
  have hl := O.lim
  have hr := rng_ok O
  simp [d__law_links, r_scons, env0, slotOf, DL.getD]
  simp [Net.d, op1, op2, idxD2, lenD1, hm n, hl, asInt, hr.1, hr.2]
  refine run_for _ (fun i env T => T = S ∧ ∃ a2 a3, env = [some (.dat n.d), some (.dat (.list ((allTo n i).map pr))), a2, a3]) ⟨rfl, none, none, rfl⟩ ?_ ?_
  · rintro i x hx env T ⟨rfl, a2, a3, rfl⟩
    obtain ⟨hi, rfl⟩ := range_get hx
    refine ⟨_, rfl, ?_⟩
    have g := row_getD O (i := (i : Int)) (by omega) (by omega)
    simp [r_scons, DL.getD, Net.d, op2, idxD2, g, tupI, items]
    rw [run_comp (fun _ => true) (mkPr i)]
    · rw [List.filter_eq_self.mpr (fun _ _ => rfl), List.map_map]
      have e : (mkPr i ∘ PyData.int) = fun x => pr (x, (i : Int)) := rfl
      have l1 := allTo_len O i (by omega)
      have l2 := row_len O (i := (i : Int)) (by omega) (by omega)
      have h7 := O.m7
      have hlim : (allTo n i).length + (rowOf n.e i).length ≤ LIM := by
        have h2 : LIM = 16777216 := rfl
        omega
      simp [e, addD2, hlim, allTo_succ]
    · intro x hx
      obtain ⟨y, hy, rfl⟩ := List.mem_map.mp hx
      refine ⟨_, rfl, rfl, fun _ => ?_⟩
      apply eq_ok
      simp [wipeE, DL.getD, mkPr, pr]
  · rintro env T ⟨rfl, a2, a3, rfl⟩
    have e : allTo n (rngI 0 n.m).length = allL n := by
      rw [rngI_0, List.length_map, List.length_range]
      rfl
    rw [e]
    simp [DL.getD, op1, sortedD1, sort_pr, links]
def spoB (n : Net) (a b : Int) (x : Int) : Bool := !decide (x = a) && (decide (x = b) || decide (x ∈ rowOf n.e b))
def spoD (n : Net) (a b : Int) : D → Bool
  | .int x => spoB n a b x
  | _ => false
def spo (n : Net) (a b : Int) (snd : List Int) : List Int := snd.filter (spoB n a b)
theorem link_ok (O : n.Ok) {a b : Int} (h : (a, b) ∈ links n) : linkB n (pr (a, b)) = true := by
  obtain ⟨h0, h1, h2⟩ := (mem_links O).mp h
  have := (row_ok O h0 h1).1 a h2
  unfold linkB pr
  exact decide_eq_true ⟨by omega, by omega, by omega, by omega, h2⟩
theorem eqv_dec (a b : Int) : PyData.eqv (.int a) (.int b) = decide (a = b) := eqv_int a b
end
end DL.P
end

section
/-! Mm: k01: facts for the law -/
namespace DL.P
open PySem DL
section
variable {F k : Nat} {S : Store} {n : Net} {snd : List Int}
theorem netB_tupI (l : List Int) : netB (tupI l) = false := by
  unfold tupI netB
  split
  · rename_i e
    cases l with
    | nil => cases e
    | cons a r => cases e
  · rfl
theorem short_tupI (l : List Int) : short (tupI l) := by
  unfold tupI
  cases l <;> exact trivial
theorem rowB_tupI (l : List Int) (m : Int) : rowB (tupI l) m = ((l.all fun n => decide (0 ≤ n) && decide (n ≤ m - 1)) && rising l) := by
  unfold tupI rowB
  simp only [asInts_map]
def bads (m : Int) (snd : List Int) : List D := [tupI (snd ++ [m]), tupI (snd ++ [-1]), .list [.int 0], .none, .tuple [.int 0, .int 0], .tuple [.bool true], .tuple [.str "0"]]
theorem bads_ok {m : Int} {x : D} (h : x ∈ bads m snd) : rowB x m = false ∧ netB x = false ∧ short x := by
  unfold bads at h
  simp only [List.mem_cons, List.not_mem_nil, or_false] at h
  rcases h with rfl | rfl | rfl | rfl | rfl | rfl | rfl
  · refine ⟨?_, netB_tupI _, short_tupI _⟩
    rw [rowB_tupI]
    have : ((snd ++ [m]).all fun n => decide (0 ≤ n) && decide (n ≤ m - 1)) = false := by
      simp
      intro _ _
      omega
    rw [this, Bool.false_and]
  · refine ⟨?_, netB_tupI _, short_tupI _⟩
    rw [rowB_tupI]
    have : ((snd ++ [-1]).all fun n => decide (0 ≤ n) && decide (n ≤ m - 1)) = false := by
      simp
    rw [this, Bool.false_and]
  · exact ⟨rfl, rfl, trivial⟩
  · exact ⟨rfl, rfl, trivial⟩
  · refine ⟨?_, rfl, trivial⟩
    have := rowB_tupI [0, 0] m
    have e : rising [0, 0] = false := by decide
    rw [e, Bool.and_false] at this
    exact this
  · exact ⟨rfl, rfl, trivial⟩
  · exact ⟨rfl, rfl, by show (1 : Nat) ≤ LIM; decide⟩
theorem linkB_pr (O : n.Ok) (a b : Int) : linkB n (pr (a, b)) = true → (a, b) ∈ links n := by
  unfold linkB pr
  intro h
  have := of_decide_eq_true h
  exact (mem_links O).mpr ⟨this.2.2.1, by omega, this.2.2.2.2⟩
def swp (n : Net) : List D := ((links n).filter fun p => !decide ((p.2, p.1) ∈ links n)).map fun p => pr (p.2, p.1)
def wrongs (n : Net) : List D := [.tuple [.int 0, .int 0], .tuple [.int 0], .none, .tuple [.int n.m, .int 0], .list [.int 0, .int 0], .tuple [.int 0, .int 0, .int 0]] ++ swp n
theorem wrongs_ok (O : n.Ok) {x : D} (h : x ∈ wrongs n) : linkB n x = false := by
  unfold wrongs at h
  rw [List.mem_append] at h
  rcases h with h | h
  · simp only [List.mem_cons, List.not_mem_nil, or_false] at h
    rcases h with rfl | rfl | rfl | rfl | rfl | rfl
    · unfold linkB
      refine decide_eq_false fun z => ?_
      have h0 : (0 : Int) < n.m := by have := O.m1; omega
      exact ((row_ok O (Int.le_refl 0) h0).1 0 z.2.2.2.2).2.2 rfl
    · rfl
    · rfl
    · unfold linkB
      refine decide_eq_false fun z => ?_
      omega
    · rfl
    · rfl
  · unfold swp at h
    obtain ⟨p, hp, rfl⟩ := List.mem_map.mp h
    have h2 := (List.mem_filter.mp hp).2
    cases z : linkB n (pr (p.2, p.1)) with
    | false => rfl
    | true =>
      have := linkB_pr O _ _ z
      simp [this] at h2
theorem eqv_pr (p q : Pr) : PyData.eqv (pr p) (pr q) = decide (p = q) := by
  obtain ⟨a, b⟩ := p
  obtain ⟨c, d⟩ := q
  simp only [pr, PyData.eqv, PyData.eqvAll, Bool.and_true]
  by_cases h1 : a = c <;> by_cases h2 : b = d <;> simp [h1, h2]
theorem isIn_pr (p : Pr) : ∀ l : List Pr, isIn (pr p) (l.map pr) = decide (p ∈ l)
  | [] => by simp [isIn]
  | q :: l => by
    have ih := isIn_pr p l
    unfold isIn at ih ⊢
    simp only [List.map_cons, List.any_cons, ih, eqv_pr]
    by_cases h : q = p
    · simp [h]
    · have h2 : ¬ p = q := fun e => h e.symm
      simp [h, h2]
theorem dep_pr (p : Pr) : PyData.depth (pr p) = 1 := by simp [pr, PyData.depth, PyData.depthAll]
/-- a link is heard just if its speaker sends and none spoils it -/
theorem hears_spo (O : n.Ok) {a b : Int} (h : (a, b) ∈ links n) : ((a, b) ∈ clearL n snd) ↔ (a ∈ snd ∧ spo n a b snd = []) := by
  obtain ⟨h0, h1, h2⟩ := (mem_links O).mp h
  obtain ⟨r1, r2⟩ := row_ok O h0 h1
  have nd := row_nd O h0 h1
  have hab := (r1 a h2).2.2
  unfold clearL
  rw [List.mem_filter]
  simp only [h, true_and]
  constructor
  · intro e
    have e : hv n.e b snd = a := eq_of_beq e
    have ha0 := (r1 a h2).1
    unfold hv at e
    split at e
    · omega
    · rename_i hb
      split at e
      · omega
      · rename_i x q
        subst e
        have hm : x ∈ (rowOf n.e b).filter fun y => decide (y ∈ snd) := by rw [q]; exact List.mem_cons_self
        refine ⟨of_decide_eq_true (List.mem_filter.mp hm).2, ?_⟩
        unfold spo
        rw [List.filter_eq_nil_iff]
        intro y hy z
        unfold spoB at z
        simp at z
        obtain ⟨z1, z2⟩ := z
        rcases z2 with rfl | z2
        · exact hb hy
        · have : y ∈ (rowOf n.e b).filter fun y => decide (y ∈ snd) := List.mem_filter.mpr ⟨z2, decide_eq_true hy⟩
          rw [q, List.mem_singleton] at this
          exact z1 this
      · omega
  · rintro ⟨ha, hs⟩
    unfold spo at hs
    rw [List.filter_eq_nil_iff] at hs
    have hb : ¬ b ∈ snd := fun hb => hs b hb (by
      have : ¬ b = a := fun e => hab e.symm
      simp [spoB, this])
    have e : (rowOf n.e b).filter (fun y => decide (y ∈ snd)) = [a] := by
      have e2 : (rowOf n.e b).filter (fun y => decide (y ∈ snd)) = (rowOf n.e b).filter fun y => a == y := by
        apply List.filter_congr
        intro y hy
        by_cases c : y = a
        · subst c; simp [ha]
        · have c' : ¬ a = y := fun e => c e.symm
          have : ¬ y ∈ snd := fun hm => hs y hm (by simp [spoB, c, hy])
          simp [this, c']
      rw [e2, filter_eq_one nd h2]
    unfold hv
    rw [if_neg hb, e]
    simp
end
end DL.P
end

section
/-! Mo: all links, links that are clear as the law tells them, first places -/
namespace DL.P
open PySem DL
section
variable {F k : Nat} {S : Store} {Q : Av → Store → Prop} {R : Str → D → Store → Prop} {n : Net} {snd : List Int}
theorem enum_map {α : Type} (enc : α → D) (l : List α) : enum (l.map enc) = l.zipIdx.map fun p => .tuple [.int p.2, enc p.1] := by
  unfold enum
  rw [List.zipIdx_map, List.map_map]
  rfl
theorem rowOf_get {e : List (List Int)} {i : Nat} (h : i < e.length) : rowOf e (i : Int) = e[i] := by
  unfold rowOf
  simp [h]
theorem range_flat {α β : Type} (l : List α) (f : Nat → List β) (g : α × Nat → List β) (h : ∀ i (hi : i < l.length), f i = g (l[i], i)) : (List.range l.length).flatMap f = l.zipIdx.flatMap g := by
  have e : List.range l.length = l.zipIdx.map (·.2) := by
    rw [List.zipIdx_map_snd, List.range_eq_range']
  rw [e, List.flatMap_map, List.flatMap_def, List.flatMap_def]
  congr 1
  refine List.map_congr_left fun q hq => ?_
  obtain ⟨a, i⟩ := q
  obtain ⟨h1, h2⟩ := List.mem_zipIdx' hq
  rw [h i h1, h2]
theorem range_zip {α : Type} (l : List α) (P : α → Bool) (q : Nat → Bool) (h : ∀ i (hi : i < l.length), q i = P l[i]) : (List.range l.length).filter q = (l.zipIdx.filter fun z => P z.1).map (·.2) := by
  have e : List.range l.length = l.zipIdx.map (·.2) := by
    rw [List.zipIdx_map_snd, List.range_eq_range']
  rw [e, List.filter_map]
  congr 1
  refine List.filter_congr fun z hz => ?_
  obtain ⟨a, i⟩ := z
  obtain ⟨h1, h2⟩ := List.mem_zipIdx' hz
  show q i = P a
  rw [h i h1, h2]
theorem Net.Ok.elen (O : n.Ok) : n.e.length = n.m := O.len
def zipL (l : List (List Int × Nat)) : List Pr := l.flatMap fun q => q.1.map fun x => (x, (q.2 : Int))
theorem zipL_all (O : n.Ok) : zipL n.e.zipIdx = allL n := by
  unfold zipL allL
  rw [← O.elen]
  exact (range_flat n.e _ _ fun i hi => by rw [rowOf_get hi]).symm
theorem zipL_len (O : n.Ok) {pre post : List (List Int × Nat)} (h : n.e.zipIdx = pre ++ post) : (zipL pre).length ≤ (allL n).length := by
  rw [← zipL_all O, h]
  unfold zipL
  rw [List.flatMap_append, List.length_append]
  omega
theorem allL_len (O : n.Ok) : (allL n).length ≤ 49 := by
  have := links_len O
  unfold links at this
  rwa [List.length_mergeSort] at this
theorem sp_all_links (O : n.Ok) : run tb F (k + 1) f_all_links [.d n.d] S = some (.ok (.d (.tuple ((links n).map pr))), S) := by
  rw [run_eq (d := d_all_links) rfl]
  apply eq_ok
  rw [run_callDef]
  simp [d_all_links, r_scons, env0, slotOf, DL.getD]
  simp [Net.d, op1, op2, idxD2, items]
  rw [enum_map]
  refine run_forP _ _ (fun pre env T => T = S ∧ ∃ a2 a3 a4, env = [some (.dat n.d), some (.own ((zipL pre).map pr)), a2, a3, a4]) ⟨rfl, none, none, none, rfl⟩ ?_ ?_
  · rintro pre ⟨r, i⟩ post hl env T ⟨rfl, a2, a3, a4, rfl⟩
    refine ⟨_, rfl, ?_⟩
    have e1 : zipL (pre ++ [(r, i)]) = zipL pre ++ r.map fun x => (x, (i : Int)) := by
      unfold zipL
      simp
    have hlen : (zipL pre).length + r.length ≤ LIM := by
      have h1 := zipL_len O (pre := pre ++ [(r, i)]) (post := post) (by rw [hl]; simp)
      have h2 := allL_len O
      rw [e1, List.length_append, List.length_map] at h1
      have h3 : LIM = 16777216 := rfl
      omega
    simp [r_scons, DL.getD, getO, items]
    rw [run_cmpY .int (fun x => pr (x, (i : Int)))]
    · simp [hlen, e1]
    · intro x hx
      refine ⟨_, rfl, ?_⟩
      apply eq_ok
      simp [wipeE, DL.getD, pr]
  · rintro env T ⟨rfl, a2, a3, a4, rfl⟩
    rw [zipL_all O]
    simp [r_scons, getO, op1, sortedD1, sort_pr, links, tupleD1]
theorem sp_hears_w (O : n.Ok) {w : D} (hw : w = tupI snd ∨ w = .list (snd.map .int)) {st : Int} (h0 : 0 ≤ st) (h1 : st < n.m) : run tb F (k + 1) f__law_hears [.d n.d, .d (.int st), .d w] S = some (.ok (.d (.int (hv n.e st snd))), S) := by
  rw [run_eq (d := d__law_hears) rfl]
  apply eq_ok
  rw [run_callDef]
  have g := row_getD O h0 h1
  have hin : ∀ a : Int, innD2 (.int a) w = some (.bool (decide (a ∈ snd))) := fun a => by
    rcases hw with rfl | rfl
    · simp [tupI, innD2, dep_int, isIn_int]
    · simp [innD2, dep_int, isIn_int]
  simp [d__law_hears, r_scons, env0, slotOf, DL.getD, getO, op1, op2, negD1, hin, truth, Net.d, idxD2, g, items]
  by_cases c : st ∈ snd
  · simp [c, hv]
  · simp only [c, if_false, tupI, run_lift_some, items]
    rw [run_cmp .int (fun x => decide (x ∈ snd)) .int]
    · unfold hv
      rw [if_neg c]
      cases hr : (rowOf n.e st).filter (fun x => decide (x ∈ snd)) with
      | nil => simp [DL.getD, getO, op1, op2, lenD1, eqD2, PyData.depth, PyData.depthAll, PyData.eqv, PyData.eqvAll, truth, negD1]
      | cons x r =>
        cases r with
        | nil => simp [DL.getD, getO, op1, lenD1, eqD2, PyData.depth, PyData.depthAll, PyData.eqv, PyData.eqvAll, truth, op2, idxD2]
        | cons y r =>
          have h3 : (((r.length : Int) + 1 + 1) == 1) = false := by
            simp
            omega
          simp [DL.getD, getO, op1, lenD1, eqD2, PyData.depth, PyData.depthAll, PyData.eqv, PyData.eqvAll, truth, op2, h3, negD1]
    · intro x hx
      refine ⟨_, rfl, ?_, fun _ => ?_⟩
      · apply eq_ok
        simp [wipeE, DL.getD, op2, hin, truth]
      · apply eq_ok
        simp [wipeE, DL.getD]
theorem sp_lclear (O : n.Ok) {w : D} (hw : w = tupI snd ∨ w = .list (snd.map .int)) : run tb F (k + 2) f__law_clear [.d n.d, .d w] S = some (.ok (.d (.list ((clearL n snd).map pr))), S) := by
  rw [run_eq (d := d__law_clear) rfl]
  apply eq_ok
  rw [run_callDef]
  have b1 := fun (S : Store) => sp_links (k := k) (F := F) (S := S) O
  simp [d__law_clear, r_scons, env0, slotOf, DL.getD, run_ok (b1 _), items]
  rw [run_cmp pr (fun p => hv n.e p.2 snd == p.1) pr]
  · simp [clearL]
  · rintro ⟨a, b⟩ hx
    obtain ⟨y0, y1, y2⟩ := (mem_links O).mp hx
    have z := fun (S : Store) => sp_hears_w (F := F) (k := k) (S := S) O hw y0 y1
    refine ⟨_, rfl, ?_, fun _ => ?_⟩
    · apply eq_ok
      simp [wipeE, DL.getD, op2, run_ok (z _), eqD2, dep_int, eqv_int, truth]
    · apply eq_ok
      simp [wipeE, DL.getD, pr]
/-- where a link is in a row of links -/
def hits (rows : List (List Pr)) (p : Pr) : List Int := ((rows.zipIdx.filter fun z => decide (p ∈ z.1)).map (·.2)).map fun (i : Nat) => (i : Int)
def firstAt (rows : List (List Pr)) (p : Pr) : Int := match hits rows p with
  | [] => -1
  | i :: _ => i
theorem hits_range (rows : List (List Pr)) (p : Pr) (q : Nat → Bool) (h : ∀ i (hi : i < rows.length), q i = decide (p ∈ rows[i])) : (((List.range rows.length).filter q).map fun (i : Nat) => PyData.int (i : Int)) = (hits rows p).map .int := by
  unfold hits
  rw [range_zip rows (fun r => decide (p ∈ r)) q h]
  simp
theorem inn_prsL (p : Pr) (l : List Pr) : innD2 (pr p) (.list (l.map pr)) = some (.bool (decide (p ∈ l))) := by
  have h : innD2 (pr p) (.list (l.map pr)) = if (pr p).depth ≤ 100 then some (.bool (isIn (pr p) (l.map pr))) else none := rfl
  rw [h, dep_pr, isIn_pr]
  rfl
theorem inn_prsT (p : Pr) (l : List Pr) : innD2 (pr p) (.tuple (l.map pr)) = some (.bool (decide (p ∈ l))) := by
  have h : innD2 (pr p) (.tuple (l.map pr)) = if (pr p).depth ≤ 100 then some (.bool (isIn (pr p) (l.map pr))) else none := rfl
  rw [h, dep_pr, isIn_pr]
  rfl
theorem zipD_same {α : Type} (f g : α → D) : ∀ l : List α, zipD (l.map f) (l.map g) = l.map fun x => .tuple [f x, g x]
  | [] => rfl
  | a :: r => by
    have ih := zipD_same f g r
    unfold zipD at ih ⊢
    simp at ih ⊢
    exact ih
theorem eqD_int (a b : Int) : eqD2 (.int a) (.int b) = some (.bool (decide (a = b))) := by
  simp [eqD2, dep_int, eqv_dec]
theorem lim_big : LIM = 16777216 := rfl
theorem add_str {a b : Str} (h : a.length + b.length ≤ LIM) : addD2 (.str a) (.str b) = some (.str (a ++ b)) := by
  unfold addD2
  simp only
  rw [if_pos h]
theorem mem_idx {α : Type} {l : List α} {q : α × Nat} (h : q ∈ l.zipIdx) : q.1 ∈ l ∧ q.2 < l.length ∧ l[q.2]? = some q.1 := by
  obtain ⟨a, i⟩ := q
  obtain ⟨h1, h2⟩ := List.mem_zipIdx' h
  refine ⟨h2 ▸ List.getElem_mem h1, h1, ?_⟩
  rw [h2]
  exact List.getElem?_eq_getElem h1
theorem eqv_str (a b : Str) : PyData.eqv (.str a) (.str b) = decide (a = b) := by
  simp [PyData.eqv]
  by_cases h : a = b
  · simp [h]
  · simp [h]
theorem isIn_str (a : Str) : ∀ ns : List Str, isIn (.str a) (ns.map .str) = decide (a ∈ ns)
  | [] => rfl
  | b :: r => by
    have ih := isIn_str a r
    unfold isIn at ih ⊢
    rw [List.map_cons, List.any_cons, ih, eqv_str]
    by_cases h : b = a
    · simp [h]
    · have : a ≠ b := fun e => h e.symm
      simp [h, this]
theorem inn_str (a : Str) (ss : List Str) : innD2 (.str a) (.tuple (ss.map .str)) = some (.bool (decide (a ∈ ss))) := by
  have h : innD2 (.str a) (.tuple (ss.map .str)) = if (PyData.str a).depth ≤ 100 then some (.bool (isIn (.str a) (ss.map .str))) else none := rfl
  rw [h, isIn_str]
  simp [PyData.depth]
theorem inn_chr (c : Nat) (z : Str) : innD2 (chr c) (.str z) = some (.bool (decide (c ∈ z.cps.toList))) := by
  simp [innD2, chr]
theorem of_strs {ys : List D} {p : Str → Prop} (h : ∀ y ∈ ys, ∃ z, p z ∧ y = .str z) : ∃ zs : List Str, ys = zs.map .str ∧ ∀ z ∈ zs, p z := by
  induction ys with
  | nil => exact ⟨[], rfl, fun c hc => by cases hc⟩
  | cons y ys ih =>
    obtain ⟨cs, h1, h2⟩ := ih fun z hz => h z (List.mem_cons_of_mem _ hz)
    obtain ⟨c, hc, e⟩ := h y List.mem_cons_self
    refine ⟨c :: cs, by rw [h1, e]; rfl, fun z hz => ?_⟩
    rcases List.mem_cons.mp hz with rfl | hz
    · exact hc
    · exact h2 z hz
theorem range_split {m a : Nat} {pre post : List Nat} (h : List.range m = pre ++ a :: post) : a = pre.length ∧ a < m := by
  have h1 : (List.range m)[pre.length]? = some a := by rw [h]; simp
  obtain ⟨h2, h3⟩ := List.getElem?_eq_some_iff.mp h1
  rw [List.getElem_range] at h3
  rw [List.length_range] at h2
  omega
theorem ne_str2 (a b : Str) : neD2 (.list [.str a, .str b]) (.list [.str a, .str b]) = some (.bool false) := by
  simp [neD2, PyData.depth, PyData.depthAll, PyData.eqv, PyData.eqvAll]
theorem ne_str1 (a : Str) : neD2 (.str a) (.str a) = some (.bool false) := by
  simp [neD2, PyData.depth, PyData.eqv]
theorem add_lst {xs ys : List D} (h : xs.length + ys.length ≤ LIM) : addD2 (.list xs) (.list ys) = some (.list (xs ++ ys)) := by
  unfold addD2
  simp only
  rw [if_pos h]
theorem getI_last {α : Type} {xs : List α} {x : α} (h : xs.getLast? = some x) : getI xs (-1) = some x := by
  unfold getI
  rw [if_neg (by decide)]
  cases xs with
  | nil => cases h
  | cons a r =>
    rw [if_pos (by simp; omega)]
    rw [List.getLast?_eq_getElem?] at h
    rw [← h]
    congr 1
    simp
    omega
/-- a short range; the number is kept a variable, or the kernel counts to LIM -/
theorem rng_is {x : Int} {m : Nat} (h : x = m) (hm : m ≤ 1000) : ((asInt (.int x)).bind fun n => if n ≤ LIM ∧ -(LIM : Int) ≤ n then some (rngI 0 n.toNat) else none) = some (rngI 0 m) := by
  have h1 : x ≤ LIM ∧ -(LIM : Int) ≤ x := by have := lim_big; omega
  have h2 : x.toNat = m := by omega
  show (if x ≤ LIM ∧ -(LIM : Int) ≤ x then some (rngI 0 x.toNat) else none) = _
  rw [if_pos h1, h2]
end
end DL.P
end

section
/-! Mp: sorted sets of texts and of numbers -/
namespace DL.P
open PySem DL
def ltS (a b : Str) : Prop := a.cps.toList < b.cps.toList
instance (a b : Str) : Decidable (ltS a b) := inferInstanceAs (Decidable (a.cps.toList < b.cps.toList))
theorem str_ext {a b : Str} (h : a.cps.toList = b.cps.toList) : a = b := by
  cases a; cases b
  simp at h
  rw [h]
theorem strLe_iff (a b : Str) : strLe a b = true ↔ a.cps.toList ≤ b.cps.toList := by
  unfold strLe
  simp only [Bool.not_eq_true', decide_eq_false_iff_not, List.not_lt]
theorem strLe_trans (a b c : Str) (h1 : strLe a b = true) (h2 : strLe b c = true) : strLe a c = true := by
  rw [strLe_iff] at *
  exact List.le_trans h1 h2
theorem strLe_total (a b : Str) : (strLe a b || strLe b a) = true := by
  rw [Bool.or_eq_true, strLe_iff, strLe_iff]
  exact List.le_total _ _
theorem strLe_anti {a b : Str} (h1 : strLe a b = true) (h2 : strLe b a = true) : a = b := by
  rw [strLe_iff] at *
  exact str_ext (List.le_antisymm h1 h2)
theorem ltS_of {a b : Str} (h : strLe a b = true) (hn : a ≠ b) : ltS a b := by
  rw [strLe_iff] at h
  unfold ltS
  by_cases h2 : b.cps.toList ≤ a.cps.toList
  · exact absurd (str_ext (List.le_antisymm h h2)) hn
  · exact List.not_le.mp h2
section
variable {α : Type} [DecidableEq α]
theorem mem_ddp {x : α} : ∀ {l : List α}, x ∈ ddp l ↔ x ∈ l
  | [] => by simp [ddp]
  | a :: r => by
    simp only [ddp, List.mem_cons, List.mem_filter, mem_ddp (l := r)]
    by_cases h : x = a
    · simp [h]
    · simp [h]
theorem ddp_nd : ∀ l : List α, (ddp l).Nodup
  | [] => by simp [ddp]
  | a :: r => by
    simp only [ddp, List.nodup_cons]
    refine ⟨by simp, (ddp_nd r).filter _⟩
theorem ddp_len : ∀ l : List α, (ddp l).length ≤ l.length
  | [] => by simp [ddp]
  | a :: r => by
    have := ddp_len r
    have h2 : ((ddp r).filter fun y => !decide (y = a)).length ≤ (ddp r).length := List.length_filter_le _ _
    simp only [ddp, List.length_cons]
    omega
end
theorem mem_ssetS {z : Str} {l : List Str} : z ∈ ssetS l ↔ z ∈ l := by
  unfold ssetS
  rw [(List.mergeSort_perm _ _).mem_iff, mem_ddp]
theorem ssetS_lt (l : List Str) : (ssetS l).Pairwise ltS := by
  have h1 : (ssetS l).Pairwise fun a b => strLe a b = true := List.pairwise_mergeSort strLe_trans strLe_total _
  have h2 : (ssetS l).Nodup := (List.mergeSort_perm _ _).nodup_iff.mpr (ddp_nd l)
  exact (h1.and h2).imp fun h => ltS_of h.1 h.2
theorem ssetS_len (l : List Str) : (ssetS l).length ≤ l.length := by
  unfold ssetS
  rw [List.length_mergeSort]
  exact ddp_len l
theorem asInts_strs : ∀ {l : List Str}, l ≠ [] → asInts (l.map .str) = none
  | [], h => absurd rfl h
  | a :: r, _ => rfl
theorem sset_strs {l : List Str} (h : l.length ≤ 4000) : op1 .sset (.list (l.map .str)) = some (.list ((ssetS l).map .str)) := by
  show ssetD1 (.list (l.map .str)) = _
  unfold ssetD1 ssetL
  simp only [List.length_map]
  rw [if_pos h]
  cases l with
  | nil => simp [asInts, ssetI, ssetS, ddp]
  | cons a r =>
    rw [asInts_strs (by simp), asStrs_map]
    rfl
theorem ltS_trans {a b c : Str} (h1 : ltS a b) (h2 : ltS b c) : ltS a c := List.lt_trans h1 h2
theorem ltS_irrefl (a : Str) : ¬ ltS a a := List.lt_irrefl _
/-- two rising rows with the same texts are the same -/
theorem ltS_uniq {l m : List Str} (h1 : l.Pairwise ltS) (h2 : m.Pairwise ltS) (h : ∀ x, x ∈ l ↔ x ∈ m) : l = m := by
  have nd : ∀ {l : List Str}, l.Pairwise ltS → l.Nodup := fun h => h.imp fun {a b} h e => by subst e; exact ltS_irrefl _ h
  have p : l.Perm m := (List.perm_ext_iff_of_nodup (nd h1) (nd h2)).mpr h
  exact p.eq_of_pairwise (le := ltS) (fun a b _ _ x y => absurd (ltS_trans x y) (ltS_irrefl _)) h1 h2
end DL.P
end

section
/-! Mq: data alike themselves; stores of one cell -/
namespace DL.P
open PySem DL
section
variable {F : Nat}
def AlD : Nat → D → Prop
  | 0, d => AlA d
  | j + 1, d => AlA d ∨ ∃ xs, d = .tuple xs ∧ xs.length ≤ 1000000 ∧ ∀ x ∈ xs, AlD j x
theorem sp_alike : ∀ {j : Nat} {d : D}, AlD j d → ∀ (k : Nat) (S : Store), run tb F (k + (j + 1)) f__law_alike [.d d, .d d] S = some (.ok (.d (.bool true)), S)
  | 0, d, h, k, S => sp_alike_a h
  | j + 1, d, h, k, S => by
    rcases h with h | ⟨xs, rfl, hl, hx⟩
    · have z := sp_alike_a (F := F) (k := k + (j + 1)) (S := S) h
      exact z
    · have z := sp_alike_t (F := F) (k := k) (j := j + 1) (S := S) hl fun x hm k S => sp_alike (hx x hm) k S
      exact z
theorem St.one {S : Store} (h : St S) : ∃ c, S = [c] := by
  obtain ⟨sc, p, s, x, rfl, _⟩ := h
  exact ⟨_, rfl⟩
end
end DL.P
end

section
/-! C1: labels, slots of letters, rules of slots -/
namespace DL.P
open PySem DL
section
variable {F k : Nat} {S : Store} {Q : Av → Store → Prop} {R : Str → D → Store → Prop} {n : Net} {snd : List Int}
def lab (n : Net) (i : Int) : Nat := (n.l.cps.toList[i.toNat]?).getD 0
theorem labs_len (n : Net) : n.l.cps.toList.length = n.m := by
  simp [Net.m, Str.length]
theorem lab_get {i : Int} (h0 : 0 ≤ i) (h1 : i < n.m) : n.l.cps.toList[i.toNat]? = some (lab n i) := by
  have h : i.toNat < n.l.cps.toList.length := by rw [labs_len]; omega
  unfold lab
  rw [List.getElem?_eq_getElem h]
  rfl
theorem lab_idx (O : n.Ok) {i : Int} (h0 : 0 ≤ i) (h1 : i < n.m) : idxD2 (.str n.l) (.int i) = some (chr (lab n i)) := by
  have hl : n.l.length ≤ LIM := O.lim
  simp only [idxD2]
  rw [if_pos hl, getI_nn h0, lab_get h0 h1]
  rfl
theorem lab_abc (O : n.Ok) {i : Int} (h0 : 0 ≤ i) (h1 : i < n.m) : lab n i ∈ abc := by
  have h := O.lt
  unfold lettersB at h
  simp only [List.all_eq_true] at h
  exact of_decide_eq_true (h _ (List.mem_of_getElem? (lab_get h0 h1)))
/-- who sends in a slot -/
def wl (n : Net) (z : Str) : List Int := ((n.l.cps.toList.zipIdx.filter fun q => decide (q.1 ∈ z.cps.toList)).map (·.2)).map fun (i : Nat) => (i : Int)
theorem wl_rng (z : Str) (q : Nat → Bool) (h : ∀ i, i < n.m → q i = decide (lab n (i : Int) ∈ z.cps.toList)) : (((List.range n.m).filter q).map fun (i : Nat) => PyData.int (i : Int)) = (wl n z).map .int := by
  have e := range_zip n.l.cps.toList (fun c => decide (c ∈ z.cps.toList)) q (fun i hi => by
    have hi' : i < n.m := by rw [← labs_len]; exact hi
    rw [h i hi']
    have := lab_get (n := n) (i := (i : Int)) (by omega) (by omega)
    rw [Int.toNat_natCast, List.getElem?_eq_getElem hi] at this
    rw [← Option.some.inj this])
  rw [labs_len] at e
  rw [e]
  unfold wl
  simp
theorem mem_wl {z : Str} {x : Int} : x ∈ wl n z ↔ 0 ≤ x ∧ x < n.m ∧ lab n x ∈ z.cps.toList := by
  have e : wl n z = ((List.range n.m).filter fun (i : Nat) => decide (lab n (i : Int) ∈ z.cps.toList)).map fun (i : Nat) => (i : Int) := by
    have h := wl_rng (n := n) z (fun (i : Nat) => decide (lab n (i : Int) ∈ z.cps.toList)) fun _ _ => rfl
    have inj : ∀ {a b : List Int}, a.map PyData.int = b.map PyData.int → a = b := fun {a b} h => (List.map_inj_right (fun x y e => by injection e)).mp h
    refine (inj ?_).symm
    rw [← h, List.map_map]
    rfl
  rw [e]
  simp only [List.mem_map, List.mem_filter, List.mem_range, decide_eq_true_eq]
  constructor
  · rintro ⟨i, ⟨h1, h2⟩, rfl⟩
    exact ⟨by omega, by omega, h2⟩
  · rintro ⟨h0, h1, h2⟩
    exact ⟨x.toNat, ⟨by omega, by rw [Int.toNat_of_nonneg h0]; exact h2⟩, by omega⟩
theorem sp_lby (O : n.Ok) {z : Str} : run tb F (k + 1) f__law_by [.d n.d, .d (.str z)] S = some (.ok (.d (tupI (wl n z))), S) := by
  rw [run_eq (d := d__law_by) rfl]
  apply eq_ok
  rw [run_callDef]
  have hr := rng_ok O
  simp [d__law_by, r_scons, env0, slotOf, DL.getD, Net.d, op1, op2, idxD2, lenD1, hm n, O.lim, asInt, hr.1, hr.2]
  rw [← Net.d.eq_1, rngI_0, run_cmp _ (fun (i : Nat) => decide (lab n (i : Int) ∈ z.cps.toList)) (fun (i : Nat) => .int (i : Int))]
  · rw [wl_rng z _ fun _ _ => rfl]
    simp [tupleD1, tupI]
  · intro i hi
    rw [List.mem_range] at hi
    refine ⟨_, rfl, ?_, fun _ => ?_⟩
    · have g := lab_idx O (i := (i : Int)) (by omega) (by omega)
      have g0 : idxD2 n.d (.int 0) = some (.str n.l) := rfl
      apply eq_ok
      simp only [wipeE, r_te, r_op2, r_var, r_cst, DL.getD]
      simp [DL.getD, op2, g0, g, inn_chr, truth]
    · apply eq_ok
      simp [wipeE, DL.getD]
/-- a slot: rising letters -/
structure SlotOk (z : Str) : Prop where
  len : z.length ≤ 1000
  abc : ∀ c ∈ z.cps.toList, c ∈ abc
  up : z.cps.toList.Pairwise (· < ·)
theorem SlotOk.lim {z : Str} (h : SlotOk z) : z.length ≤ LIM := by have := h.len; have := lim_big; omega
theorem SlotOk.let {z : Str} (h : SlotOk z) : lettersB (.str z) = true := by
  unfold lettersB
  simp only [List.all_eq_true]
  exact fun c hc => decide_eq_true (h.abc c hc)
theorem zip_tail_lt {α : Type} {r : α → α → Prop} {l : List α} (h : l.Pairwise r) {a b : α} (hp : (a, b) ∈ l.zip l.tail) : r a b := by
  obtain ⟨i, hi⟩ := List.mem_iff_getElem?.mp hp
  rw [List.getElem?_zip_eq_some] at hi
  obtain ⟨h1, h2⟩ := hi
  rw [List.getElem?_tail] at h2
  obtain ⟨l1, l1e⟩ := List.getElem?_eq_some_iff.mp h1
  obtain ⟨l2, l2e⟩ := List.getElem?_eq_some_iff.mp h2
  have := List.pairwise_iff_getElem.mp h i (i + 1) l1 l2 (by omega)
  rw [l1e, l2e] at this
  exact this
theorem sp_is_rising_z {z : Str} (hl : z.length ≤ LIM) (h : z.cps.toList.Pairwise (· < ·)) : run tb F (k + 1) f_is_rising [.d (.str z)] S = some (.ok (.d (.bool true)), S) := by
  rw [run_eq (d := d_is_rising) rfl]
  apply eq_ok
  rw [run_callDef]
  have e0 := cut_drop z.cps.toList 1
  rw [show ((1 : Nat) : Int) = 1 from rfl] at e0
  have hl2 : (⟨(z.cps.toList.drop 1).toArray⟩ : Str).length ≤ LIM := by
    have h1 : z.cps.toList.length = z.length := by simp [Str.length]
    show ((z.cps.toList.drop 1).toArray).size ≤ LIM
    simp only [List.size_toArray, List.length_drop]
    omega
  have e1 : zipD (z.cps.toList.map chr) ((z.cps.toList.drop 1).map chr) = (z.cps.toList.zip z.cps.toList.tail).map fun p => .tuple [chr p.1, chr p.2] := by
    unfold zipD
    rw [List.drop_one, List.zip_map, List.map_map]
    rfl
  have e2 : slice (.str z) (some 1) none = some (.str ⟨(z.cps.toList.drop 1).toArray⟩) := by
    simp only [slice]
    rw [if_pos hl, e0]
  have e3 : items (.str z) = some (z.cps.toList.map chr) := by
    simp only [items]
    rw [if_pos hl]
  have e4 : items (.str ⟨(z.cps.toList.drop 1).toArray⟩) = some ((z.cps.toList.drop 1).map chr) := by
    simp only [items]
    rw [if_pos hl2]
  simp only [d_is_rising, r_scons, env0, slotOf, r_rt, r_op1, r_comp, r_zip, r_slL, r_var, r_cst, asInt]
  simp only [List.map_cons, List.map_nil, List.replicate, DL.getD, List.length_cons, List.length_nil]
  simp only [List.cons_append, List.nil_append, List.getElem?_cons_zero, run_lift_some, Option.bind_some, e2, e3, e4, Option.map_some, e1]
  refine ⟨trivial, ?_⟩
  rw [run_cmpY _ (fun _ => .bool true)]
  · have e5 : asBools ((z.cps.toList.zip z.cps.toList.tail).map fun _ => PyData.bool true) = some ((z.cps.toList.zip z.cps.toList.tail).map fun _ => true) := asBools_map (fun _ => true) _
    simp only [op1, allD1, e5]
    simp
  · rintro ⟨a, b⟩ hp
    have hlt : a < b := zip_tail_lt h hp
    refine ⟨_, rfl, ?_⟩
    apply eq_ok
    simp [wipeE, DL.getD, op2, ltD2, chr, hlt, List.cons_lt_cons_iff]
structure RuleS (rule : List Str) : Prop where
  len : rule.length ≤ 12
  ok : ∀ z ∈ rule, SlotOk z
theorem chr_slot {c : Nat} (h : c ∈ abc) : SlotOk ⟨#[c]⟩ := ⟨by show 1 ≤ 1000; omega, fun d hd => by simp at hd; subst hd; exact h, by simp⟩
theorem abc_lt : abc.Pairwise (· < ·) := by decide +kernel
theorem abc_len : abc.length = 7 := by decide +kernel
theorem sub_slot {z : Str} (h : z.cps.toList.Sublist abc) : SlotOk z := by
  refine ⟨?_, fun c hc => h.subset hc, abc_lt.sublist h⟩
  have h1 := h.length_le
  have h2 : z.cps.toList.length = z.length := by simp [Str.length]
  rw [abc_len, h2] at h1
  omega
theorem abc_get {i : Nat} (h : i < 7) : idxD2 (.str "abcdefg") (.int (i : Int)) = some (chr (abc[i]'(by rw [abc_len]; exact h))) := by
  have : i = 0 ∨ i = 1 ∨ i = 2 ∨ i = 3 ∨ i = 4 ∨ i = 5 ∨ i = 6 := by omega
  rcases this with rfl | rfl | rfl | rfl | rfl | rfl | rfl <;> rfl
theorem abc_sub (q : Nat → Bool) : (((List.range 7).filter q).map fun i => (abc[i]?).getD 0).Sublist abc := by
  have e : (List.range 7).map (fun i => (abc[i]?).getD 0) = abc := by decide +kernel
  have h := (List.filter_sublist (p := q) (l := List.range 7)).map fun i => (abc[i]?).getD 0
  rw [e] at h
  exact h
/-- a drawn slot -/
theorem sp_lslot (hS : St S) : Run (run tb F (k + 3) f__law_slot [.c 0]) S (fun v T => (∃ z, SlotOk z ∧ v = .d (.str z)) ∧ St T) NoR := by
  rw [run_eq (d := d__law_slot) rfl, run_callDef]
  refine ⟨rfl, ?_⟩
  simp only [d__law_slot]
  rw [r_scons]
  simp [env0, slotOf, getC]
  refine (sp_taken (k := k + 1) (F := F) (many := 128) (by omega) (by omega) hS).mono ?_ fun _ _ _ z => z.elim
  rintro v T ⟨⟨b, rfl, b0, b1⟩, hT⟩
  dsimp only
  rw [r_scons]
  simp [getC]
  refine (sp_taken (k := k + 1) (F := F) (many := 2) (by omega) (by omega) hT).mono ?_ fun _ _ _ z => z.elim
  rintro v U ⟨⟨j, rfl, j0, j1⟩, hU⟩
  have e7 : ((asInt (.int 7)).bind fun n => if n ≤ LIM ∧ -(LIM : Int) ≤ n then some (rngI 0 n.toNat) else none) = some (rngI 0 7) := rfl
  by_cases hj : j = 0
  · simp [op2, eqD_int, hj, truth]
    rw [r_scons]
    simp [getC]
    refine (sp_pick_s (k := k) (F := F) (z := "abcdefg") (by decide) (by decide) hU).mono ?_ fun _ _ _ z => z.elim
    rintro v V ⟨⟨c, hc, rfl⟩, hV⟩
    have tk : V.take S.length = V := hV.tk hS.len
    simp [tk, hV]
    exact ⟨_, chr_slot hc, rfl⟩
  · simp [op2, eqD_int, hj, truth]
    rw [r_scons]
    simp only [r_rt, r_op2, r_cst, r_comp, r_rng1, e7, run_lift_some]
    rw [rngI_0, run_cmp _ (fun (i : Nat) => bitB b (i : Int)) (fun (i : Nat) => chr ((abc[i]?).getD 0))]
    · have hsub := abc_sub fun (i : Nat) => bitB b (i : Int)
      have hlen := hsub.length_le
      rw [abc_len] at hlen
      obtain ⟨z, ez, ez2⟩ := join_chrs (cs := ((List.range 7).filter fun (i : Nat) => bitB b (i : Int)).map fun i => (abc[i]?).getD 0) (by omega)
      rw [List.map_map] at ez
      have ez' : joinD2 (.str "") (.list (((List.range 7).filter fun (i : Nat) => bitB b (i : Int)).map fun (i : Nat) => chr ((abc[i]?).getD 0))) = some (.str z) := ez
      have tk : U.take S.length = U := hU.tk hS.len
      rw [← ez2] at hsub
      simp [op2, ez', tk, hU]
      exact sub_slot hsub
    · intro i hi
      rw [List.mem_range] at hi
      have h7 : abc[i]? = some (abc[i]'(by rw [abc_len]; exact hi)) := List.getElem?_eq_getElem (by rw [abc_len]; exact hi)
      obtain ⟨g1, g2, g3⟩ := pw_get (i := (i : Int)) (by omega) (by omega)
      refine ⟨_, rfl, ?_, fun _ => ?_⟩
      · apply eq_ok
        simp [wipeE, DL.getD, op1, op2, idxD2, g1, fdivD2, g2, g3, intD1, modD2, eqD2, dep_int, eqv_1, truth, bitB]
      · have g := abc_get hi
        apply eq_ok
        simp only [wipeE, r_op2, r_cst, r_var]
        simp [DL.getD, op2, g, h7]
end
end DL.P
end

section
/-! C2: covers of classes, numbers sorted -/
namespace DL.P
open PySem DL
section
variable {F k : Nat} {S : Store} {Q : Av → Store → Prop} {R : Str → D → Store → Prop} {n : Net} {snd : List Int}
def leI (a b : Int) : Bool := decide (a ≤ b)
theorem dle_int (a b : Int) : dle (.int a) (.int b) = leI a b := by
  have h : PySem.W.dataLt (.int b) (.int a) = decide (b < a) := by simp [PySem.W.dataLt, PySem.W.keyToks, PySem.W.keyToksAll, PyProof.Rows.lexLt, PyProof.Rows.itemOrd, PyProof.Rows.itemLt]
  unfold dle leI
  rw [h]
  by_cases h : a ≤ b
  · have h2 : ¬ b < a := by omega
    simp [h, h2]
  · have h2 : b < a := by omega
    simp [h, h2]
theorem sortable_int (xs : List Int) : sortable (xs.map .int) = true := by
  unfold sortable
  simp only [Bool.and_eq_true, List.all_eq_true, decide_eq_true_eq, Bool.or_eq_true]
  refine ⟨⟨?_, .inr ?_⟩, ?_⟩
  · intro x hx y hy
    obtain ⟨a, _, rfl⟩ := List.mem_map.mp hx
    obtain ⟨b, _, rfl⟩ := List.mem_map.mp hy
    simp [PySem.W.alike]
  · intro x hx
    obtain ⟨a, _, rfl⟩ := List.mem_map.mp hx
    rfl
  · intro x hx
    obtain ⟨a, _, rfl⟩ := List.mem_map.mp hx
    simp [PyData.depth]
theorem sort_int (xs : List Int) : sortD (xs.map .int) = some ((xs.mergeSort leI).map .int) := by
  unfold sortD
  rw [if_pos (sortable_int xs), List.map_mergeSort (s := dle) (fun a _ b _ => (dle_int a b).symm)]
/-- a station and those that it hears, in order -/
def near (n : Net) (b : Int) : List Int := (rowOf n.e b ++ [b]).mergeSort leI
theorem mem_near {b x : Int} : x ∈ near n b ↔ x ∈ rowOf n.e b ∨ x = b := by
  unfold near
  rw [(List.mergeSort_perm _ _).mem_iff]
  simp
theorem near_in (O : n.Ok) {b : Int} (h0 : 0 ≤ b) (h1 : b < n.m) {x : Int} (hx : x ∈ near n b) : 0 ≤ x ∧ x < n.m := by
  rcases mem_near.mp hx with h | rfl
  · have := (row_ok O h0 h1).1 x h
    omega
  · omega
/-- data that tells the class of each station -/
structure Cls (n : Net) (cD : D) (same : Int → Int → Bool) : Prop where
  at_ : ∀ x y : Int, 0 ≤ x → x < n.m → 0 ≤ y → y < n.m → ∃ gx gy, idxD2 cD (.int x) = some gx ∧ idxD2 cD (.int y) = some gy ∧ eqD2 gx gy = some (.bool (same x y))
def coverAt (n : Net) (same : Int → Int → Bool) (p : Pr) : List Int := (near n p.2).filter fun x => !decide (x = p.1) && same x p.1
def encC (p : Pr) (l : List Int) : List D := match l with
  | [] => []
  | x :: _ => [.tuple [.int p.1, .int p.2, .int x]]
def coversD (n : Net) (same : Int → Int → Bool) (l : List Pr) : List D := l.flatMap fun p => encC p (coverAt n same p)
theorem coversD_len (same : Int → Int → Bool) (l : List Pr) : (coversD n same l).length ≤ l.length := by
  unfold coversD
  induction l with
  | nil => simp
  | cons p r ih =>
    rw [List.flatMap_cons, List.length_append]
    have : (encC p (coverAt n same p)).length ≤ 1 := by
      unfold encC
      split <;> simp
    rw [List.length_cons]
    omega
theorem neD_int (a b : Int) : neD2 (.int a) (.int b) = some (.bool (!decide (a = b))) := by
  simp [neD2, dep_int, eqv_dec]
theorem addT_int (l : List Int) (b : Int) (h : l.length ≤ 1000) : addD2 (tupI l) (.tuple [.int b]) = some (tupI (l ++ [b])) := by
  unfold addD2 tupI
  simp only
  rw [if_pos (by have := lim_big; simp; omega)]
  simp
theorem sortT_int (l : List Int) : sortedD1 (tupI l) = some (.list ((l.mergeSort leI).map .int)) := by
  simp [sortedD1, tupI, sort_int]
theorem sp_covers_by (O : n.Ok) {cD : D} {same : Int → Int → Bool} (C : Cls n cD same) : run tb F (k + 2) f_covers_by [.d n.d, .d cD] S = some (.ok (.d (.tuple (coversD n same (links n)))), S) := by
  rw [run_eq (d := d_covers_by) rfl]
  apply eq_ok
  rw [run_callDef]
  have b1 := fun (S : Store) => sp_all_links (k := k) (F := F) (S := S) O
  simp [d_covers_by, r_scons, env0, slotOf, DL.getD, run_ok (b1 _), items]
  refine run_forP _ _ (fun pre env T => T = S ∧ ∃ a3 a4 a5 a6 a7, env = [some (.dat n.d), some (.dat cD), some (.own (coversD n same pre)), a3, a4, a5, a6, a7]) ⟨rfl, _, _, _, _, _, rfl⟩ ?_ ?_
  · rintro pre ⟨a, b⟩ post he env T ⟨rfl, a3, a4, a5, a6, a7, rfl⟩
    have hm : (a, b) ∈ links n := by rw [he]; simp
    obtain ⟨y0, y1, y2⟩ := (mem_links O).mp hm
    have g := row_getD O y0 y1
    have hrl := row_len O y0 y1
    have ha := (row_ok O y0 y1).1 a y2
    have e1 := addT_int (rowOf n.e b) b (by omega)
    have e2 := sortT_int (rowOf n.e b ++ [b])
    refine ⟨_, rfl, ?_⟩
    rw [r_scons]
    simp [DL.getD, Net.d, op1, op2, idxD2, g, e1, e2]
    rw [← Net.d.eq_1]
    rw [r_scons]
    simp [DL.getD, items]
    rw [show (rowOf n.e b ++ [b]).mergeSort leI = near n b from rfl]
    rw [run_cmp PyData.int (fun x => !decide (x = a) && same x a) .int]
    · rw [show (near n b).filter (fun x => !decide (x = a) && same x a) = coverAt n same (a, b) from rfl]
      have hpl : (coversD n same pre).length < LIM := by
        have h1 := coversD_len (n := n) same pre
        have h2 := links_len O
        rw [he] at h2
        simp at h2
        have := lim_big
        omega
      have e3 : coversD n same (pre ++ [(a, b)]) = coversD n same pre ++ encC (a, b) (coverAt n same (a, b)) := by
        unfold coversD
        simp
      rw [r_scons]
      simp [getO]
      rw [r_scons]
      cases hc : coverAt n same (a, b) with
      | nil =>
        simp [DL.getD, getO, truth]
        rw [e3, hc]
        simp [encC]
      | cons x r =>
        simp [DL.getD, getO, truth, r_scons, op2, idxD2, hpl]
        rw [e3, hc]
        simp [encC]
    · intro x hx
      obtain ⟨x0, x1⟩ := near_in O y0 y1 hx
      obtain ⟨gx, gy, i1, i2, i3⟩ := C.at_ x a x0 x1 (by omega) (by omega)
      refine ⟨_, rfl, ?_, fun _ => ?_⟩
      · apply eq_ok
        by_cases hxa : x = a
        · simp [wipeE, DL.getD, op2, neD_int, truth, hxa]
        · simp [wipeE, DL.getD, op2, neD_int, truth, hxa, i1, i2, i3]
      · apply eq_ok
        simp [wipeE, DL.getD]
  · rintro env T ⟨rfl, a3, a4, a5, a6, a7, rfl⟩
    simp [r_scons, DL.getD, getO, op1, tupleD1]
theorem sp_lcovers (O : n.Ok) {cD : D} {same : Int → Int → Bool} (C : Cls n cD same) : run tb F (k + 2) f__law_covers [.d n.d, .d cD] S = some (.ok (.d (.list (coversD n same (links n)))), S) := by
  rw [run_eq (d := d__law_covers) rfl]
  apply eq_ok
  rw [run_callDef]
  have b1 := fun (S : Store) => sp_links (k := k) (F := F) (S := S) O
  simp [d__law_covers, r_scons, env0, slotOf, DL.getD, run_ok (b1 _), items]
  refine run_forP _ _ (fun pre env T => T = S ∧ ∃ a3 a4 a5 a6, env = [some (.dat n.d), some (.dat cD), some (.own (coversD n same pre)), a3, a4, a5, a6]) ⟨rfl, _, _, _, _, rfl⟩ ?_ ?_
  · rintro pre ⟨a, b⟩ post he env T ⟨rfl, a3, a4, a5, a6, rfl⟩
    have hm : (a, b) ∈ links n := by rw [he]; simp
    obtain ⟨y0, y1, y2⟩ := (mem_links O).mp hm
    have g := row_getD O y0 y1
    have hrl := row_len O y0 y1
    have ha := (row_ok O y0 y1).1 a y2
    have e1 := addT_int (rowOf n.e b) b (by omega)
    have e2 := sortT_int (rowOf n.e b ++ [b])
    refine ⟨_, rfl, ?_⟩
    rw [r_scons]
    simp [DL.getD, Net.d, op1, op2, idxD2, g, e1, e2, items]
    rw [← Net.d.eq_1]
    rw [show (rowOf n.e b ++ [b]).mergeSort leI = near n b from rfl]
    rw [run_cmp PyData.int (fun x => !decide (x = a) && same x a) .int]
    · rw [show (near n b).filter (fun x => !decide (x = a) && same x a) = coverAt n same (a, b) from rfl]
      have hpl : (coversD n same pre).length < LIM := by
        have h1 := coversD_len (n := n) same pre
        have h2 := links_len O
        rw [he] at h2
        simp at h2
        have := lim_big
        omega
      have e3 : coversD n same (pre ++ [(a, b)]) = coversD n same pre ++ encC (a, b) (coverAt n same (a, b)) := by
        unfold coversD
        simp
      rw [r_scons]
      simp [getO]
      rw [r_scons]
      cases hc : coverAt n same (a, b) with
      | nil =>
        simp [DL.getD, getO, truth, op2, neD2, PyData.depth, PyData.depthAll, PyData.eqv, PyData.eqvAll]
        rw [e3, hc]
        simp [encC]
      | cons x r =>
        simp [DL.getD, getO, truth, r_scons, op2, idxD2, hpl, neD2, PyData.depth, PyData.depthAll, PyData.eqv, PyData.eqvAll]
        rw [e3, hc]
        simp [encC]
    · intro x hx
      obtain ⟨x0, x1⟩ := near_in O y0 y1 hx
      obtain ⟨gx, gy, i1, i2, i3⟩ := C.at_ x a x0 x1 (by omega) (by omega)
      refine ⟨_, rfl, ?_, fun _ => ?_⟩
      · apply eq_ok
        by_cases hxa : x = a
        · simp [wipeE, DL.getD, op2, neD_int, truth, hxa]
        · simp [wipeE, DL.getD, op2, neD_int, truth, hxa, i1, i2, i3]
      · apply eq_ok
        simp [wipeE, DL.getD]
  · rintro env T ⟨rfl, a3, a4, a5, a6, rfl⟩
    simp [r_scons, DL.getD, getO]
theorem eq_chr (a b : Nat) : eqD2 (chr a) (chr b) = some (.bool (decide (a = b))) := by
  have : ((⟨#[a]⟩ : Str) = ⟨#[b]⟩) ↔ a = b := by simp
  simp only [eqD2, chr, eqv_str, PyData.depth]
  simp
/-- the labels as classes -/
def sameL (n : Net) (x y : Int) : Bool := decide (lab n x = lab n y)
theorem cls_lab (O : n.Ok) : Cls n (.str n.l) (sameL n) := ⟨fun x y x0 x1 y0 y1 => ⟨_, _, lab_idx O x0 x1, lab_idx O y0 y1, eq_chr _ _⟩⟩
theorem mem_covers {same : Int → Int → Bool} {l : List Pr} {x : D} (h : x ∈ coversD n same l) : ∃ p ∈ l, ∃ c ∈ coverAt n same p, x = .tuple [.int p.1, .int p.2, .int c] := by
  unfold coversD at h
  obtain ⟨p, hp, hx⟩ := List.mem_flatMap.mp h
  refine ⟨p, hp, ?_⟩
  unfold encC at hx
  split at hx
  · cases hx
  · rename_i c r e
    simp at hx
    exact ⟨c, by rw [e]; simp, hx⟩
theorem covers_nil {same : Int → Int → Bool} {l : List Pr} : coversD n same l = [] ↔ ∀ p ∈ l, coverAt n same p = [] := by
  unfold coversD
  rw [List.flatMap_eq_nil_iff]
  refine forall_congr' fun p => forall_congr' fun _ => ?_
  unfold encC
  split <;> simp [*]
theorem mem_coverAt {same : Int → Int → Bool} {p : Pr} {x : Int} : x ∈ coverAt n same p ↔ (x ∈ rowOf n.e p.2 ∨ x = p.2) ∧ x ≠ p.1 ∧ same x p.1 = true := by
  unfold coverAt
  rw [List.mem_filter, mem_near]
  simp
theorem covers_atoms (same : Int → Int → Bool) (l : List Pr) (h : l.length ≤ 1000000) : AlD 2 (.tuple (coversD n same l)) := .inr ⟨_, rfl, Nat.le_trans (coversD_len same l) h, fun x hx => by
  obtain ⟨p, _, c, _, rfl⟩ := mem_covers hx
  exact .inr ⟨_, rfl, by simp, fun y hy => by
    simp at hy
    rcases hy with rfl | rfl | rfl <;> trivial⟩⟩
def tr3 (q : Pr × Int) : D := .tuple [.int q.1.1, .int q.1.2, .int q.2]
def coversP (n : Net) (same : Int → Int → Bool) (l : List Pr) : List (Pr × Int) := l.flatMap fun p => match coverAt n same p with
  | [] => []
  | x :: _ => [(p, x)]
theorem coversD_eq (same : Int → Int → Bool) (l : List Pr) : coversD n same l = (coversP n same l).map tr3 := by
  unfold coversD coversP
  rw [List.map_flatMap]
  congr 1
  funext p
  unfold encC
  split <;> rfl
theorem mem_coversP {same : Int → Int → Bool} {l : List Pr} {p : Pr} : p ∈ (coversP n same l).map (·.1) ↔ p ∈ l ∧ coverAt n same p ≠ [] := by
  unfold coversP
  simp only [List.mem_map, List.mem_flatMap]
  constructor
  · rintro ⟨q, ⟨r, hr, hq⟩, rfl⟩
    split at hq
    · cases hq
    · rename_i e
      simp at hq
      subst hq
      exact ⟨hr, by rw [e]; simp⟩
  · rintro ⟨hp, hc⟩
    cases e : coverAt n same p with
    | nil => exact absurd e hc
    | cons x r => exact ⟨(p, x), ⟨p, hp, by rw [e]; simp⟩, rfl⟩
theorem tr3_atoms (l : List (Pr × Int)) (h : l.length ≤ 1000000) : AlD 2 (.tuple (l.map tr3)) := .inr ⟨_, rfl, by simpa using h, fun x hx => by
  obtain ⟨q, _, rfl⟩ := List.mem_map.mp hx
  exact .inr ⟨_, rfl, by simp, fun y hy => by
    simp at hy
    rcases hy with rfl | rfl | rfl <;> trivial⟩⟩
theorem eq_nilD (xs : List D) : eqD2 (.list xs) (.list []) = some (.bool (decide (xs = []))) := by
  cases xs <;> simp [eqD2, PyData.depth, PyData.depthAll, PyData.eqv, PyData.eqvAll]
theorem ne_nilD (xs : List D) : neD2 (.list xs) (.list []) = some (.bool (!decide (xs = []))) := by
  cases xs <;> simp [neD2, PyData.depth, PyData.depthAll, PyData.eqv, PyData.eqvAll]
/-- a sent link in the clear is not covered by the sender's own label -/
theorem hv_clear {n : Net} {a b : Int} (h0 : 0 ≤ a) (h : hv n.e b snd = a) : a ∈ snd ∧ b ∉ snd ∧ ∀ x ∈ rowOf n.e b, x ∈ snd → x = a := by
  unfold hv at h
  split at h
  · omega
  · rename_i hb
    split at h
    · omega
    · rename_i y hy
      subst h
      have hm : y ∈ (rowOf n.e b).filter (fun x => decide (x ∈ snd)) := by rw [hy]; simp
      refine ⟨by simpa using (List.mem_filter.mp hm).2, hb, fun x hx hs => ?_⟩
      have : x ∈ (rowOf n.e b).filter (fun x => decide (x ∈ snd)) := List.mem_filter.mpr ⟨hx, by simpa using hs⟩
      rw [hy] at this
      simpa using this
    · omega
theorem hv_one (O : n.Ok) {a b : Int} (h0 : 0 ≤ b) (h1 : b < n.m) (ha : a ∈ rowOf n.e b) (hs : a ∈ snd) (hb : b ∉ snd) (hx : ∀ x ∈ rowOf n.e b, x ∈ snd → x = a) : hv n.e b snd = a := by
  unfold hv
  rw [if_neg hb]
  have e : (rowOf n.e b).filter (fun x => decide (x ∈ snd)) = [a] := by
    have e1 : (rowOf n.e b).filter (fun x => decide (x ∈ snd)) = (rowOf n.e b).filter (fun x => a == x) := List.filter_congr fun x hxm => by
      by_cases h : a = x
      · subst h; simp [hs]
      · have : x ∉ snd := fun z => h (hx x hxm z).symm
        simp [h, this]
    rw [e1]
    exact filter_eq_one (row_nd O h0 h1) ha
  rw [e]
theorem clear_cover (O : n.Ok) {z : Str} {p : Pr} (h : p ∈ clearL n (wl n z)) : coverAt n (sameL n) p = [] := by
  unfold clearL at h
  obtain ⟨h1, h2⟩ := List.mem_filter.mp h
  obtain ⟨y0, y1, y2⟩ := (mem_links O).mp (show (p.1, p.2) ∈ links n from h1)
  have ha := (row_ok O y0 y1).1 p.1 y2
  obtain ⟨g1, g2, g3⟩ := hv_clear (by omega) (eq_of_beq h2)
  rw [List.eq_nil_iff_forall_not_mem]
  intro x hx
  obtain ⟨x1, x2, x3⟩ := mem_coverAt.mp hx
  unfold sameL at x3
  have x3 := of_decide_eq_true x3
  obtain ⟨w0, w1, w2⟩ := mem_wl.mp g1
  rcases x1 with x1 | x1
  · have hxr := (row_ok O y0 y1).1 x x1
    exact x2 (g3 x x1 (mem_wl.mpr ⟨by omega, by omega, by rw [x3]; exact w2⟩))
  · subst x1
    exact g2 (mem_wl.mpr ⟨by omega, by omega, by rw [x3]; exact w2⟩)
theorem cover_clear (O : n.Ok) {p : Pr} (h : p ∈ links n) (hc : coverAt n (sameL n) p = []) : p ∈ clearL n (wl n ⟨#[lab n p.1]⟩) := by
  obtain ⟨y0, y1, y2⟩ := (mem_links O).mp (show (p.1, p.2) ∈ links n from h)
  have ha := (row_ok O y0 y1).1 p.1 y2
  have nc : ∀ x, (x ∈ rowOf n.e p.2 ∨ x = p.2) → x ≠ p.1 → lab n x ≠ lab n p.1 := fun x h1 h2 h3 => by
    have : x ∈ coverAt n (sameL n) p := mem_coverAt.mpr ⟨h1, h2, by unfold sameL; exact decide_eq_true h3⟩
    rw [hc] at this
    cases this
  have mw : ∀ x, x ∈ wl n ⟨#[lab n p.1]⟩ ↔ 0 ≤ x ∧ x < n.m ∧ lab n x = lab n p.1 := fun x => by
    rw [mem_wl]
    simp
  unfold clearL
  refine List.mem_filter.mpr ⟨h, ?_⟩
  rw [beq_iff_eq]
  refine hv_one O y0 y1 y2 ((mw _).mpr ⟨by omega, by omega, rfl⟩) (fun z => ?_) (fun x hx z => ?_)
  · exact nc p.2 (.inr rfl) (fun e => by omega) ((mw _).mp z).2.2
  · by_cases e : x = p.1
    · exact e
    · exact absurd ((mw _).mp z).2.2 (nc x (.inl hx) e)
/-- the first place, or none -/
theorem first_nn {rows : List (List Pr)} {p : Pr} : (∃ l ∈ rows, p ∈ l) ↔ 0 ≤ firstAt rows p := by
  have hm : ∀ i : Int, i ∈ hits rows p ↔ 0 ≤ i ∧ ∃ l, rows[i.toNat]? = some l ∧ p ∈ l := fun i => by
    unfold hits
    simp only [List.mem_map, List.mem_filter, decide_eq_true_eq]
    constructor
    · rintro ⟨j, ⟨q, ⟨hq, hp⟩, rfl⟩, rfl⟩
      obtain ⟨_, _, h3⟩ := mem_idx hq
      exact ⟨by omega, q.1, by simpa using h3, hp⟩
    · rintro ⟨h0, l, h1, h2⟩
      refine ⟨i.toNat, ⟨(l, i.toNat), ⟨?_, h2⟩, rfl⟩, by omega⟩
      rw [List.mem_zipIdx_iff_getElem?]
      exact h1
  unfold firstAt
  constructor
  · rintro ⟨l, hl, hp⟩
    obtain ⟨i, hi⟩ := List.mem_iff_getElem?.mp hl
    have hin : ((i : Nat) : Int) ∈ hits rows p := (hm _).mpr ⟨by omega, l, by simpa using hi, hp⟩
    cases e : hits rows p with
    | nil => rw [e] at hin; cases hin
    | cons x r =>
      have : x ∈ hits rows p := by rw [e]; simp
      exact ((hm x).mp this).1
  · intro h
    cases e : hits rows p with
    | nil => rw [e] at h; simp at h
    | cons x r =>
      have : x ∈ hits rows p := by rw [e]; simp
      obtain ⟨_, l, h1, h2⟩ := (hm x).mp this
      exact ⟨l, List.mem_of_getElem? h1, h2⟩
theorem first_neg {rows : List (List Pr)} {p : Pr} : firstAt rows p = -1 ↔ ¬ ∃ l ∈ rows, p ∈ l := by
  rw [first_nn]
  constructor
  · intro h; omega
  · intro h
    unfold firstAt at h ⊢
    split
    · rfl
    · rename_i x r e
      rw [e] at h
      simp only at h
      have hx : x ∈ hits rows p := by rw [e]; simp
      unfold hits at hx
      obtain ⟨j, _, rfl⟩ := List.mem_map.mp hx
      omega
end
end DL.P
end

section
/-! P1: forbidden labels, clashes, the table -/
namespace DL.P
open PySem DL
section
variable {F k : Nat} {S : Store} {Q : Av → Store → Prop} {R : Str → D → Store → Prop} {n : Net} {snd : List Int}
def others (n : Net) (p : Pr) : List Int := (rowOf n.e p.2).filter (fun x => !decide (x = p.1)) ++ [p.2]
def forbL (n : Net) (p : Pr) : List Nat := abc.filter fun c => decide (c ∈ (others n p).map (lab n))
def forbZ (n : Net) (p : Pr) : Str := ⟨(forbL n p).toArray⟩
theorem single_inj {a b : Nat} (h : (⟨#[a]⟩ : Str) = ⟨#[b]⟩) : a = b := by simpa using h
theorem link_in' (O : n.Ok) {p : Pr} (h : p ∈ links n) : (0 ≤ p.1 ∧ p.1 < n.m) ∧ 0 ≤ p.2 ∧ p.2 < n.m ∧ p.1 ∈ rowOf n.e p.2 ∧ p.1 ≠ p.2 := by
  obtain ⟨y0, y1, y2⟩ := (mem_links O).mp (show (p.1, p.2) ∈ links n from h)
  have := (row_ok O y0 y1).1 p.1 y2
  exact ⟨⟨by omega, by omega⟩, y0, y1, y2, by omega⟩
theorem mem_others (O : n.Ok) {p : Pr} (h : p ∈ links n) {x : Int} : x ∈ others n p ↔ (x ∈ rowOf n.e p.2 ∨ x = p.2) ∧ x ≠ p.1 := by
  obtain ⟨_, _, _, _, hne⟩ := link_in' O h
  unfold others
  rw [List.mem_append, List.mem_filter]
  simp
  constructor
  · rintro (⟨h1, h2⟩ | rfl)
    · exact ⟨.inl h1, h2⟩
    · exact ⟨.inr rfl, fun e => hne e.symm⟩
  · rintro ⟨h1 | h1, h2⟩
    · exact .inl ⟨h1, h2⟩
    · exact .inr h1
theorem others_in (O : n.Ok) {p : Pr} (h : p ∈ links n) {x : Int} (hx : x ∈ others n p) : 0 ≤ x ∧ x < n.m := by
  obtain ⟨_, y0, y1, _, _⟩ := link_in' O h
  rcases ((mem_others O h).mp hx).1 with h1 | rfl
  · have := (row_ok O y0 y1).1 x h1
    omega
  · omega
theorem others_len (O : n.Ok) {p : Pr} (h : p ∈ links n) : (others n p).length ≤ 8 := by
  obtain ⟨_, y0, y1, _, _⟩ := link_in' O h
  have h1 := row_len O y0 y1
  have h2 := List.length_filter_le (fun x => !decide (x = p.1)) (rowOf n.e p.2)
  unfold others
  rw [List.length_append]
  simp
  omega
theorem mem_forb (O : n.Ok) {p : Pr} (h : p ∈ links n) {c : Nat} : c ∈ forbL n p ↔ ∃ x ∈ others n p, lab n x = c := by
  unfold forbL
  rw [List.mem_filter]
  simp only [decide_eq_true_eq, List.mem_map]
  constructor
  · exact fun h => h.2
  · rintro ⟨x, hx, rfl⟩
    obtain ⟨x0, x1⟩ := others_in O h hx
    exact ⟨lab_abc O x0 x1, x, hx, rfl⟩
theorem singles_up {l : List Nat} (h : l.Pairwise (· < ·)) : (l.map fun c => (⟨#[c]⟩ : Str)).Pairwise ltS := by
  rw [List.pairwise_map]
  refine h.imp fun {a b} hab => ?_
  show ([a] : List Nat) < [b]
  exact List.cons_lt_cons_iff.mpr (.inl hab)
theorem forb_sset (O : n.Ok) {p : Pr} (h : p ∈ links n) : ssetS ((others n p).map fun x => (⟨#[lab n x]⟩ : Str)) = (forbL n p).map fun c => (⟨#[c]⟩ : Str) := by
  refine ltS_uniq (ssetS_lt _) (singles_up (abc_lt.filter _)) fun z => ?_
  rw [mem_ssetS]
  simp only [List.mem_map]
  constructor
  · rintro ⟨x, hx, rfl⟩
    exact ⟨lab n x, (mem_forb O h).mpr ⟨x, hx, rfl⟩, rfl⟩
  · rintro ⟨c, hc, rfl⟩
    obtain ⟨x, hx, rfl⟩ := (mem_forb O h).mp hc
    exact ⟨x, hx, rfl⟩
theorem join_arr {cs : List Nat} (h : cs.length ≤ 1000) : joinD2 (.str "") (.list (cs.map chr)) = some (.str ⟨cs.toArray⟩) := by
  obtain ⟨z, h1, h2⟩ := join_chrs h
  rw [h1]
  congr 2
  exact str_ext (by rw [h2])
theorem forb_len (p : Pr) : (forbL n p).length ≤ 7 := by
  have := List.length_filter_le (fun c => decide (c ∈ (others n p).map (lab n))) abc
  rw [abc_len] at this
  exact this
theorem sp_forb (O : n.Ok) {p : Pr} (h : p ∈ links n) : run tb F (k + 1) f_forbidden_labels [.d n.d, .d (pr p)] S = some (.ok (.d (.str (forbZ n p))), S) := by
  rw [run_eq (d := d_forbidden_labels) rfl]
  apply eq_ok
  rw [run_callDef]
  obtain ⟨_, y0, y1, y2, _⟩ := link_in' O h
  have g := row_getD O y0 y1
  have hrl := row_len O y0 y1
  have hol := others_len O h
  have i0 : idxD2 n.d (.int 0) = some (.str n.l) := rfl
  have i1 : idxD2 n.d (.int 1) = some (.tuple (n.e.map fun r => PyData.tuple (r.map .int))) := rfl
  have i2 : idxD2 (.tuple (n.e.map fun r => PyData.tuple (r.map .int))) (.int p.2) = some (tupI (rowOf n.e p.2)) := g
  have it : items (tupI (rowOf n.e p.2)) = some ((rowOf n.e p.2).map .int) := rfl
  simp [d_forbidden_labels, r_scons, env0, slotOf, DL.getD, pr, bind1, op2, i1, i2, it]
  rw [run_cmp PyData.int (fun x => !decide (x = p.1)) .int]
  · have ea : addD2 (.list (((rowOf n.e p.2).filter fun x => !decide (x = p.1)).map .int)) (.list [.int p.2]) = some (.list ((others n p).map .int)) := by
      have h2 := List.length_filter_le (fun x => !decide (x = p.1)) (rowOf n.e p.2)
      rw [add_lst (by rw [List.length_map]; have := lim_big; simp at h2 ⊢; omega)]
      unfold others
      simp
    simp only [ea, run_lift_some]
    simp [DL.getD, items]
    rw [run_cmpY PyData.int (fun x => chr (lab n x))]
    · have e1 : ((others n p).map fun x => chr (lab n x)) = ((others n p).map fun x => (⟨#[lab n x]⟩ : Str)).map .str := by rw [List.map_map]; rfl
      have e2 : ((forbL n p).map fun c => (⟨#[c]⟩ : Str)).map PyData.str = (forbL n p).map chr := by rw [List.map_map]; rfl
      have hfl := forb_len (n := n) p
      simp only [e1, sset_strs (l := (others n p).map fun x => (⟨#[lab n x]⟩ : Str)) (by rw [List.length_map]; omega), forb_sset O h, e2, join_arr (cs := forbL n p) (by omega), run_lift_some, op2]
      simp [forbZ]
    · intro x hx
      obtain ⟨x0, x1⟩ := others_in O h hx
      refine ⟨_, rfl, ?_⟩
      apply eq_ok
      simp [wipeE, DL.getD, op2, i0, lab_idx O x0 x1]
  · intro x hx
    refine ⟨_, rfl, ?_, fun _ => ?_⟩
    · apply eq_ok
      simp [wipeE, DL.getD, op2, neD_int, truth]
    · apply eq_ok
      simp [wipeE, DL.getD]
theorem inn_chrL (c : Nat) (cs : List Nat) : innD2 (chr c) (.list (cs.map chr)) = some (.bool (decide (c ∈ cs))) := by
  have e1 : cs.map chr = (cs.map fun x => (⟨#[x]⟩ : Str)).map .str := by rw [List.map_map]; rfl
  have h1 : innD2 (chr c) (.list (cs.map chr)) = if (chr c).depth ≤ 100 then some (.bool (isIn (chr c) (cs.map chr))) else none := rfl
  rw [h1, e1, show chr c = .str ⟨#[c]⟩ from rfl, isIn_str]
  simp [PyData.depth]
theorem sp_lforb (O : n.Ok) {p : Pr} (h : p ∈ links n) : run tb F (k + 1) f__law_forbid [.d n.d, .d (pr p)] S = some (.ok (.d (.list ((forbL n p).map chr))), S) := by
  rw [run_eq (d := d__law_forbid) rfl]
  apply eq_ok
  rw [run_callDef]
  obtain ⟨_, y0, y1, y2, _⟩ := link_in' O h
  have g := row_getD O y0 y1
  have hrl := row_len O y0 y1
  have i0 : idxD2 n.d (.int 0) = some (.str n.l) := rfl
  have i1 : idxD2 n.d (.int 1) = some (.tuple (n.e.map fun r => PyData.tuple (r.map .int))) := rfl
  have i2 : idxD2 (.tuple (n.e.map fun r => PyData.tuple (r.map .int))) (.int p.2) = some (tupI (rowOf n.e p.2)) := g
  have it : items (tupI (rowOf n.e p.2)) = some ((rowOf n.e p.2).map .int) := rfl
  have j0 : idxD2 (pr p) (.int 0) = some (.int p.1) := rfl
  have j1 : idxD2 (pr p) (.int 1) = some (.int p.2) := rfl
  simp [d__law_forbid, r_scons, env0, slotOf, DL.getD, op2, j0, j1, i1, i2, it]
  rw [run_cmp PyData.int (fun x => !decide (x = p.1)) .int]
  · have ea : addD2 (.list (((rowOf n.e p.2).filter fun x => !decide (x = p.1)).map .int)) (.list [.int p.2]) = some (.list ((others n p).map .int)) := by
      have h2 := List.length_filter_le (fun x => !decide (x = p.1)) (rowOf n.e p.2)
      rw [add_lst (by rw [List.length_map]; have := lim_big; simp at h2 ⊢; omega)]
      unfold others
      simp
    have ia : items (.str "abcdefg") = some (abc.map chr) := rfl
    simp only [ea, run_lift_some]
    simp only [r_rt, r_comp, r_seq, r_cst, ia, run_lift_some, List.set_cons_succ, List.set_cons_zero]
    rw [run_cmp chr (fun c => decide (c ∈ (others n p).map (lab n))) chr]
    · simp [forbL]
    · intro c hc
      refine ⟨_, rfl, ?_, fun _ => ?_⟩
      · apply eq_ok
        simp [wipeE, DL.getD, items]
        rw [run_cmpY PyData.int (fun x => chr (lab n x))]
        · have e1 : ((others n p).map fun x => chr (lab n x)) = ((others n p).map (lab n)).map chr := by rw [List.map_map]; rfl
          have e2 := inn_chrL c ((others n p).map (lab n))
          simp only [e1, op2, e2, run_lift_some, truth]
          simp
        · intro x hx
          obtain ⟨x0, x1⟩ := others_in O h hx
          refine ⟨_, rfl, ?_⟩
          apply eq_ok
          simp [DL.getD, op2, i0, lab_idx O x0 x1]
      · apply eq_ok
        simp [wipeE, DL.getD]
  · intro x hx
    refine ⟨_, rfl, ?_, fun _ => ?_⟩
    · apply eq_ok
      simp [wipeE, DL.getD, op2, j0, neD_int, truth]
    · apply eq_ok
      simp [wipeE, DL.getD]
def clashB (n : Net) (p q : Pr) : Bool := decide (lab n p.1 ∈ forbL n q) || decide (lab n q.1 ∈ forbL n p)
theorem clash_symm (p q : Pr) : clashB n p q = clashB n q p := by
  unfold clashB
  rw [Bool.or_comm]
theorem inn_forbZ (c : Nat) (p : Pr) : innD2 (chr c) (.str (forbZ n p)) = some (.bool (decide (c ∈ forbL n p))) := by
  rw [inn_chr]
  rfl
theorem sp_do_clash (O : n.Ok) {p q : Pr} (hp : p ∈ links n) (hq : q ∈ links n) : run tb F (k + 2) f_do_clash [.d n.d, .d (pr p), .d (pr q)] S = some (.ok (.d (.bool (clashB n p q))), S) := by
  rw [run_eq (d := d_do_clash) rfl]
  apply eq_ok
  rw [run_callDef]
  obtain ⟨⟨p0, p1⟩, _⟩ := link_in' O hp
  obtain ⟨⟨q0, q1⟩, _⟩ := link_in' O hq
  have i0 : idxD2 n.d (.int 0) = some (.str n.l) := rfl
  have j0 : ∀ p, idxD2 (pr p) (.int 0) = some (.int p.1) := fun _ => rfl
  have y1 := fun (S : Store) => sp_forb (F := F) (k := k) (S := S) O hp
  have y2 := fun (S : Store) => sp_forb (F := F) (k := k) (S := S) O hq
  unfold clashB
  by_cases hc : lab n p.1 ∈ forbL n q
  · simp [d_do_clash, r_scons, env0, slotOf, DL.getD, op2, i0, j0, lab_idx O p0 p1, run_ok (y2 _), inn_forbZ, asB, hc]
  · simp [d_do_clash, r_scons, env0, slotOf, DL.getD, op2, i0, j0, lab_idx O p0 p1, lab_idx O q0 q1, run_ok (y1 _), run_ok (y2 _), inn_forbZ, asB, hc]
theorem sp_lclashes (O : n.Ok) {p q : Pr} (hp : p ∈ links n) (hq : q ∈ links n) : run tb F (k + 2) f__law_clashes [.d n.d, .d (pr p), .d (pr q)] S = some (.ok (.d (.bool (clashB n p q))), S) := by
  rw [run_eq (d := d__law_clashes) rfl]
  apply eq_ok
  rw [run_callDef]
  obtain ⟨⟨p0, p1⟩, _⟩ := link_in' O hp
  obtain ⟨⟨q0, q1⟩, _⟩ := link_in' O hq
  have i0 : idxD2 n.d (.int 0) = some (.str n.l) := rfl
  have j0 : ∀ p, idxD2 (pr p) (.int 0) = some (.int p.1) := fun _ => rfl
  have y1 := fun (S : Store) => sp_lforb (F := F) (k := k) (S := S) O hp
  have y2 := fun (S : Store) => sp_lforb (F := F) (k := k) (S := S) O hq
  unfold clashB
  by_cases hc : lab n p.1 ∈ forbL n q
  · simp [d__law_clashes, r_scons, env0, slotOf, DL.getD, op2, i0, j0, lab_idx O p0 p1, run_ok (y2 _), inn_chrL, asB, hc]
  · simp [d__law_clashes, r_scons, env0, slotOf, DL.getD, op2, i0, j0, lab_idx O p0 p1, lab_idx O q0 q1, run_ok (y1 _), run_ok (y2 _), inn_chrL, asB, hc]
/-- the table of clashes -/
def rowT (n : Net) (p : Pr) : List Int := (((links n).zipIdx.filter fun q => clashB n p q.1).map (·.2)).map fun (i : Nat) => (i : Int)
def tabT (n : Net) : List (List Int) := (links n).map (rowT n)
def encT' (t : List (List Int)) : D := .list (t.map fun r => .list (r.map .int))
theorem tabT_len : (tabT n).length = (links n).length := by simp [tabT]
theorem mem_rowT {p : Pr} {i : Int} : i ∈ rowT n p ↔ 0 ≤ i ∧ ∃ q, (links n)[i.toNat]? = some q ∧ clashB n p q = true := by
  unfold rowT
  simp only [List.mem_map, List.mem_filter]
  constructor
  · rintro ⟨j, ⟨q, ⟨hq, hc⟩, rfl⟩, rfl⟩
    exact ⟨by omega, q.1, by simpa using (mem_idx hq).2.2, hc⟩
  · rintro ⟨h0, q, h1, h2⟩
    exact ⟨i.toNat, ⟨(q, i.toNat), ⟨List.mem_zipIdx_iff_getElem?.mpr h1, h2⟩, rfl⟩, by omega⟩
theorem sp_clash_table (O : n.Ok) : run tb F (k + 3) f_clash_table [.d n.d] S = some (.ok (.d (encT' (tabT n))), S) := by
  rw [run_eq (d := d_clash_table) rfl]
  apply eq_ok
  rw [run_callDef]
  have b1 := fun (S : Store) => sp_all_links (k := k + 1) (F := F) (S := S) O
  simp [d_clash_table, r_scons, env0, slotOf, DL.getD, run_ok (b1 _), items]
  rw [run_cmpY pr (fun p => .list ((rowT n p).map .int))]
  · simp [encT', tabT]
  · intro p hp
    refine ⟨_, rfl, ?_⟩
    apply eq_ok
    simp [wipeE, DL.getD, items]
    rw [enum_map, run_cmp _ (fun q => clashB n p q.1) (fun q => .int (q.2 : Int))]
    · simp [rowT]
    · intro q hq
      have y := fun (S : Store) => sp_do_clash (F := F) (k := k) (S := S) O hp (mem_idx hq).1
      refine ⟨_, rfl, ?_, fun _ => ?_⟩
      · apply eq_ok
        simp [DL.getD, run_ok (y _), truth]
      · apply eq_ok
        simp [DL.getD]
theorem sp_ltable (O : n.Ok) : run tb F (k + 3) f__law_table [.d n.d] S = some (.ok (.d (encT' (tabT n))), S) := by
  rw [run_eq (d := d__law_table) rfl]
  apply eq_ok
  rw [run_callDef]
  have b1 := fun (S : Store) => sp_links (k := k + 1) (F := F) (S := S) O
  have hll := links_len O
  have hlim := lim_big
  have h3 : (((links n).length : Int) ≤ LIM ∧ -(LIM : Int) ≤ (links n).length) := by omega
  simp [d__law_table, r_scons, env0, slotOf, DL.getD, run_ok (b1 _), items]
  rw [run_cmpY pr (fun p => .list ((rowT n p).map .int))]
  · simp [encT', tabT]
  · intro p hp
    refine ⟨_, rfl, ?_⟩
    apply eq_ok
    simp [wipeE, DL.getD, op1, lenD1, asInt, h3.1, h3.2]
    rw [rngI_0, run_cmp _ (fun (i : Nat) => ((links n)[i]?.map (clashB n p)).getD false) (fun (i : Nat) => .int (i : Int))]
    · have e := range_zip (links n) (clashB n p) (fun (i : Nat) => ((links n)[i]?.map (clashB n p)).getD false) fun i hi => by simp [List.getElem?_eq_getElem hi]
      rw [e]
      simp [rowT]
    · intro i hi
      rw [List.mem_range] at hi
      have hq : (links n)[i]? = some (links n)[i] := List.getElem?_eq_getElem hi
      have y := fun (S : Store) => sp_lclashes (F := F) (k := k) (S := S) O hp (List.getElem_mem hi)
      have g : getI ((links n).map pr) (i : Int) = some (pr (links n)[i]) := by
        rw [getI_nn (by omega)]
        simp [hq]
      refine ⟨_, rfl, ?_, fun _ => ?_⟩
      · apply eq_ok
        simp [DL.getD, op2, idxD2, g, run_ok (y _), truth, hq]
      · apply eq_ok
        simp [DL.getD]
end
end DL.P
end

section
/-! P2: placing by trial, in plain terms -/
namespace DL.P
open PySem DL
def confB (tab : List (List Int)) (done : List Int) (w : Int) : Bool := ((tab[done.length]?).getD []).any fun o => decide (o < done.length) && decide ((done[o.toNat]?).getD (-1) = w)
def maxL (done : List Int) : Int := done.foldl (fun a b => if b > a then b else a) (-1)
def topN (slots : Nat) (done : List Int) : Nat := min slots (maxL done + 2).toNat
def tryF (tab : List (List Int)) (pl : List Int → Option (List Int)) (done : List Int) : Nat → Nat → Option (List Int)
  | _, 0 => none
  | w, m + 1 => if confB tab done (w : Int) then tryF tab pl done (w + 1) m else match pl (done ++ [(w : Int)]) with
    | some s => some s
    | none => tryF tab pl done (w + 1) m
def placeN (tab : List (List Int)) (slots : Nat) : Nat → List Int → Option (List Int)
  | 0, done => some done
  | r + 1, done => tryF tab (placeN tab slots r) done 0 (topN slots done)
section
variable {tab : List (List Int)} {slots : Nat}
theorem tryF_some {pl : List Int → Option (List Int)} {done : List Int} : ∀ {w m : Nat} (s : Nat), w ≤ s → s < w + m → confB tab done (s : Int) = false → (pl (done ++ [(s : Int)])).isSome = true → (tryF tab pl done w m).isSome = true
  | w, 0, s, h1, h2, _, _ => by omega
  | w, m + 1, s, h1, h2, hc, hp => by
    unfold tryF
    by_cases e : w = s
    · subst e
      rw [hc]
      simp only [Bool.false_eq_true, if_false]
      cases hq : pl (done ++ [(w : Int)]) with
      | none => rw [hq] at hp; cases hp
      | some x => rfl
    · have ih := tryF_some (pl := pl) (done := done) (w := w + 1) (m := m) s (by omega) (by omega) hc hp
      split
      · exact ih
      · split
        · rfl
        · exact ih
theorem tryF_get {pl : List Int → Option (List Int)} {done sol : List Int} : ∀ {w m : Nat}, tryF tab pl done w m = some sol → ∃ s : Nat, w ≤ s ∧ s < w + m ∧ confB tab done (s : Int) = false ∧ pl (done ++ [(s : Int)]) = some sol
  | w, 0, h => by cases h
  | w, m + 1, h => by
    unfold tryF at h
    split at h
    · obtain ⟨s, h1, h2, h3⟩ := tryF_get h
      exact ⟨s, by omega, by omega, h3⟩
    · rename_i hc
      split at h
      · rename_i x hx
        cases h
        exact ⟨w, by omega, by omega, by simpa using hc, hx⟩
      · obtain ⟨s, h1, h2, h3⟩ := tryF_get h
        exact ⟨s, by omega, by omega, h3⟩
theorem foldmax_snoc (l : List Int) (x : Int) : maxL (l ++ [x]) = if x > maxL l then x else maxL l := by
  unfold maxL
  rw [List.foldl_append]
  rfl
theorem maxL_ge : ∀ (l : List Int), -1 ≤ maxL l ∧ ∀ x ∈ l, x ≤ maxL l := by
  have key : ∀ (l : List Int) (a : Int), a ≤ l.foldl (fun a b => if b > a then b else a) a ∧ ∀ x ∈ l, x ≤ l.foldl (fun a b => if b > a then b else a) a := by
    intro l
    induction l with
    | nil => intro a; simp
    | cons b r ih =>
      intro a
      rw [List.foldl_cons]
      obtain ⟨h1, h2⟩ := ih (if b > a then b else a)
      refine ⟨Int.le_trans (by split <;> omega) h1, fun x hx => ?_⟩
      rcases List.mem_cons.mp hx with rfl | hx
      · exact Int.le_trans (by split <;> omega) h1
      · exact h2 x hx
  exact fun l => key l (-1)
theorem nd_len : ∀ (K : Nat) {l : List Nat}, l.Nodup → (∀ x ∈ l, x < K) → l.length ≤ K
  | 0, l, _, h => by
    cases l with
    | nil => simp
    | cons a r => exact absurd (h a List.mem_cons_self) (by omega)
  | K + 1, l, nd, h => by
    by_cases hm : K ∈ l
    · have := nd_len K (nd.erase K) fun x hx => by
        obtain ⟨h1, h2⟩ := (List.Nodup.mem_erase_iff nd).mp hx
        have := h x h2
        omega
      rw [List.length_erase_of_mem hm] at this
      omega
    · have := nd_len K nd fun x hx => by
        have := h x hx
        have : x ≠ K := fun e => hm (e ▸ hx)
        omega
      omega
/-- where a right placing in so many slots is, one is found -/
theorem place_complete {K L : Nat} (c : Nat → Nat) (hc : ∀ i, i < L → c i < K) (hv : ∀ i, i < L → ∀ o ∈ (tab[i]?).getD [], 0 ≤ o → o < i → c o.toNat ≠ c i) (hn : ∀ i : Nat, ∀ o ∈ (tab[i]?).getD [], 0 ≤ o) : ∀ (r : Nat) (done : List Int) (σ : List Nat), done.length + r = L →
    (∀ i (h : i < done.length), 0 ≤ done[i] ∧ σ[done[i].toNat]? = some (c i)) → σ.Nodup → (∀ x ∈ σ, x < K) → maxL done + 1 = σ.length → (placeN tab K r done).isSome = true
  | 0, done, σ, _, _, _, _, _ => rfl
  | r + 1, done, σ, hl, hd, nd, hk, hm => by
    unfold placeN
    have hci := hc done.length (by omega)
    have hlen := nd_len K nd hk
    have conf : ∀ s : Nat, (σ[s]? = some (c done.length) ∨ s = σ.length) → confB tab done (s : Int) = false := by
      intro s hs
      unfold confB
      rw [List.any_eq_false]
      intro o ho
      simp only [Bool.and_eq_true, decide_eq_true_eq, not_and]
      intro ho2 he
      have ho0 := hn _ o ho
      have hlt : o.toNat < done.length := by omega
      rw [List.getElem?_eq_getElem hlt] at he
      obtain ⟨h1, h2⟩ := hd o.toNat hlt
      simp only [Option.getD_some] at he
      rw [he, Int.toNat_natCast] at h2
      rcases hs with hs | hs
      · rw [hs] at h2
        exact hv done.length (by omega) o ho ho0 ho2 (Option.some.inj h2).symm
      · subst hs
        rw [List.getElem?_eq_none (Nat.le_refl _)] at h2
        cases h2
    have ext : ∀ (s : Nat) (σ' : List Nat), (∀ (j x : Nat), σ[j]? = some x → σ'[j]? = some x) → σ'[s]? = some (c done.length) → ∀ i (h : i < (done ++ [(s : Int)]).length), 0 ≤ (done ++ [(s : Int)])[i] ∧ σ'[((done ++ [(s : Int)])[i]).toNat]? = some (c i) := by
      intro s σ' hσ hs i h
      by_cases hi : i < done.length
      · rw [List.getElem_append_left hi]
        obtain ⟨h1, h2⟩ := hd i hi
        exact ⟨h1, hσ _ _ h2⟩
      · have e : i = done.length := by simp at h; omega
        subst e
        rw [List.getElem_append_right (Nat.le_refl _)]
        simp
        exact hs
    by_cases hin : c done.length ∈ σ
    · obtain ⟨s, hs⟩ := List.mem_iff_getElem?.mp hin
      have hsl : s < σ.length := (List.getElem?_eq_some_iff.mp hs).1
      refine tryF_some s (by omega) (by unfold topN; omega) (conf s (.inl hs)) ?_
      refine place_complete c hc hv hn r _ σ (by simp; omega) (ext s σ (fun _ _ h => h) hs) nd hk ?_
      rw [foldmax_snoc, if_neg (by omega)]
      exact hm
    · have nd' : (σ ++ [c done.length]).Nodup := by
        rw [List.nodup_append]
        refine ⟨nd, by simp, fun a ha b hb => ?_⟩
        simp at hb
        subst hb
        exact fun e => hin (e ▸ ha)
      have hk' : ∀ x ∈ σ ++ [c done.length], x < K := fun x hx => by
        rcases List.mem_append.mp hx with hx | hx
        · exact hk x hx
        · simp at hx
          subst hx
          exact hci
      have hlen' := nd_len K nd' hk'
      simp at hlen'
      refine tryF_some σ.length (by omega) (by unfold topN; omega) (conf _ (.inr rfl)) ?_
      refine place_complete c hc hv hn r _ (σ ++ [c done.length]) (by simp; omega) (ext _ _ (fun j x h => ?_) (by simp)) nd' hk' ?_
      · rw [List.getElem?_append_left (List.getElem?_eq_some_iff.mp h).1]
        exact h
      · rw [foldmax_snoc, if_pos (by omega)]
        simp
/-- what is found lies in the slots -/
theorem place_sound : ∀ (r : Nat) (done sol : List Int), placeN tab slots r done = some sol → (∀ x ∈ done, 0 ≤ x ∧ x < (slots : Int)) → sol.length = done.length + r ∧ ∀ x ∈ sol, 0 ≤ x ∧ x < (slots : Int)
  | 0, done, sol, h, hd => by
    cases h
    exact ⟨rfl, hd⟩
  | r + 1, done, sol, h, hd => by
    unfold placeN at h
    obtain ⟨s, h1, h2, h3, h4⟩ := tryF_get h
    obtain ⟨g1, g2⟩ := place_sound r _ sol h4 fun x hx => by
      rcases List.mem_append.mp hx with hx | hx
      · exact hd x hx
      · simp at hx
        subst hx
        unfold topN at h2
        omega
    refine ⟨?_, g2⟩
    rw [g1]
    simp
    omega
/-- from a wish on, the first that is free -/
def skipN (tab : List (List Int)) (done : List Int) : Nat → Nat → Nat
  | w, 0 => w
  | w, m + 1 => if confB tab done (w : Int) then skipN tab done (w + 1) m else w
theorem skip_le {done : List Int} : ∀ {w m : Nat}, w ≤ skipN tab done w m ∧ skipN tab done w m ≤ w + m
  | w, 0 => by simp [skipN]
  | w, m + 1 => by
    have := skip_le (done := done) (w := w + 1) (m := m)
    unfold skipN
    split <;> omega
theorem tryF_skip {pl : List Int → Option (List Int)} {done : List Int} : ∀ {w m : Nat}, tryF tab pl done w m = if skipN tab done w m < w + m then (match pl (done ++ [((skipN tab done w m : Nat) : Int)]) with
    | some s => some s
    | none => tryF tab pl done (skipN tab done w m + 1) (w + m - (skipN tab done w m + 1))) else none
  | w, 0 => by simp [tryF, skipN]
  | w, m + 1 => by
    have ih := tryF_skip (pl := pl) (done := done) (w := w + 1) (m := m)
    have e0 : tryF tab pl done w (m + 1) = if confB tab done (w : Int) then tryF tab pl done (w + 1) m else match pl (done ++ [(w : Int)]) with
      | some s => some s
      | none => tryF tab pl done (w + 1) m := rfl
    have e1 : skipN tab done w (m + 1) = if confB tab done (w : Int) then skipN tab done (w + 1) m else w := rfl
    rw [e0, e1]
    by_cases hc : confB tab done (w : Int) = true
    · rw [if_pos hc, if_pos hc, ih]
      have e : w + 1 + m = w + (m + 1) := by omega
      rw [e]
    · rw [if_neg hc, if_neg hc, if_pos (by omega)]
      have e : w + (m + 1) - (w + 1) = m := by omega
      rw [e]
end
end DL.P
end

section
/-! P3: the loop that places -/
namespace DL.P
open PySem DL
theorem run_wh {c : Env → M Bool} {b : Env → M Fl} {n : Nat} {env : Env} {S : Store} {Q : Fl → Store → Prop} {R : Str → D → Store → Prop} : Run (whileM c b (n + 1) env) S Q R ↔ Run (c env) S (fun r T => if r = true then Run (b env) T (fun f U => match f with
    | .next e => Run (whileM c b n e) U Q R
    | .cont e => Run (whileM c b n e) U Q R
    | .brk e => Q (.next e) U
    | .ret v => Q (.ret v) U) R else Q (.next env) T) R := by
  simp only [whileM, run_bnd, run_ite, run_rt]
  constructor
  · exact fun h => h.mono (fun r T h => by
      split at h
      · rename_i hr
        rw [if_pos hr]
        exact h.mono (fun f U q => by cases f <;> simpa using q) fun _ _ _ z => z
      · rename_i hr
        rw [if_neg hr]
        exact h) fun _ _ _ z => z
  · exact fun h => h.mono (fun r T h => by
      split at h
      · rename_i hr
        rw [if_pos hr]
        exact h.mono (fun f U q => by cases f <;> simpa using q) fun _ _ _ z => z
      · rename_i hr
        rw [if_neg hr]
        exact h) fun _ _ _ z => z
section
variable {F k : Nat} {S : Store} {Q : Av → Store → Prop} {R : Str → D → Store → Prop}
def placedB : Ss := match ssDrop 1 d_placed.body with
  | .cons (.wh _ b) _ => b
  | _ => .nil
def placedC : T := match ssDrop 1 d_placed.body with
  | .cons (.wh c _) _ => c
  | _ => .yes
def seekC : T := match ssDrop 2 placedB with
  | .cons (.wh c _) _ => c
  | _ => .yes
def seekB : Ss := match ssDrop 2 placedB with
  | .cons (.wh _ b) _ => b
  | _ => .nil
/-- a table whose rows name places -/
structure TabOk (tab : List (List Int)) : Prop where
  nn : ∀ i : Nat, ∀ o ∈ (tab[i]?).getD [], 0 ≤ o
  len : tab.length ≤ 30
variable {tab : List (List Int)} {slots : Nat}
theorem any_bools (l : List Int) (c g : Int → Bool) : anyD1 (.list ((l.filter c).map fun x => .bool (g x))) = some (.bool (l.any fun x => c x && g x)) := by
  simp only [anyD1, asBools_map, Option.map_some]
  congr 2
  induction l with
  | nil => rfl
  | cons a r ih =>
    rw [List.filter_cons, List.any_cons]
    cases hc : c a
    · simpa [hc] using ih
    · simp only [if_true, List.map_cons, List.any_cons, ih]
      simp
theorem seek_run (T : TabOk tab) {done : List Int} (hd : done.length < tab.length) {goal : List D} {a7 : Option Slot} {P : Fl → Store → Prop} : ∀ (m w G : Nat), m < G → w + m = topN slots done →
    (∀ w', w' = skipN tab done w m → P (.next [some (.dat (encT' tab)), some (.dat (.int slots)), some (.own (done.map .int)), some (.own goal), some (.dat (.int (topN slots done : Nat))), some (.dat (.int (done.length : Nat))), some (.dat (.int (w' : Nat))), a7]) S) →
    Run (whileM (evT ⟨run tb F k, F⟩ seekC) (evSs ⟨run tb F k, F⟩ seekB) G [some (.dat (encT' tab)), some (.dat (.int slots)), some (.own (done.map .int)), some (.own goal), some (.dat (.int (topN slots done : Nat))), some (.dat (.int (done.length : Nat))), some (.dat (.int (w : Nat))), a7]) S P NoR := by
  intro m
  induction m with
  | zero =>
    intro w G hG hw hP
    obtain ⟨G, rfl⟩ : ∃ G', G = G' + 1 := ⟨G - 1, by omega⟩
    rw [run_wh]
    have hlt : ¬ ((w : Int) < (topN slots done : Nat)) := by omega
    simp only [seekC, placedB, ssDrop, d_placed]
    simp [DL.getD, op2, ltD2, hlt, truth, asB]
    exact hP w rfl
  | succ m ih =>
    intro w G hG hw hP
    obtain ⟨G, rfl⟩ : ∃ G', G = G' + 1 := ⟨G - 1, by omega⟩
    rw [run_wh]
    have hlt : ((w : Int) < (topN slots done : Nat)) := by omega
    have hg : tab[done.length]? = some tab[done.length] := List.getElem?_eq_getElem hd
    have gi : getI (tab.map fun r => PyData.list (r.map .int)) (done.length : Int) = some (.list ((tab[done.length]).map .int)) := by
      rw [getI_nn (by omega)]
      simp [hg]
    have ih := ih (w + 1) G (by omega) (by omega)
    simp only [seekC, seekB, placedB, ssDrop, d_placed] at ih ⊢
    simp [DL.getD, op2, ltD2, hlt, truth, asB, encT', idxD2, gi, items]
    rw [run_cmp PyData.int (fun o => decide (o < (done.length : Int))) (fun o => .bool (decide ((done[o.toNat]?).getD (-1) = (w : Int))))]
    · have e : (tab[done.length].any fun o => decide (o < (done.length : Int)) && decide ((done[o.toNat]?).getD (-1) = (w : Int))) = confB tab done (w : Int) := by
        unfold confB
        rw [hg]
        rfl
      simp only [op1, any_bools, e, run_lift_some]
      by_cases hc : confB tab done (w : Int) = true
      · simp [hc, truth, DL.getD, asInt, r_scons]
        refine ih fun w' hw' => hP w' ?_
        have e1 : skipN tab done w (m + 1) = if confB tab done (w : Int) then skipN tab done (w + 1) m else w := rfl
        rw [hw', e1, if_pos hc]
      · simp only [Bool.not_eq_true] at hc
        simp [hc, truth]
        refine hP w ?_
        have e1 : skipN tab done w (m + 1) = if confB tab done (w : Int) then skipN tab done (w + 1) m else w := rfl
        rw [e1, if_neg (by simp [hc])]
    · intro o ho
      have h0 : 0 ≤ o := T.nn done.length o (by rw [hg]; exact ho)
      refine ⟨_, rfl, ?_, fun hc => ?_⟩
      · apply eq_ok
        simp [wipeE, DL.getD, op2, ltD2, truth]
      · have hlt : o.toNat < done.length := by
          have := of_decide_eq_true hc
          omega
        have g : getI (done.map PyData.int) o = some (.int done[o.toNat]) := by
          rw [getI_nn h0]
          simp [List.getElem?_eq_getElem hlt]
        apply eq_ok
        simp [wipeE, DL.getD, getO, op2, idxD2, g, eqD_int, List.getElem?_eq_getElem hlt]
theorem ixI_last {m : Nat} (h : 0 < m) : ixI m (-1) = some (m - 1) := by
  unfold ixI
  rw [if_neg (by omega), if_pos (by omega)]
  congr 1
  omega
theorem maxD_done {done : List Int} (hd : done ≠ []) (hn : ∀ x ∈ done, 0 ≤ x) : maxD1 (.list (done.map .int)) = some (.int (maxL done)) := by
  cases done with
  | nil => exact absurd rfl hd
  | cons a r =>
    have ha := hn a List.mem_cons_self
    have e : maxI (a :: r) = some (maxL (a :: r)) := by
      unfold maxL
      rw [List.foldl_cons, if_pos (by omega)]
      rfl
    simp only [maxD1, asInts_map, Option.bind_some, e, Option.map_some]
abbrev envP (tab : List (List Int)) (slots : Nat) (done goal : List Int) (a4 a5 a6 a7 : Option Slot) : Env := [some (.dat (encT' tab)), some (.dat (.int slots)), some (.own (done.map .int)), some (.own (goal.map .int)), a4, a5, a6, a7]
/-- one turn of the loop -/
theorem placed_step (T : TabOk tab) (hF : 100 ≤ F) (hs : slots ≤ 20) {done gs : List Int} (hd : done.length < tab.length) (hn : ∀ x ∈ done, 0 ≤ x) (hg : gs.length = done.length) {w : Nat} (hw : w ≤ topN slots done) {a4 a5 a6 a7 : Option Slot} {P : Fl → Store → Prop}
    (h1 : skipN tab done w (topN slots done - w) < topN slots done → ∀ b4 b5 b6 b7, P (.next (envP tab slots (done ++ [((skipN tab done w (topN slots done - w) : Nat) : Int)]) (gs ++ [((skipN tab done w (topN slots done - w) : Nat) : Int) + 1] ++ [0]) b4 b5 b6 b7)) S)
    (h2 : ¬ skipN tab done w (topN slots done - w) < topN slots done → gs = [] → P (.ret (.d .none)) S)
    (h3 : ¬ skipN tab done w (topN slots done - w) < topN slots done → gs ≠ [] → ∀ b4 b5 b6 b7, P (.next (envP tab slots done.dropLast gs b4 b5 b6 b7)) S) :
    Run (evSs ⟨run tb F k, F⟩ placedB (envP tab slots done (gs ++ [(w : Int)]) a4 a5 a6 a7)) S P NoR := by
  have hlim := lim_big
  have hT := T.len
  have seek := fun (a7 : Option Slot) (P : Fl → Store → Prop) (hP) => seek_run (F := F) (k := k) (S := S) (slots := slots) T hd (goal := (gs ++ [(w : Int)]).map .int) (a7 := a7) (P := P) (topN slots done - w) w F (by unfold topN at *; omega) (by omega) hP
  have htop : topN slots done ≤ 20 := by unfold topN; omega
  have gl : getI ((gs ++ [(w : Int)]).map PyData.int) (-1) = some (.int w) := getI_last (by simp)
  have etop : Run (evE ⟨run tb F k, F⟩ (.op2 .min2 (.var 1) (.ite (.e (.ro 2)) (.op2 .add (.op1 .max (.ro 2)) (.cst (.int 2))) (.cst (.int 1)))) [some (.dat (encT' tab)), some (.dat (.int slots)), some (.own (done.map .int)), some (.own ((gs ++ [(w : Int)]).map .int)), a4, some (.dat (.int (done.length : Nat))), some (.dat (.int (w : Nat))), a7]) S (fun x U => x = .int (topN slots done : Nat) ∧ U = S) NoR := by
    by_cases he : done = []
    · have e0 : topN slots [] = min slots 1 := rfl
      simp [DL.getD, getO, he, truth, op2, min2D2, e0]
      split <;> omega
    · have hm := (maxL_ge done).1
      have hb : done.isEmpty = false := by simpa using he
      simp [DL.getD, getO, he, truth, op1, maxD_done he hn, op2, addD2, min2D2]
      unfold topN
      split <;> omega
  simp only [placedB, seekC, seekB, ssDrop, d_placed] at seek ⊢
  rw [r_scons]
  simp only [r_par, r_re, r_op1, r_op2, r_ro, r_cst, getO, List.getElem?_cons_succ, List.getElem?_cons_zero, Option.map_some, run_lift_some, op1, op2, lenD1, negD1, idxD2, gl, List.length_map, List.set_cons_succ, List.set_cons_zero]
  rw [r_scons]
  simp only [r_set, r_re]
  refine etop.mono ?_ fun _ _ _ z => z.elim
  rintro x U ⟨rfl, rfl⟩
  simp only [List.set_cons_succ, List.set_cons_zero]
  rw [r_scons]
  rw [DL.r_wh]
  refine seek a7 _ fun w' hw' => ?_
  rw [← hw'] at h1 h2 h3
  dsimp only
  rw [r_scons]
  by_cases hlt : w' < topN slots done
  · have hlt' : (w' : Int) < (topN slots done : Nat) := by omega
    have hix : ixI (gs.length + 1) (-1) = some gs.length := ixI_last (by omega)
    have hd2 : done.length < LIM := by omega
    have hg2 : gs.length + 1 < LIM := by omega
    have h1 := h1 hlt
    have es' : List.set (List.map PyData.int gs ++ [PyData.int ↑w]) gs.length (PyData.int (↑w' + 1)) = List.map PyData.int gs ++ [PyData.int (↑w' + 1)] := by
      have h : gs.length = (gs.map PyData.int).length := by simp
      rw [h, List.set_append]
      simp
    simp [DL.getD, op2, ltD2, hlt', truth, r_scons, getO, op1, negD1, addD2, asInt, hix, hd2, hg2, es']
    have z := h1 (some (.dat (.int (topN slots done : Nat)))) (some (.dat (.int (done.length : Nat)))) (some (.dat (.int (w' : Nat)))) a7
    simpa [envP] using z
  · have hlt' : ¬ (w' : Int) < (topN slots done : Nat) := by omega
    simp [DL.getD, op2, ltD2, hlt', truth, r_scons, getO]
    by_cases hgs : gs = []
    · have z := h2 hlt hgs
      simp [hgs]
      exact z
    · have hdn : done ≠ [] := by
        intro e
        rw [e] at hg
        exact hgs (List.eq_nil_of_length_eq_zero hg)
      have z := h3 hlt hgs (some (.dat (.int (topN slots done : Nat)))) (some (.dat (.int (done.length : Nat)))) (some (.dat (.int (w' : Nat)))) a7
      simp [hgs, hdn]
      simpa [envP] using z
end
end DL.P
end

section
/-! P4: what is placed, by the loop and by the law -/
namespace DL.P
open PySem DL
section
variable {F k : Nat} {S : Store} {Q : Av → Store → Prop} {R : Str → D → Store → Prop} {tab : List (List Int)} {slots : Nat}
abbrev loopP (F k : Nat) : Nat → Env → M Fl := whileM (evT ⟨run tb F k, F⟩ placedC) (evSs ⟨run tb F k, F⟩ placedB)
def LoopR (F k : Nat) (S : Store) (tab : List (List Int)) (slots : Nat) (res : Option (List Int)) (done gs : List Int) (w : Int) (b : Nat) : Prop :=
  ∃ c, c ≤ b ∧ ∀ (F0 : Nat) (P : Fl → Store → Prop) (a4 a5 a6 a7 : Option Slot),
    (∀ sol, res = some sol → ∀ goal b4 b5 b6 b7, P (.next (envP tab slots sol goal b4 b5 b6 b7)) S) →
    (res = none → gs = [] → P (.ret (.d .none)) S) →
    (res = none → gs ≠ [] → ∀ b4 b5 b6 b7, Run (loopP F k F0 (envP tab slots done.dropLast gs b4 b5 b6 b7)) S P NoR) →
    Run (loopP F k (F0 + c) (envP tab slots done (gs ++ [w]) a4 a5 a6 a7)) S P NoR
theorem placed_T (T : TabOk tab) (hF : 100 ≤ F) (hs : slots ≤ 9) {r : Nat}
    (ih : ∀ done gs : List Int, done.length + r = tab.length → (∀ x ∈ done, 0 ≤ x) → gs.length = done.length → LoopR F k S tab slots (placeN tab slots r done) done gs 0 (20 ^ (r + 1))) :
    ∀ (m w : Nat) (done gs : List Int), w + m = topN slots done → done.length + (r + 1) = tab.length → (∀ x ∈ done, 0 ≤ x) → gs.length = done.length → LoopR F k S tab slots (tryF tab (placeN tab slots r) done w m) done gs (w : Int) (m * (1 + 20 ^ (r + 1)) + 1) := by
  intro m
  induction m using Nat.strongRecOn with
  | ind m IH =>
    intro w done gs hw hl hn hg
    have hsk := skip_le (tab := tab) (done := done) (w := w) (m := m)
    have htf := tryF_skip (tab := tab) (pl := placeN tab slots r) (done := done) (w := w) (m := m)
    have hm : topN slots done - w = m := by omega
    have step := fun (a4 a5 a6 a7 : Option Slot) (P : Fl → Store → Prop) h1 h2 h3 => placed_step (F := F) (k := k) (S := S) (slots := slots) T hF (by omega) (done := done) (gs := gs) (by omega) hn hg (w := w) (by omega) (a4 := a4) (a5 := a5) (a6 := a6) (a7 := a7) (P := P) h1 h2 h3
    rw [hm] at step
    have cond : ∀ (goal : List Int) (a4 a5 a6 a7 : Option Slot) (P : Bool → Store → Prop), P true S → Run (evT ⟨run tb F k, F⟩ placedC (envP tab slots done goal a4 a5 a6 a7)) S P NoR := by
      intro goal a4 a5 a6 a7 P hP
      have hlt : done.length < tab.length := by omega
      simp only [placedC, ssDrop, d_placed]
      simp [DL.getD, getO, op1, lenD1, encT', op2, ltD2, hlt, truth]
      exact hP
    generalize skipN tab done w m = w' at hsk htf step
    by_cases hlt : w' < w + m
    · rw [if_pos hlt] at htf
      have htop : w' < topN slots done := by omega
      obtain ⟨c1, hc1, k1⟩ := ih (done ++ [(w' : Int)]) (gs ++ [(w' : Int) + 1]) (by simp; omega) (fun x hx => by
        rcases List.mem_append.mp hx with hx | hx
        · exact hn x hx
        · simp at hx
          omega) (by simp; omega)
      obtain ⟨c2, hc2, k2⟩ := IH (w + m - (w' + 1)) (by omega) (w' + 1) done gs (by omega) hl hn hg
      refine ⟨c2 + c1 + 1, ?_, fun F0 P a4 a5 a6 a7 q1 q2 q3 => ?_⟩
      · have hle : (w + m - (w' + 1)) + 1 ≤ m := by omega
        have := Nat.mul_le_mul_right (1 + 20 ^ (r + 1)) hle
        rw [Nat.add_mul, Nat.one_mul] at this
        omega
      · show Run (loopP F k (F0 + (c2 + c1 + 1)) _) S P NoR
        rw [show F0 + (c2 + c1 + 1) = (F0 + c2 + c1) + 1 by omega]
        unfold loopP
        rw [run_wh]
        refine cond _ _ _ _ _ _ ?_
        simp only [if_true]
        refine step a4 a5 a6 a7 _ (fun _ b4 b5 b6 b7 => ?_) (fun h => absurd htop h) (fun h => absurd htop h)
        dsimp only
        refine k1 (F0 + c2) P b4 b5 b6 b7 (fun sol hsol => ?_) (fun _ h => by simp at h) (fun hnone _ b4 b5 b6 b7 => ?_)
        · refine q1 sol ?_
          rw [htf, hsol]
        · have e : (done ++ [(w' : Int)]).dropLast = done := by simp
          rw [e]
          have e2 : tryF tab (placeN tab slots r) done w m = tryF tab (placeN tab slots r) done (w' + 1) (w + m - (w' + 1)) := by
            rw [htf, hnone]
          have e3 : ((w' : Int) + 1) = ((w' + 1 : Nat) : Int) := by omega
          rw [e3]
          rw [e2] at q1 q2 q3
          exact k2 F0 P b4 b5 b6 b7 q1 q2 q3
    · rw [if_neg hlt] at htf
      have htop : ¬ w' < topN slots done := by omega
      refine ⟨1, by omega, fun F0 P a4 a5 a6 a7 q1 q2 q3 => ?_⟩
      unfold loopP
      rw [run_wh]
      refine cond _ _ _ _ _ _ ?_
      simp only [if_true]
      refine step a4 a5 a6 a7 _ (fun h => absurd h htop) (fun _ hgs => ?_) (fun _ hgs b4 b5 b6 b7 => ?_)
      · exact q2 htf hgs
      · exact q3 htf hgs b4 b5 b6 b7
theorem placed_R (T : TabOk tab) (hF : 100 ≤ F) (hs : slots ≤ 9) : ∀ (r : Nat) (done gs : List Int), done.length + r = tab.length → (∀ x ∈ done, 0 ≤ x) → gs.length = done.length → LoopR F k S tab slots (placeN tab slots r done) done gs 0 (20 ^ (r + 1)) := by
  intro r
  induction r with
  | zero =>
    intro done gs hl hn hg
    refine ⟨1, by decide, fun F0 P a4 a5 a6 a7 q1 q2 q3 => ?_⟩
    unfold loopP
    rw [run_wh]
    have hlt : ¬ done.length < tab.length := by omega
    simp only [placedC, ssDrop, d_placed]
    simp [DL.getD, getO, op1, lenD1, encT', op2, ltD2, hlt, truth]
    have z := q1 done rfl (gs ++ [0]) a4 a5 a6 a7
    simpa [envP, encT'] using z
  | succ r ih =>
    intro done gs hl hn hg
    obtain ⟨c, hc, kk⟩ := placed_T (k := k) (S := S) T hF hs ih (topN slots done) 0 done gs (by omega) hl hn hg
    refine ⟨c, ?_, kk⟩
    have h1 : topN slots done ≤ 9 := by unfold topN; omega
    have h2 := Nat.mul_le_mul_right (1 + 20 ^ (r + 1)) h1
    have h3 : 20 ^ (r + 1 + 1) = 20 ^ (r + 1) * 20 := Nat.pow_succ _ _
    have h4 : 20 ≤ 20 ^ (r + 1) := by
      rw [Nat.pow_succ]
      have := Nat.pow_pos (n := r) (show 0 < 20 by decide)
      omega
    omega
def resD (o : Option (List Int)) : D := match o with
  | some s => tupI s
  | none => .none
theorem sp_placed (T : TabOk tab) (hF : 20 ^ 31 ≤ F) (hs : slots ≤ 9) : run tb F (k + 1) f_placed [.d (encT' tab), .d (.int slots)] S = some (.ok (.d (resD (placeN tab slots tab.length []))), S) := by
  rw [run_eq (d := d_placed) rfl]
  apply eq_ok
  rw [run_callDef]
  have h20 : (100 : Nat) ≤ 20 ^ 31 := by decide
  obtain ⟨c, hc, kk⟩ := placed_R (F := F) (k := k) (S := S) T (Nat.le_trans h20 hF) hs tab.length [] [] (by simp) (fun x hx => by cases hx) rfl
  have hcF : c ≤ F := by
    have h1 : 20 ^ (tab.length + 1) ≤ 20 ^ 31 := Nat.pow_le_pow_right (by decide) (by have := T.len; omega)
    exact Nat.le_trans hc (Nat.le_trans h1 hF)
  refine ⟨rfl, ?_⟩
  have tail : ∀ (sol goal : List Int) (b4 b5 b6 b7 : Option Slot), Run (evSs ⟨run tb F k, F⟩ (ssDrop 2 d_placed.body) (envP tab slots sol goal b4 b5 b6 b7)) S (fun f T => f = .ret (.d (tupI sol)) ∧ T = S) NoR := by
    intro sol goal b4 b5 b6 b7
    simp only [ssDrop, d_placed]
    simp [r_scons, getO, op1, tupleD1, tupI]
  have loop := kk (F - c) (fun f T => match f with
    | .next e => Run (evSs ⟨run tb F k, F⟩ (ssDrop 2 d_placed.body) e) T (fun f T => f = .ret (.d (resD (placeN tab slots tab.length []))) ∧ T = S) NoR
    | .ret v => v = .d (resD (placeN tab slots tab.length [])) ∧ T = S
    | _ => False) none none none none (fun sol hsol goal b4 b5 b6 b7 => by
      dsimp only
      rw [hsol]
      exact tail sol goal b4 b5 b6 b7) (fun hnone _ => by
      dsimp only
      rw [hnone]
      exact ⟨rfl, rfl⟩) (fun _ h => absurd rfl h)
  rw [show F - c + c = F by omega] at loop
  unfold loopP at loop
  have e0 : (env0 d_placed [Av.d (encT' tab), Av.d (.int slots)]) = [some (.dat (encT' tab)), some (.dat (.int slots)), none, none, none, none, none, none] := rfl
  rw [e0]
  simp only [placedC, placedB, ssDrop, d_placed] at loop ⊢
  rw [r_scons]
  simp only [r_par, r_rown, r_lst, r_enil, r_econs, r_cst, List.set_cons_succ, List.set_cons_zero]
  rw [r_scons]
  rw [DL.r_wh]
  refine loop.mono ?_ fun _ _ _ z => z.elim
  intro f T q
  cases f with
  | next e =>
    dsimp only at q ⊢
    refine Run.mono q ?_ fun _ _ _ z => z.elim
    rintro f U ⟨rfl, rfl⟩
    exact ⟨rfl, List.take_length⟩
  | ret v =>
    dsimp only at q ⊢
    obtain ⟨rfl, rfl⟩ := q
    exact ⟨rfl, List.take_length⟩
  | brk e => exact q.elim
  | cont e => exact q.elim
end
end DL.P
end

section
/-! P5: the least slots -/
namespace DL.P
open PySem DL
section
variable {F k : Nat} {S : Store} {Q : Av → Store → Prop} {R : Str → D → Store → Prop} {tab : List (List Int)} {slots : Nat} {n : Net}
def resL (o : Option (List Int)) : D := match o with
  | some s => .list (s.map .int)
  | none => .none
def NoSelf (tab : List (List Int)) : Prop := ∀ i : Nat, (i : Int) ∉ (tab[i]?).getD []
theorem sp_lplace (T : TabOk tab) (NS : NoSelf tab) (hs : slots ≤ 9) : ∀ (r k : Nat) (done : List Int), done.length + r = tab.length → run tb F (k + (r + 1)) f__law_place [.d (encT' tab), .d (.int slots), .d (.list (done.map .int))] S = some (.ok (.d (resL (placeN tab slots r done))), S) := by
  intro r
  have hlim := lim_big
  have hT := T.len
  induction r with
  | zero =>
    intro k done hl
    rw [run_eq (f := f__law_place) (d := d__law_place) rfl]
    apply eq_ok
    rw [run_callDef]
    have e : (done.length : Int) = tab.length := by omega
    simp [d__law_place, r_scons, env0, slotOf, DL.getD, op1, lenD1, encT', op2, eqD_int, e, truth, placeN, resL]
  | succ r ih =>
    intro k done hl
    rw [show k + (r + 1 + 1) = (k + (r + 1)) + 1 by omega, run_eq (f := f__law_place) (d := d__law_place) rfl]
    apply eq_ok
    rw [run_callDef]
    have e : ¬ ((done.length : Int) = tab.length) := by omega
    have em : maxD1 (.list (.int (-1) :: done.map .int)) = some (.int (maxL done)) := by
      have h : asInts (PyData.int (-1) :: done.map .int) = some (-1 :: done) := asInts_map (-1 :: done)
      simp only [maxD1, h, Option.bind_some]
      rfl
    have ea : addD2 (.list [.int (-1)]) (.list (done.map .int)) = some (.list (.int (-1) :: done.map .int)) := by
      rw [add_lst (by simp; omega)]
      rfl
    have hmx := (maxL_ge done).1
    have etop : (if 1 + maxL done + 1 < (slots : Int) then 1 + maxL done + 1 else (slots : Int)) = ((topN slots done : Nat) : Int) := by
      unfold topN
      split <;> omega
    have ht9 : topN slots done ≤ 9 := by unfold topN; omega
    have hr : ((topN slots done : Nat) : Int) ≤ LIM ∧ -(LIM : Int) ≤ ((topN slots done : Nat) : Int) := by omega
    simp only [d__law_place]
    refine ⟨rfl, ?_⟩
    rw [r_scons]
    simp [env0, slotOf, DL.getD, op1, lenD1, encT', op2, eqD_int, e, truth]
    rw [r_scons]
    have ai : ∀ a b : Int, addD2 (.int a) (.int b) = some (.int (a + b)) := fun _ _ => rfl
    simp [DL.getD, op1, negD1, op2, ea, em, ai, min2D2]
    rw [etop]
    rw [r_scons]
    simp [DL.getD, asInt, hr.1, hr.2]
    rw [rngI_0]
    refine run_forP _ _ (fun pre env U => U = S ∧ tryF tab (placeN tab slots r) done 0 (topN slots done) = tryF tab (placeN tab slots r) done pre.length (topN slots done - pre.length) ∧ ∃ a4 a5 a6, env = [some (.dat (encT' tab)), some (.dat (.int slots)), some (.dat (.list (done.map .int))), some (.dat (.int (topN slots done : Nat))), a4, a5, a6]) ⟨rfl, by simp, none, none, none, rfl⟩ ?_ ?_
    · rintro pre i post he env U ⟨rfl, hI, a4, a5, a6, rfl⟩
      obtain ⟨g1, g2⟩ := range_split he
      subst g1
      refine ⟨_, rfl, ?_⟩
      have hlt : done.length < tab.length := by omega
      have hg : tab[done.length]? = some tab[done.length] := List.getElem?_eq_getElem hlt
      have gi : getI (tab.map fun r => PyData.list (r.map .int)) (done.length : Int) = some (.list ((tab[done.length]).map .int)) := by
        rw [getI_nn (by omega)]
        simp [hg]
      have ed : addD2 (.list (done.map .int)) (.list [.int (pre.length : Nat)]) = some (.list ((done ++ [((pre.length : Nat) : Int)]).map .int)) := by
        rw [add_lst (by simp; omega)]
        simp
      have em1 : topN slots done - pre.length = (topN slots done - (pre.length + 1)) + 1 := by omega
      rw [em1] at hI
      have et : tryF tab (placeN tab slots r) done pre.length ((topN slots done - (pre.length + 1)) + 1) = if confB tab done (pre.length : Int) then tryF tab (placeN tab slots r) done (pre.length + 1) (topN slots done - (pre.length + 1)) else match placeN tab slots r (done ++ [(pre.length : Int)]) with
        | some s => some s
        | none => tryF tab (placeN tab slots r) done (pre.length + 1) (topN slots done - (pre.length + 1)) := rfl
      rw [et] at hI
      rw [r_scons]
      simp [DL.getD, op1, lenD1, encT', op2, idxD2, gi, items]
      rw [run_cmp PyData.int (fun o => decide (o ≤ (done.length : Int)) && decide (((done ++ [((pre.length : Nat) : Int)])[o.toNat]?).getD (-1) = (pre.length : Int))) .int]
      · have hconf : decide ((((tab[done.length]).filter fun o => decide (o ≤ (done.length : Int)) && decide (((done ++ [((pre.length : Nat) : Int)])[o.toNat]?).getD (-1) = (pre.length : Int))).map PyData.int) = []) = !confB tab done (pre.length : Int) := by
          rw [Bool.eq_iff_iff]
          unfold confB
          rw [hg]
          simp only [decide_eq_true_eq, List.map_eq_nil_iff, List.filter_eq_nil_iff, Bool.not_eq_true', List.any_eq_false, Option.getD_some]
          refine forall_congr' fun o => forall_congr' fun ho => ?_
          have h0 := T.nn done.length o (by rw [hg]; exact ho)
          have hne : o ≠ done.length := fun e => NS done.length (by rw [hg]; rw [e] at ho; exact ho)
          simp only [Bool.and_eq_true, decide_eq_true_eq]
          have hiff : o ≤ (done.length : Int) ↔ o < done.length := by omega
          rw [hiff]
          refine not_congr (and_congr_right fun hlt => ?_)
          rw [List.getElem?_append_left (by omega)]
        simp only [eq_nilD, hconf, run_lift_some, truth]
        by_cases hc : confB tab done (pre.length : Int) = true
        · rw [if_pos hc] at hI
          simp [hc]
          exact hI
        · simp only [Bool.not_eq_true] at hc
          rw [if_neg (by simp [hc])] at hI
          have ih' := ih k (done ++ [((pre.length : Nat) : Int)]) (by simp; omega)
          simp only [hc, Bool.not_false, if_true]
          rw [r_scons]
          have ht : PyData.list (tab.map fun r => PyData.list (r.map .int)) = encT' tab := rfl
          simp only [r_set, r_re, r_call, r_acons, r_anil, r_var, r_op2, r_lst, r_enil, r_econs]
          have em2 : (done ++ [((pre.length : Nat) : Int)]).map PyData.int = done.map PyData.int ++ [.int (pre.length : Nat)] := by simp
          rw [em2] at ih'
          simp [DL.getD, op2, ed, ht, run_ok ih']
          rw [r_scons]
          cases hpl : placeN tab slots r (done ++ [((pre.length : Nat) : Int)]) with
          | none =>
            rw [hpl] at hI
            simp [DL.getD, resL, op1, notNoneD1, truth]
            exact hI
          | some sol =>
            rw [hpl] at hI
            have e2 : placeN tab slots (r + 1) done = some sol := hI
            simp [DL.getD, resL, op1, notNoneD1, truth, r_scons, e2]
      · intro o ho
        have h0 : 0 ≤ o := T.nn done.length o (by rw [hg]; exact ho)
        refine ⟨_, rfl, ?_, fun _ => ?_⟩
        · apply eq_ok
          by_cases hle : o ≤ (done.length : Int)
          · have hlt2 : o.toNat < (done ++ [((pre.length : Nat) : Int)]).length := by simp; omega
            have g : getI ((done ++ [((pre.length : Nat) : Int)]).map PyData.int) o = some (.int (((done ++ [((pre.length : Nat) : Int)])[o.toNat]?).getD (-1))) := by
              rw [getI_nn h0]
              rw [List.getElem?_map, List.getElem?_eq_getElem hlt2]
              rfl
            have em2 : (done ++ [((pre.length : Nat) : Int)]).map PyData.int = done.map PyData.int ++ [.int (pre.length : Nat)] := by simp
            rw [em2] at g
            simp [wipeE, DL.getD, op1, lenD1, op2, leD2, truth, hle, ed, idxD2, g, eqD_int]
          · simp [wipeE, DL.getD, op1, lenD1, op2, leD2, truth, hle]
        · apply eq_ok
          simp [wipeE, DL.getD]
    · rintro env U ⟨rfl, hI, a4, a5, a6, rfl⟩
      rw [List.length_range] at hI
      simp [tryF] at hI
      have e2 : placeN tab slots (r + 1) done = none := by
        unfold placeN
        exact hI
      simp [r_scons, e2, resL]
end
end DL.P
end

section
/-! P6: the first placing in the least slots -/
namespace DL.P
open PySem DL
section
variable {F k : Nat} {S : Store} {Q : Av → Store → Prop} {R : Str → D → Store → Prop} {tab : List (List Int)} {slots : Nat} {n : Net}
def leastP (tab : List (List Int)) : Nat → Nat → Option (Nat × List Int)
  | _, 0 => none
  | s, m + 1 => match placeN tab s tab.length [] with
    | some sol => some (s, sol)
    | none => leastP tab (s + 1) m
theorem leastP_get {p : Nat × List Int} : ∀ {s m : Nat}, leastP tab s m = some p → s ≤ p.1 ∧ p.1 < s + m ∧ placeN tab p.1 tab.length [] = some p.2 ∧ ∀ j, s ≤ j → j < p.1 → placeN tab j tab.length [] = none
  | s, 0, h => by cases h
  | s, m + 1, h => by
    unfold leastP at h
    split at h
    · rename_i sol hs
      cases h
      exact ⟨Nat.le_refl _, by show s < s + (m + 1); omega, hs, fun j h1 h2 => by have : j < s := h2; omega⟩
    · rename_i hs
      obtain ⟨h1, h2, h3, h4⟩ := leastP_get h
      refine ⟨by omega, by omega, h3, fun j j1 j2 => ?_⟩
      by_cases e : j = s
      · rw [e]; exact hs
      · exact h4 j (by omega) j2
theorem leastP_some {K : Nat} (h : (placeN tab K tab.length []).isSome = true) : ∀ {s m : Nat}, s ≤ K → K < s + m → ∃ p, leastP tab s m = some p
  | s, 0, h1, h2 => by omega
  | s, m + 1, h1, h2 => by
    unfold leastP
    cases hs : placeN tab s tab.length [] with
    | some sol => exact ⟨_, rfl⟩
    | none =>
      have : s ≠ K := fun e => by rw [e] at hs; rw [hs] at h; cases h
      exact leastP_some h (by omega) (by omega)
/-! the table of a net -/
def same5 (n : Net) : Prop := n.m ≤ 5
theorem allTo_len5 (O : n.Ok) (h5 : n.m ≤ 5) : ∀ i, i ≤ n.m → (allTo n i).length ≤ 5 * i
  | 0, _ => by simp [allTo]
  | i + 1, h => by
    have := allTo_len5 O h5 i (by omega)
    obtain ⟨a, b⟩ := row_ok O (i := (i : Int)) (by omega) (by omega)
    have := lt_len (rising_lt b) (a := 0) (m := n.m) fun x hx => ⟨(a x hx).1, (a x hx).2.1⟩
    rw [allTo_succ, List.length_append, List.length_map]
    omega
theorem links_len5 (O : n.Ok) (h5 : n.m ≤ 5) : (links n).length ≤ 25 := by
  unfold links
  rw [List.length_mergeSort]
  have := allTo_len5 O h5 n.m (Nat.le_refl _)
  have e : allL n = allTo n n.m := rfl
  rw [e]
  omega
theorem tabT_get {i : Nat} {o : Int} (h : o ∈ ((tabT n)[i]?).getD []) : ∃ p, (links n)[i]? = some p ∧ o ∈ rowT n p := by
  unfold tabT at h
  rw [List.getElem?_map] at h
  cases hp : (links n)[i]? with
  | none => rw [hp] at h; cases h
  | some p => rw [hp] at h; exact ⟨p, rfl, h⟩
theorem tabT_ok (O : n.Ok) (h5 : n.m ≤ 5) : TabOk (tabT n) := ⟨fun i o ho => by
  obtain ⟨p, _, h⟩ := tabT_get ho
  exact (mem_rowT.mp h).1, by rw [tabT_len]; have := links_len5 O h5; omega⟩
theorem no_cover_forb (O : n.Ok) (hc : coversD n (sameL n) (links n) = []) {p : Pr} (hp : p ∈ links n) : lab n p.1 ∉ forbL n p := by
  intro h
  obtain ⟨x, hx, e⟩ := (mem_forb O hp).mp h
  obtain ⟨h1, h2⟩ := (mem_others O hp).mp hx
  have : x ∈ coverAt n (sameL n) p := mem_coverAt.mpr ⟨h1, h2, by unfold sameL; exact decide_eq_true e⟩
  rw [covers_nil.mp hc p hp] at this
  cases this
theorem tabT_self (O : n.Ok) (hc : coversD n (sameL n) (links n) = []) : NoSelf (tabT n) := fun i h => by
  obtain ⟨p, hp, hm⟩ := tabT_get h
  obtain ⟨_, q, hq, hcl⟩ := mem_rowT.mp hm
  rw [Int.toNat_natCast, hp] at hq
  cases hq
  have := no_cover_forb O hc (List.mem_of_getElem? hp)
  unfold clashB at hcl
  simp [this] at hcl
/-- a right colouring of the links gives a placing -/
theorem colour_place (O : n.Ok) {K : Nat} (f : Pr → Nat) (h1 : ∀ p ∈ links n, f p < K) (h2 : ∀ p ∈ links n, ∀ q ∈ links n, clashB n p q = true → f q ≠ f p) : (placeN (tabT n) K (tabT n).length []).isSome = true := by
  refine place_complete (tab := tabT n) (K := K) (L := (tabT n).length) (fun i => ((links n)[i]?.map f).getD 0) (fun i hi => ?_) (fun i hi o ho h0 hlt => ?_) (fun i o ho => ?_) _ [] [] (by simp) (fun i h => by cases h) (by simp) (fun x hx => by cases hx) rfl
  · rw [tabT_len] at hi
    rw [List.getElem?_eq_getElem hi]
    exact h1 _ (List.getElem_mem hi)
  · obtain ⟨p, hp, hm⟩ := tabT_get ho
    obtain ⟨_, q, hq, hcl⟩ := mem_rowT.mp hm
    rw [hp, hq]
    exact h2 p (List.mem_of_getElem? hp) q (List.mem_of_getElem? hq) hcl
  · obtain ⟨p, hp, hm⟩ := tabT_get ho
    exact (mem_rowT.mp hm).1
theorem seven_place (O : n.Ok) (hc : coversD n (sameL n) (links n) = []) : (placeN (tabT n) 7 (tabT n).length []).isSome = true := by
  have hin : ∀ p ∈ links n, abc.idxOf (lab n p.1) < 7 ∧ lab n p.1 ∈ abc := fun p hp => by
    obtain ⟨⟨h0, h1⟩, _⟩ := link_in' O hp
    have hm := lab_abc O h0 h1
    refine ⟨?_, hm⟩
    have := List.idxOf_lt_length_of_mem hm
    rw [abc_len] at this
    exact this
  refine colour_place O (fun p => abc.idxOf (lab n p.1)) (fun p hp => (hin p hp).1) fun p hp q hq hcl e => ?_
  have e2 : lab n q.1 = lab n p.1 := by
    have a1 := List.getElem_idxOf (List.idxOf_lt_length_of_mem (hin q hq).2)
    have a2 := List.getElem_idxOf (List.idxOf_lt_length_of_mem (hin p hp).2)
    rw [← a1, ← a2]
    congr 1
  unfold clashB at hcl
  have n1 := no_cover_forb O hc hp
  have n2 := no_cover_forb O hc hq
  rw [e2] at hcl n2
  simp [n1, n2] at hcl
/-- the least slots and the first placing, or none -/
def dueO (n : Net) : Option (Nat × List Int) := if coversD n (sameL n) (links n) = [] then leastP (tabT n) 0 8 else none
theorem due_some (O : n.Ok) (hc : coversD n (sameL n) (links n) = []) : ∃ p, leastP (tabT n) 0 8 = some p ∧ dueO n = some p := by
  obtain ⟨p, hp⟩ := leastP_some (seven_place O hc) (s := 0) (m := 8) (by omega) (by omega)
  refine ⟨p, hp, ?_⟩
  unfold dueO
  rw [if_pos hc, hp]
theorem sp_lleast (O : n.Ok) (h5 : n.m ≤ 5) : run tb F (k + 35) f__law_least [.d n.d] S = some (.ok (.d (resL ((dueO n).map (·.2)))), S) := by
  rw [run_eq (d := d__law_least) rfl]
  apply eq_ok
  rw [run_callDef]
  have i0 : idxD2 n.d (.int 0) = some (.str n.l) := rfl
  have y1 := fun (S : Store) => sp_lcovers (F := F) (k := k + 32) (S := S) O (cls_lab O)
  have y2 := fun (S : Store) => sp_ltable (F := F) (k := k + 31) (S := S) O
  have hl5 := links_len5 O h5
  have e8 : ((asInt (.int 8)).bind fun n => if n ≤ LIM ∧ -(LIM : Int) ≤ n then some (rngI 0 n.toNat) else none) = some (rngI 0 8) := rfl
  simp only [d__law_least]
  refine ⟨rfl, ?_⟩
  rw [r_scons]
  by_cases hc : coversD n (sameL n) (links n) = []
  · have y1' : ∀ S, run tb F (k + 34) f__law_covers [.d n.d, .d (.str n.l)] S = some (.ok (.d (.list [])), S) := fun S => by
      have := y1 S
      rw [hc] at this
      exact this
    have NS := tabT_self O hc
    have T := tabT_ok O h5
    obtain ⟨p, hp, hdue⟩ := due_some O hc
    rw [hdue]
    simp [env0, slotOf, DL.getD, op2, i0, run_ok (y1' _), ne_nilD, truth]
    rw [r_scons]
    simp [DL.getD, run_ok (y2 _)]
    rw [r_scons]
    simp only [r_fr, r_rng1, r_cst, e8, run_lift_some]
    rw [rngI_0]
    refine run_forP _ _ (fun pre env U => U = S ∧ leastP (tabT n) 0 8 = leastP (tabT n) pre.length (8 - pre.length) ∧ ∃ a2 a3, env = [some (.dat n.d), some (.dat (encT' (tabT n))), a2, a3]) ⟨rfl, rfl, _, _, rfl⟩ ?_ ?_
    · rintro pre i post he env U ⟨rfl, hI, a2, a3, rfl⟩
      obtain ⟨g1, g2⟩ := range_split he
      subst g1
      have em : 8 - pre.length = (8 - (pre.length + 1)) + 1 := by omega
      rw [em] at hI
      have et : leastP (tabT n) pre.length ((8 - (pre.length + 1)) + 1) = match placeN (tabT n) pre.length (tabT n).length [] with
        | some sol => some (pre.length, sol)
        | none => leastP (tabT n) (pre.length + 1) (8 - (pre.length + 1)) := rfl
      rw [et] at hI
      have y3 := fun (S : Store) => sp_lplace (F := F) (S := S) (slots := pre.length) T NS (by omega) (tabT n).length (k + 33 - (tabT n).length) [] (by simp)
      have e33 : k + 33 - (tabT n).length + ((tabT n).length + 1) = k + 34 := by rw [tabT_len]; omega
      simp only [e33] at y3
      refine ⟨_, rfl, ?_⟩
      rw [r_scons]
      simp only [List.map_nil] at y3
      simp [DL.getD, run_ok (y3 _)]
      rw [r_scons]
      cases hpl : placeN (tabT n) pre.length (tabT n).length [] with
      | none =>
        rw [hpl] at hI
        have hI' : leastP (tabT n) 0 8 = leastP (tabT n) (pre.length + 1) (8 - (pre.length + 1)) := hI
        simp [DL.getD, resL, op1, notNoneD1, truth]
        simpa using hI'
      | some sol =>
        rw [hpl] at hI
        rw [hp] at hI
        cases hI
        simp [DL.getD, resL, op1, notNoneD1, truth, r_scons]
    · rintro env U ⟨rfl, hI, a2, a3, rfl⟩
      rw [List.length_range, hp] at hI
      cases hI
  · have hdue : dueO n = none := by
      unfold dueO
      rw [if_neg hc]
    rw [hdue]
    simp [env0, slotOf, DL.getD, op2, i0, run_ok (y1 _), ne_nilD, hc, truth, r_scons, resL]
theorem sp_best (O : n.Ok) (h5 : n.m ≤ 5) (hF : 20 ^ 31 ≤ F) : run tb F (k + 4) f_best_placing [.d n.d] S = some (.ok (.d (resD ((dueO n).map (·.2)))), S) := by
  rw [run_eq (d := d_best_placing) rfl]
  apply eq_ok
  rw [run_callDef]
  have i0 : idxD2 n.d (.int 0) = some (.str n.l) := rfl
  have y1 := fun (S : Store) => sp_covers_by (F := F) (k := k + 1) (S := S) O (cls_lab O)
  have y2 := fun (S : Store) => sp_clash_table (F := F) (k := k) (S := S) O
  simp only [d_best_placing]
  refine ⟨rfl, ?_⟩
  rw [r_scons]
  by_cases hc : coversD n (sameL n) (links n) = []
  · have y1' : ∀ S, run tb F (k + 3) f_covers_by [.d n.d, .d (.str n.l)] S = some (.ok (.d (.tuple [])), S) := fun S => by
      have := y1 S
      rw [hc] at this
      exact this
    have T := tabT_ok O h5
    obtain ⟨p, hp, hdue⟩ := due_some O hc
    obtain ⟨q1, q2, q3, q4⟩ := leastP_get hp
    rw [hdue]
    have y3 : ∀ (s : Nat) (S : Store), s ≤ 9 → run tb F (k + 3) f_placed [.d (encT' (tabT n)), .d (.int s)] S = some (.ok (.d (resD (placeN (tabT n) s (tabT n).length []))), S) := fun s S hs => sp_placed (k := k + 2) T hF hs
    have y30 : ∀ (S : Store), run tb F (k + 3) f_placed [.d (encT' (tabT n)), .d (.int 0)] S = some (.ok (.d (resD (placeN (tabT n) 0 (tabT n).length []))), S) := fun S => y3 0 S (by omega)
    simp [env0, slotOf, DL.getD, op2, i0, run_ok (y1' _), truth]
    rw [r_scons]
    simp [DL.getD, run_ok (y2 _)]
    rw [r_scons]
    simp [DL.getD, run_ok (y30 _)]
    rw [r_scons, DL.r_wh]
    have h31 : (100 : Nat) ≤ 20 ^ 31 := by decide
    have hF100 : 100 ≤ F := Nat.le_trans h31 hF
    -- the search
    have loop : ∀ (m s F0 : Nat), m < F0 → s + m = p.1 → ∀ (P : Fl → Store → Prop), P (.next [some (.dat n.d), some (.dat (tupI p.2)), some (.dat (encT' (tabT n))), some (.dat (.int p.1))]) S →
        Run (whileM (evT ⟨run tb F (k + 3), F⟩ (.e (.op1 .isNone (.var 1)))) (evSs ⟨run tb F (k + 3), F⟩ (.cons (.aug 3 (.cst (.int 1))) (.cons (.set 1 (.e (.call f_placed (.cons (.var 2) (.cons (.var 3) .nil))))) .nil))) F0 [some (.dat n.d), some (.dat (resD (placeN (tabT n) s (tabT n).length []))), some (.dat (encT' (tabT n))), some (.dat (.int s))]) S P NoR := by
      intro m
      induction m with
      | zero =>
        intro s F0 h0 hs P hP
        obtain ⟨F0, rfl⟩ : ∃ G, F0 = G + 1 := ⟨F0 - 1, by omega⟩
        have e : s = p.1 := by omega
        subst e
        rw [run_wh, q3]
        simp [DL.getD, resD, tupI, op1, isNoneD1, truth]
        exact hP
      | succ m ih =>
        intro s F0 h0 hs P hP
        obtain ⟨F0, rfl⟩ : ∃ G, F0 = G + 1 := ⟨F0 - 1, by omega⟩
        rw [run_wh, q4 s (by omega) (by omega)]
        have e1 : ((s + 1 : Nat) : Int) = (s : Int) + 1 := by omega
        have y4 := fun (S : Store) => y3 (s + 1) S (by omega)
        have ih' := ih (s + 1) F0 (by omega) (by omega) P hP
        rw [e1] at y4 ih'
        simp [DL.getD, resD, op1, isNoneD1, truth, r_scons, asInt, run_ok (y4 _)]
        simp [resD] at ih'
        exact ih'
    refine loop p.1 0 F (by omega) (by omega) _ ?_
    simp [r_scons, DL.getD, resD]
  · have hdue : dueO n = none := by
      unfold dueO
      rw [if_neg hc]
    rw [hdue]
    simp [env0, slotOf, DL.getD, op2, i0, run_ok (y1 _), hc, truth, r_scons, resD]
theorem sp_first_placing (O : n.Ok) (h5 : n.m ≤ 5) (hF : 20 ^ 31 ≤ F) : run tb F (k + 5) f_first_placing [.d n.d] S = some (.ok (.d (resD ((dueO n).map (·.2)))), S) := by
  rw [run_eq (d := d_first_placing) rfl]
  apply eq_ok
  rw [run_callDef]
  have y := fun (S : Store) => sp_best (F := F) (k := k) (S := S) O h5 hF
  simp [d_first_placing, r_scons, env0, slotOf, DL.getD, sp_check_net _ O.short, O.ok, run_ok (y _)]
def leastN (n : Net) : D := match dueO n with
  | some p => .int (maxL p.2 + 1)
  | none => .none
theorem maxI_done {l : List Int} (hn : ∀ x ∈ l, 0 ≤ x) : (maxI l).getD (-1) = maxL l := by
  cases l with
  | nil => rfl
  | cons a r =>
    have ha := hn a List.mem_cons_self
    unfold maxL
    rw [List.foldl_cons, if_pos (by omega)]
    rfl
theorem due_nn (O : n.Ok) {p : Nat × List Int} (h : dueO n = some p) : (∀ x ∈ p.2, 0 ≤ x ∧ x < (p.1 : Int)) ∧ p.2.length = (links n).length ∧ p.1 ≤ 7 ∧ coversD n (sameL n) (links n) = [] ∧ ∀ j, j < p.1 → placeN (tabT n) j (tabT n).length [] = none := by
  unfold dueO at h
  split at h
  · rename_i hc
    obtain ⟨q1, q2, q3, q4⟩ := leastP_get h
    obtain ⟨g1, g2⟩ := place_sound _ _ _ q3 fun x hx => by cases hx
    refine ⟨g2, ?_, by omega, hc, fun j hj => q4 j (by omega) hj⟩
    rw [g1, tabT_len]
    simp
  · cases h
theorem sp_least_slots (O : n.Ok) (h5 : n.m ≤ 5) (hF : 20 ^ 31 ≤ F) : run tb F (k + 5) f_least_slots [.d n.d] S = some (.ok (.d (leastN n)), S) := by
  rw [run_eq (d := d_least_slots) rfl]
  apply eq_ok
  rw [run_callDef]
  have y := fun (S : Store) => sp_best (F := F) (k := k) (S := S) O h5 hF
  unfold leastN
  cases hd : dueO n with
  | none =>
    rw [hd] at y
    simp [d_least_slots, r_scons, env0, slotOf, DL.getD, sp_check_net _ O.short, O.ok, run_ok (y _), resD, op1, isNoneD1, truth]
  | some p =>
    rw [hd] at y
    have hm := maxI_done fun x hx => ((due_nn O hd).1 x hx).1
    simp [d_least_slots, r_scons, env0, slotOf, DL.getD, sp_check_net _ O.short, O.ok, run_ok (y _), resD, op1, isNoneD1, truth, tupI, negD1, op2, maxDD2, asInts_map, hm, addD2]
end
end DL.P
end

section
/-! P7: right placings, their rules -/
namespace DL.P
open PySem DL
section
variable {F k : Nat} {S : Store} {Q : Av → Store → Prop} {R : Str → D → Store → Prop} {n : Net}
def sAt (s : List Int) (i : Nat) : Int := (s[i]?).getD (-1)
def rngB (s : List Int) : Bool := s.all fun x => decide (0 ≤ x) && decide (x ≤ 11)
def okPair (n : Net) (s : List Int) (p q : Pr × Nat) : Bool := !(decide (sAt s p.2 = sAt s q.2) && clashB n p.1 q.1)
def fitB (n : Net) (s : List Int) : Bool := (links n).zipIdx.all fun p => (links n).zipIdx.all fun q => okPair n s p q
def validB (n : Net) (s : List Int) : Bool := rngB s && fitB n s
theorem sAt_get {s : List Int} {i : Nat} (h : i < s.length) : getI (s.map PyData.int) (i : Int) = some (.int (sAt s i)) := by
  rw [getI_nn (by omega)]
  unfold sAt
  simp [List.getElem?_eq_getElem h]
theorem okPair_symm (s : List Int) (p q : Pr × Nat) : okPair n s p q = okPair n s q p := by
  unfold okPair
  rw [clash_symm, show decide (sAt s p.2 = sAt s q.2) = decide (sAt s q.2 = sAt s p.2) from by rw [decide_eq_decide]; exact eq_comm]
theorem fitB_half {s : List Int} (h : ∀ p ∈ (links n).zipIdx, ∀ q ∈ (links n).zipIdx, q.2 ≤ p.2 → okPair n s p q = true) : fitB n s = true := by
  unfold fitB
  rw [List.all_eq_true]
  intro p hp
  rw [List.all_eq_true]
  intro q hq
  by_cases hle : q.2 ≤ p.2
  · exact h p hp q hq hle
  · rw [okPair_symm]
    exact h q hq p hp (by omega)
def PreOk (n : Net) (s : List Int) (pre : List (Pr × Nat)) : Prop := ∀ p ∈ pre, ∀ q ∈ (links n).zipIdx, q.2 ≤ p.2 → okPair n s p q = true
def RowOk (n : Net) (s : List Int) (p : Pr × Nat) (m : Nat) : Prop := ∀ q ∈ (links n).zipIdx, q.2 < m → okPair n s p q = true
theorem sp_valid (O : n.Ok) {s : List Int} (hs : s.length = (links n).length) : run tb F (k + 4) f_is_valid_placing [.d n.d, .d (tupI s)] S = some (.ok (.d (.bool (validB n s))), S) := by
  rw [run_eq (d := d_is_valid_placing) rfl]
  apply eq_ok
  rw [run_callDef]
  have b1 := fun (S : Store) => sp_all_links (k := k + 2) (F := F) (S := S) O
  have hll := links_len O
  have hlim := lim_big
  have eL : (s.length : Int) = (links n).length := by omega
  simp only [d_is_valid_placing]
  refine ⟨rfl, ?_⟩
  rw [r_scons]
  simp [env0, slotOf, DL.getD, run_ok (b1 _)]
  rw [r_scons]
  simp [DL.getD, op1, isID1, isTy, truth, tupI, lenD1, op2, eqD_int, eL, asB]
  rw [r_scons]
  simp [DL.getD, items]
  rw [run_cmpY PyData.int (fun x => .bool (decide (0 ≤ x) && decide (x ≤ 11)))]
  · have e2 : asBools (s.map fun x => PyData.bool (decide (0 ≤ x) && decide (x ≤ 11))) = some (s.map fun x => decide (0 ≤ x) && decide (x ≤ 11)) := asBools_map _ _
    have e3 : ((s.map fun x => decide (0 ≤ x) && decide (x ≤ 11)).all id) = rngB s := all_map _ _
    simp only [op1, allD1, e2, Option.map_some, e3, run_lift_some, truth]
    by_cases hr : rngB s = true
    · simp [hr]
      rw [r_scons]
      simp [DL.getD, items]
      rw [enum_map]
      refine run_forP _ _ (fun pre env T => T = S ∧ PreOk n s pre ∧ ∃ a3 a4 a5 a6, env = [some (.dat n.d), some (.dat (.tuple (s.map .int))), some (.dat (.tuple ((links n).map pr))), a3, a4, a5, a6]) ⟨rfl, (fun p hp => by cases hp), _, _, _, _, rfl⟩ ?_ ?_
      · rintro pre ⟨p, i⟩ post he env T ⟨rfl, hpre, a3, a4, a5, a6, rfl⟩
        have hm : (p, i) ∈ (links n).zipIdx := by rw [he]; simp
        obtain ⟨m1, m2, m3⟩ := mem_idx hm
        refine ⟨_, rfl, ?_⟩
        have ai : addD2 (.int (i : Int)) (.int 1) = some (.int ((i : Int) + 1)) := rfl
        have hil : i < (links n).length := m2
        have hrng := rng_is (x := (i : Int) + 1) (m := i + 1) (by omega) (by omega)
        rw [r_scons]
        simp only [r_fr, r_rng1, r_op2, r_var, r_cst, DL.getD, List.getElem?_cons_succ, List.getElem?_cons_zero, List.set_cons_succ, List.set_cons_zero, run_lift_some, op2, ai, hrng]
        rw [rngI_0]
        refine run_forP _ _ (fun pre2 env U => U = T ∧ RowOk n s (p, i) pre2.length ∧ ∃ b5, env = [some (.dat n.d), some (.dat (.tuple (s.map .int))), some (.dat (.tuple ((links n).map pr))), some (.dat (.int i)), some (.dat (pr p)), b5, a6]) ⟨rfl, (fun q _ h => by simp at h), _, rfl⟩ ?_ ?_
        · rintro pre2 j post2 he2 env U ⟨rfl, hp2, b5, rfl⟩
          obtain ⟨g1, g2⟩ := range_split he2
          subst g1
          have hj : pre2.length < (links n).length := by omega
          have hq : (links n)[pre2.length]? = some (links n)[pre2.length] := List.getElem?_eq_getElem hj
          have hqm : ((links n)[pre2.length], pre2.length) ∈ (links n).zipIdx := List.mem_zipIdx_iff_getElem?.mpr hq
          have gq : getI ((links n).map pr) (pre2.length : Int) = some (pr (links n)[pre2.length]) := by
            rw [getI_nn (by omega)]
            simp [hq]
          have gs1 := sAt_get (s := s) (i := i) (by omega)
          have gs2 := sAt_get (s := s) (i := pre2.length) (by omega)
          have y := fun (S : Store) => sp_do_clash (F := F) (k := k + 1) (S := S) O m1 (List.getElem_mem hj)
          refine ⟨_, rfl, ?_⟩
          have hfin : okPair n s (p, i) ((links n)[pre2.length], pre2.length) = true → RowOk n s (p, i) (pre2.length + 1) := by
            intro h q hqm2 hlt
            by_cases e : q.2 = pre2.length
            · have h3 := (mem_idx hqm2).2.2
              rw [e, hq] at h3
              have : q = ((links n)[pre2.length], pre2.length) := by
                obtain ⟨q1, q2⟩ := q
                simp at e h3 ⊢
                exact ⟨h3.symm, e⟩
              rw [this]
              exact h
            · exact hp2 q hqm2 (by omega)
          rw [r_scons]
          by_cases h1 : sAt s i = sAt s pre2.length
          · by_cases h2 : clashB n p (links n)[pre2.length] = true
            · have hbad : fitB n s = false := by
                rw [Bool.eq_false_iff]
                intro hf
                unfold fitB at hf
                rw [List.all_eq_true] at hf
                have := hf _ hm
                rw [List.all_eq_true] at this
                have := this _ hqm
                unfold okPair at this
                simp [h1, h2] at this
              have hv : validB n s = false := by unfold validB; rw [hbad]; simp
              simp [DL.getD, op2, idxD2, gs1, gs2, eqD_int, h1, truth, gq, run_ok (y _), h2, r_scons, hv]
            · simp only [Bool.not_eq_true] at h2
              have ho : okPair n s (p, i) ((links n)[pre2.length], pre2.length) = true := by unfold okPair; simp [h2]
              have z := hfin ho
              simp [DL.getD, op2, idxD2, gs1, gs2, eqD_int, h1, truth, gq, run_ok (y _), h2]
              exact z
          · have ho : okPair n s (p, i) ((links n)[pre2.length], pre2.length) = true := by unfold okPair; simp [h1]
            have z := hfin ho
            simp [DL.getD, op2, idxD2, gs1, gs2, eqD_int, h1, truth]
            exact z
        · rintro env U ⟨rfl, hp2, b5, rfl⟩
          rw [List.length_range] at hp2
          refine ⟨rfl, fun q hq r hr hle => ?_, _, _, _, _, rfl⟩
          rcases List.mem_append.mp hq with hq | hq
          · exact hpre q hq r hr hle
          · simp at hq
            subst hq
            exact hp2 r hr (by simp at hle; omega)
      · rintro env T ⟨rfl, hall, a3, a4, a5, a6, rfl⟩
        have hv : validB n s = true := by unfold validB; rw [hr, fitB_half hall]; rfl
        simp [r_scons, hv]
    · simp only [Bool.not_eq_true] at hr
      have hv : validB n s = false := by unfold validB; rw [hr]; rfl
      simp [hr, r_scons, hv]
  · intro x hx
    have y := fun (S : Store) => sp_is_number (F := F) (k := k + 2) (S := S) (.int x) 0 11
    have e : isNumD (.int x) 0 11 = (decide (0 ≤ x) && decide (x ≤ 11)) := rfl
    rw [e] at y
    refine ⟨_, rfl, ?_⟩
    apply eq_ok
    simp [wipeE, DL.getD, op2, subD2, run_ok (y _)]
end
end DL.P
end

section
/-! P8: the law's fits, the rule of a placing -/
namespace DL.P
open PySem DL
section
variable {F k : Nat} {S : Store} {Q : Av → Store → Prop} {R : Str → D → Store → Prop} {n : Net}
theorem fitB_rows {s : List Int} : fitB n s = ((List.range (links n).length).all fun i => ((rowT n (((links n)[i]?).getD (0, 0))).filter fun o => decide (sAt s o.toNat = sAt s i)).isEmpty) := by
  rw [Bool.eq_iff_iff, List.all_eq_true]
  unfold fitB
  rw [List.all_eq_true]
  constructor
  · intro h i hi
    rw [List.mem_range] at hi
    have hp : (links n)[i]? = some (links n)[i] := List.getElem?_eq_getElem hi
    rw [hp]
    simp only [Option.getD_some, List.isEmpty_iff, List.filter_eq_nil_iff, decide_eq_true_eq]
    intro o ho he
    obtain ⟨o0, q, hq, hc⟩ := mem_rowT.mp ho
    have h1 := h ((links n)[i], i) (List.mem_zipIdx_iff_getElem?.mpr hp)
    rw [List.all_eq_true] at h1
    have h2 := h1 (q, o.toNat) (List.mem_zipIdx_iff_getElem?.mpr hq)
    unfold okPair at h2
    simp [he, hc] at h2
  · intro h p hp
    rw [List.all_eq_true]
    intro q hq
    obtain ⟨p1, p2, p3⟩ := mem_idx hp
    obtain ⟨q1, q2, q3⟩ := mem_idx hq
    have h1 := h p.2 (List.mem_range.mpr p2)
    rw [p3] at h1
    simp only [Option.getD_some, List.isEmpty_iff, List.filter_eq_nil_iff, decide_eq_true_eq] at h1
    unfold okPair
    cases hc : clashB n p.1 q.1 with
    | false => simp
    | true =>
      have hm : ((q.2 : Nat) : Int) ∈ rowT n p.1 := mem_rowT.mpr ⟨by omega, q.1, by rw [Int.toNat_natCast]; exact q3, hc⟩
      have h2 := h1 _ hm
      rw [Int.toNat_natCast] at h2
      have h3 : ¬ sAt s p.2 = sAt s q.2 := fun e => h2 e.symm
      simp [h3]
theorem sp_lfits (O : n.Ok) {s : List Int} (hs : s.length = (links n).length) : run tb F (k + 4) f__law_fits [.d n.d, .d (.list (s.map .int))] S = some (.ok (.d (.bool (validB n s))), S) := by
  rw [run_eq (d := d__law_fits) rfl]
  apply eq_ok
  rw [run_callDef]
  have y1 := fun (S : Store) => sp_ltable (F := F) (k := k) (S := S) O
  have hll := links_len O
  have htl := tabT_len (n := n)
  have eL : ((s.length : Int) = ((tabT n).length : Int)) := by omega
  simp only [d__law_fits]
  refine ⟨rfl, ?_⟩
  rw [r_scons]
  simp [env0, slotOf, DL.getD, run_ok (y1 _)]
  rw [r_scons]
  simp [DL.getD, op1, lenD1, encT', op2, neD_int, eL, truth, items]
  rw [run_cmp PyData.int (fun x => !(decide (0 ≤ x) && decide (x ≤ 11))) .int]
  · have e1 : decide (((s.filter fun x => !(decide (0 ≤ x) && decide (x ≤ 11))).map PyData.int) = []) = rngB s := by
      unfold rngB
      rw [Bool.eq_iff_iff]
      simp only [decide_eq_true_eq, List.map_eq_nil_iff, List.filter_eq_nil_iff, List.all_eq_true, Bool.not_eq_true', Bool.not_eq_false]
    simp only [ne_nilD, e1, run_lift_some, truth]
    by_cases hr : rngB s = true
    · have hrng := rng_is (x := ((tabT n).length : Int)) (m := (links n).length) (by omega) (by omega)
      simp only [hr, Bool.not_true, Bool.false_eq_true, if_false]
      simp only [r_scons, r_rt, r_op2, r_comp, r_rng1, r_op1, r_var, DL.getD, List.getElem?_cons_succ, List.getElem?_cons_zero, run_lift_some, op1, lenD1, List.length_map, hrng, r_lst, r_enil]
      rw [rngI_0, run_cmp _ (fun (i : Nat) => !((rowT n (((links n)[i]?).getD (0, 0))).filter fun o => decide (sAt s o.toNat = sAt s i)).isEmpty) (fun (i : Nat) => .int (i : Int))]
      · have e2 : decide (((((List.range (links n).length).filter fun (i : Nat) => !((rowT n (((links n)[i]?).getD (0, 0))).filter fun o => decide (sAt s o.toNat = sAt s i)).isEmpty)).map fun (i : Nat) => PyData.int (i : Int)) = []) = validB n s := by
          unfold validB
          rw [hr, fitB_rows, Bool.true_and, Bool.eq_iff_iff]
          simp only [decide_eq_true_eq, List.map_eq_nil_iff, List.filter_eq_nil_iff, List.all_eq_true, Bool.not_eq_true', Bool.not_eq_false]
        simp only [op2, eq_nilD, e2, run_lift_some]
        exact ⟨trivial, List.take_length⟩
      · intro i hi
        rw [List.mem_range] at hi
        have hp : (links n)[i]? = some (links n)[i] := List.getElem?_eq_getElem hi
        have gi : getI ((tabT n).map fun r => PyData.list (r.map .int)) (i : Int) = some (.list ((rowT n (links n)[i]).map .int)) := by
          rw [getI_nn (by omega)]
          unfold tabT
          simp [hp]
        have gs := sAt_get (s := s) (i := i) (by omega)
        refine ⟨_, rfl, ?_, fun _ => ?_⟩
        · apply eq_ok
          simp [wipeE, DL.getD, op2, idxD2, gi, items]
          rw [run_cmp PyData.int (fun o => decide (sAt s o.toNat = sAt s i)) .int]
          · rw [hp]
            simp only [ne_nilD, op2, run_lift_some, truth, Option.getD_some]
            refine ⟨?_, trivial⟩
            rw [Bool.eq_iff_iff]
            simp
          · intro o ho
            obtain ⟨o0, q, hq, _⟩ := mem_rowT.mp ho
            have hol := (List.getElem?_eq_some_iff.mp hq).1
            have go := sAt_get (s := s) (i := o.toNat) (by omega)
            rw [Int.toNat_of_nonneg o0] at go
            refine ⟨_, rfl, ?_, fun _ => ?_⟩
            · apply eq_ok
              simp [DL.getD, op2, idxD2, go, gs, eqD_int, truth]
            · apply eq_ok
              simp [DL.getD]
        · apply eq_ok
          simp [wipeE, DL.getD]
    · simp only [Bool.not_eq_true] at hr
      have hv : validB n s = false := by unfold validB; rw [hr]; rfl
      simp [hr, r_scons, hv]
  · intro x hx
    refine ⟨_, rfl, ?_, fun _ => ?_⟩
    · apply eq_ok
      by_cases h0 : x < 0
      · have : ¬ 0 ≤ x := by omega
        simp [wipeE, DL.getD, op2, ltD2, gtD2, truth, h0, this]
      · have h1 : 0 ≤ x := by omega
        by_cases h2 : 11 < x
        · have : ¬ x ≤ 11 := by omega
          simp [wipeE, DL.getD, op2, ltD2, gtD2, truth, h0, h1, h2, this]
        · have : x ≤ 11 := by omega
          simp [wipeE, DL.getD, op2, ltD2, gtD2, truth, h0, h1, h2, this]
    · apply eq_ok
      simp [wipeE, DL.getD]
theorem sp_is_placing (O : n.Ok) {s : List Int} (hs : s.length = (links n).length) : run tb F (k + 5) f_is_placing [.d n.d, .d (tupI s)] S = some (.ok (.d (.bool (validB n s))), S) := by
  rw [run_eq (d := d_is_placing) rfl]
  apply eq_ok
  rw [run_callDef]
  have y := fun (S : Store) => sp_valid (F := F) (k := k) (S := S) O hs
  simp [d_is_placing, r_scons, env0, slotOf, DL.getD, sp_check_net _ O.short, O.ok, run_ok (y _)]
/-- letters of a slot -/
def spk (n : Net) (s : List Int) (t : Int) : List Nat := ((links n).zipIdx.filter fun p => decide (sAt s p.2 = t)).map fun p => lab n p.1.1
def slotL (n : Net) (s : List Int) (t : Int) : List Nat := abc.filter fun c => decide (c ∈ spk n s t)
def slotZ (n : Net) (s : List Int) (t : Int) : Str := ⟨(slotL n s t).toArray⟩
def prule (n : Net) (s : List Int) : List Str := (List.range (maxL s + 1).toNat).map fun (t : Nat) => slotZ n s (t : Int)
theorem spk_abc (O : n.Ok) {s : List Int} {t : Int} {c : Nat} (h : c ∈ spk n s t) : c ∈ abc := by
  unfold spk at h
  obtain ⟨p, hp, rfl⟩ := List.mem_map.mp h
  obtain ⟨⟨h0, h1⟩, _⟩ := link_in' O (mem_idx (List.mem_filter.mp hp).1).1
  exact lab_abc O h0 h1
theorem spk_len (s : List Int) (t : Int) : (spk n s t).length ≤ (links n).length := by
  unfold spk
  rw [List.length_map]
  have := List.length_filter_le (fun p : Pr × Nat => decide (sAt s p.2 = t)) (links n).zipIdx
  rw [List.length_zipIdx] at this
  exact this
theorem slot_sset (O : n.Ok) (s : List Int) (t : Int) : ssetS ((spk n s t).map fun c => (⟨#[c]⟩ : Str)) = (slotL n s t).map fun c => (⟨#[c]⟩ : Str) := by
  refine ltS_uniq (ssetS_lt _) (singles_up (abc_lt.filter _)) fun z => ?_
  rw [mem_ssetS]
  unfold slotL
  simp only [List.mem_map, List.mem_filter, decide_eq_true_eq]
  constructor
  · rintro ⟨c, hc, rfl⟩
    exact ⟨c, ⟨spk_abc O hc, hc⟩, rfl⟩
  · rintro ⟨c, ⟨_, hc⟩, rfl⟩
    exact ⟨c, hc, rfl⟩
theorem slotL_len (s : List Int) (t : Int) : (slotL n s t).length ≤ 7 := by
  have := List.length_filter_le (fun c => decide (c ∈ spk n s t)) abc
  rw [abc_len] at this
  exact this
theorem slot_join (O : n.Ok) (s : List Int) (t : Int) : ∃ l, ssetD1 (.list ((spk n s t).map chr)) = some l ∧ joinD2 (.str "") l = some (.str (slotZ n s t)) := by
  have e1 : (spk n s t).map chr = ((spk n s t).map fun c => (⟨#[c]⟩ : Str)).map .str := by rw [List.map_map]; rfl
  have e2 : ((slotL n s t).map fun c => (⟨#[c]⟩ : Str)).map PyData.str = (slotL n s t).map chr := by rw [List.map_map]; rfl
  have h1 := spk_len (n := n) s t
  have h2 := links_len O
  have h3 := slotL_len (n := n) s t
  refine ⟨_, ?_, join_arr (cs := slotL n s t) (by omega)⟩
  have := sset_strs (l := (spk n s t).map fun c => (⟨#[c]⟩ : Str)) (by rw [List.length_map]; omega)
  rw [slot_sset O, e2] at this
  rw [e1]
  exact this
theorem mem_wlz {s : List Int} {t : Int} (O : n.Ok) {x : Int} : x ∈ wl n (slotZ n s t) ↔ 0 ≤ x ∧ x < n.m ∧ lab n x ∈ spk n s t := by
  rw [mem_wl]
  show _ ∧ _ ∧ lab n x ∈ slotL n s t ↔ _
  unfold slotL
  simp only [List.mem_filter, decide_eq_true_eq]
  exact ⟨fun ⟨a, b, c, d⟩ => ⟨a, b, d⟩, fun ⟨a, b, d⟩ => ⟨a, b, spk_abc O d, d⟩⟩
/-- a right placing serves -/
theorem valid_clear (O : n.Ok) {s : List Int} (hv : fitB n s = true) {p : Pr} {i : Nat} (hp : (links n)[i]? = some p) : p ∈ clearL n (wl n (slotZ n s (sAt s i))) := by
  have hm := List.mem_of_getElem? hp
  have hpi : (p, i) ∈ (links n).zipIdx := List.mem_zipIdx_iff_getElem?.mpr hp
  obtain ⟨⟨a0, a1⟩, y0, y1, y2, hne⟩ := link_in' O hm
  have nc : ∀ x, x ∈ others n p → x ∉ wl n (slotZ n s (sAt s i)) := by
    intro x hx hw
    obtain ⟨x0, x1, x2⟩ := (mem_wlz O).mp hw
    unfold spk at x2
    obtain ⟨q, hq, e⟩ := List.mem_map.mp x2
    obtain ⟨q1, q2⟩ := List.mem_filter.mp hq
    have q2 := of_decide_eq_true q2
    have hf : lab n q.1.1 ∈ forbL n p := (mem_forb O hm).mpr ⟨x, hx, e.symm⟩
    unfold fitB at hv
    rw [List.all_eq_true] at hv
    have h1 := hv (p, i) hpi
    rw [List.all_eq_true] at h1
    have h2 := h1 q q1
    unfold okPair clashB at h2
    simp [q2, hf] at h2
  unfold clearL
  refine List.mem_filter.mpr ⟨hm, ?_⟩
  rw [beq_iff_eq]
  refine hv_one O y0 y1 y2 ((mem_wlz O).mpr ⟨a0, a1, ?_⟩) (nc p.2 ((mem_others O hm).mpr ⟨.inr rfl, fun e => hne e.symm⟩)) fun x hx hs => ?_
  · unfold spk
    exact List.mem_map.mpr ⟨(p, i), List.mem_filter.mpr ⟨hpi, decide_eq_true rfl⟩, rfl⟩
  · by_cases e : x = p.1
    · exact e
    · exact absurd hs (nc x ((mem_others O hm).mpr ⟨.inl hx, e⟩))
/-- what is clear in one slot does not clash -/
theorem clear_no_clash (O : n.Ok) {z : Str} {p q : Pr} (hp : p ∈ clearL n (wl n z)) (hq : q ∈ clearL n (wl n z)) : clashB n p q = false := by
  have half : ∀ {p q : Pr}, p ∈ clearL n (wl n z) → q ∈ clearL n (wl n z) → lab n p.1 ∉ forbL n q := by
    intro p q hp hq hf
    unfold clearL at hp hq
    obtain ⟨p1, p2⟩ := List.mem_filter.mp hp
    obtain ⟨q1, q2⟩ := List.mem_filter.mp hq
    obtain ⟨⟨a0, a1⟩, _⟩ := link_in' O p1
    obtain ⟨⟨b0, b1⟩, y0, y1, y2, hne⟩ := link_in' O q1
    obtain ⟨g1, _, _⟩ := hv_clear a0 (eq_of_beq p2)
    obtain ⟨k1, k2, k3⟩ := hv_clear b0 (eq_of_beq q2)
    obtain ⟨_, _, w2⟩ := mem_wl.mp g1
    obtain ⟨x, hx, e⟩ := (mem_forb O q1).mp hf
    obtain ⟨x0, x1⟩ := others_in O q1 hx
    have hxw : x ∈ wl n z := mem_wl.mpr ⟨x0, x1, by rw [e]; exact w2⟩
    obtain ⟨h1, h2⟩ := (mem_others O q1).mp hx
    rcases h1 with h1 | h1
    · exact h2 (k3 x h1 hxw)
    · exact k2 (h1 ▸ hxw)
  unfold clashB
  have h1 := half hp hq
  have h2 := half hq hp
  simp [h1, h2]
/-- no rule of fewer slots serves all -/
theorem no_fewer (O : n.Ok) {d : Nat × List Int} (hd : dueO n = some d) {rule : List Str} (hr : (rule.length : Int) < d.1) : ∃ p ∈ links n, ∀ z ∈ rule, p ∉ clearL n (wl n z) := by
  obtain ⟨_, _, _, _, h5⟩ := due_nn O hd
  have hnone := h5 rule.length (by omega)
  refine Classical.byContradiction fun hno => ?_
  have hall : ∀ p ∈ links n, ∃ z ∈ rule, p ∈ clearL n (wl n z) := fun p hp => Classical.byContradiction fun h => hno ⟨p, hp, fun z hz hc => h ⟨z, hz, hc⟩⟩
  have h := colour_place O (K := rule.length) (fun p => rule.findIdx fun z => decide (p ∈ clearL n (wl n z))) (fun p hp => ?_) fun p hp q hq hcl e => ?_
  · rw [hnone] at h
    cases h
  · obtain ⟨z, hz, hc⟩ := hall p hp
    exact List.findIdx_lt_length.mpr ⟨z, hz, decide_eq_true hc⟩
  · obtain ⟨z, hz, hc⟩ := hall p hp
    obtain ⟨z', hz', hc'⟩ := hall q hq
    have l1 : (rule.findIdx fun z => decide (p ∈ clearL n (wl n z))) < rule.length := List.findIdx_lt_length.mpr ⟨z, hz, decide_eq_true hc⟩
    have l2 : (rule.findIdx fun z => decide (q ∈ clearL n (wl n z))) < rule.length := List.findIdx_lt_length.mpr ⟨z', hz', decide_eq_true hc'⟩
    have g1 := of_decide_eq_true (List.findIdx_getElem (w := l1))
    have g2 := of_decide_eq_true (List.findIdx_getElem (w := l2))
    have e' : (rule.findIdx fun z => decide (q ∈ clearL n (wl n z))) = rule.findIdx fun z => decide (p ∈ clearL n (wl n z)) := e
    simp only [e'] at g2
    have := clear_no_clash O g1 g2
    rw [this] at hcl
    cases hcl
end
end DL.P
end

section
/-! P9: the rule of a placing, refusals -/
namespace DL.P
open PySem DL
section
variable {F k : Nat} {S : Store} {Q : Av → Store → Prop} {R : Str → D → Store → Prop} {n : Net}
theorem ba2' {a b : Bool} (h : (a && b) = true) : a = true ∧ b = true := by
  cases a <;> cases b <;> simp at h ⊢
theorem snoc_ind2 {α : Type} {P : List α → Prop} (h0 : P []) (h1 : ∀ l a, P l → P (l ++ [a])) : ∀ l, P l := by
  intro l
  have : ∀ l : List α, P l.reverse := by
    intro l
    induction l with
    | nil => exact h0
    | cons a r ih => rw [List.reverse_cons]; exact h1 _ _ ih
  have z := this l.reverse
  rwa [List.reverse_reverse] at z
theorem zip_idx {l : List Pr} {s : List Int} (h : s.length = l.length) : l.zip s = l.zipIdx.map fun q => (q.1, sAt s q.2) := by
  refine List.ext_getElem (by simp [h]) fun i h1 h2 => ?_
  simp at h1
  simp [sAt, List.getElem?_eq_getElem (show i < s.length by omega)]
theorem zip_spk {s : List Int} (h : s.length = (links n).length) (t : Int) : (((links n).zip s).filter fun q => decide (q.2 = t)).map (fun q => chr (lab n q.1.1)) = (spk n s t).map chr := by
  rw [zip_idx h, List.filter_map, List.map_map]
  unfold spk
  rw [List.map_map]
  rfl
theorem maxL_le {s : List Int} (hr : rngB s = true) : maxL s ≤ 11 := by
  unfold rngB at hr
  rw [List.all_eq_true] at hr
  induction s using snoc_ind2 with
  | h0 => decide
  | h1 l a ih =>
    rw [foldmax_snoc]
    have h1 := hr a (by simp)
    simp at h1
    have := ih fun x hx => hr x (by simp [hx])
    split <;> omega
theorem sp_placing_rule (O : n.Ok) {s : List Int} (hs : s.length = (links n).length) (hv : validB n s = true) : run tb F (k + 5) f_placing_rule [.d n.d, .d (tupI s)] S = some (.ok (.d (.tuple ((prule n s).map .str))), S) := by
  rw [run_eq (d := d_placing_rule) rfl]
  apply eq_ok
  rw [run_callDef]
  have y := fun (S : Store) => sp_valid (F := F) (k := k) (S := S) O hs
  have b1 := fun (S : Store) => sp_all_links (k := k + 3) (F := F) (S := S) O
  have hr : rngB s = true := by unfold validB at hv; exact (ba2' hv).1
  have hnn : ∀ x ∈ s, 0 ≤ x := fun x hx => by
    unfold rngB at hr
    rw [List.all_eq_true] at hr
    have := hr x hx
    simp at this
    exact this.1
  have hm := maxI_done hnn
  have hmx := maxL_le hr
  have hmg := (maxL_ge s).1
  have hrng := rng_is (x := maxL s + 1) (m := (maxL s + 1).toNat) (by omega) (by omega)
  have i0 : idxD2 n.d (.int 0) = some (.str n.l) := rfl
  have j0 : ∀ p, idxD2 (pr p) (.int 0) = some (.int p.1) := fun _ => rfl
  have ai : ∀ a b : Int, addD2 (.int a) (.int b) = some (.int (a + b)) := fun _ _ => rfl
  have em : maxDD2 (tupI s) (.int (-1)) = some (.int (maxL s)) := by
    simp only [maxDD2, tupI, asInts_map, Option.map_some, hm]
  simp only [d_placing_rule]
  refine ⟨rfl, ?_⟩
  simp [r_scons, env0, slotOf, DL.getD, sp_check_net _ O.short, O.ok, run_ok (y _), hv, run_eq (f := f_need) (d := d_need) rfl, run_callDef, d_need, truth]
  simp only [op1, negD1, op2, em, ai, hrng, run_lift_some, List.set_cons_succ, List.set_cons_zero]
  rw [rngI_0]
  refine run_forP _ _ (fun pre env T => T = S ∧ ∃ a3 a4 a5 a6, env = [some (.dat n.d), some (.dat (tupI s)), some (.own (((prule n s).take pre.length).map .str)), a3, a4, a5, a6]) ⟨rfl, _, _, _, _, rfl⟩ ?_ ?_
  · rintro pre t post he env T ⟨rfl, a3, a4, a5, a6, rfl⟩
    obtain ⟨g1, g2⟩ := range_split he
    subst g1
    refine ⟨_, rfl, ?_⟩
    have e1 : zipD ((links n).map pr) (s.map .int) = ((links n).zip s).map fun p => .tuple [pr p.1, .int p.2] := by
      unfold zipD
      rw [List.zip_map, List.map_map]
      rfl
    have it : items (tupI s) = some (s.map .int) := rfl
    have it2 : items (.tuple ((links n).map pr)) = some ((links n).map pr) := rfl
    rw [r_scons]
    simp [DL.getD, run_ok (b1 _), it, it2, e1]
    rw [run_cmp _ (fun q => decide (q.2 = (pre.length : Int))) (fun q => chr (lab n q.1.1))]
    · rw [zip_spk hs]
      obtain ⟨l, h1, h2⟩ := slot_join O s (pre.length : Int)
      have hlim := lim_big
      have hpl : min pre.length (prule n s).length < LIM := by omega
      have e3 : (prule n s).take (pre.length + 1) = (prule n s).take pre.length ++ [slotZ n s (pre.length : Int)] := by
        rw [List.take_add_one]
        unfold prule
        rw [List.getElem?_map, List.getElem?_range g2]
        rfl
      simp [r_scons, getO, DL.getD, op1, h1, op2, h2, hpl]
      rw [← List.map_take, ← List.map_take, e3, List.map_append]
      rfl
    · rintro ⟨p, x⟩ hq
      have hp : p ∈ links n := (List.of_mem_zip hq).1
      obtain ⟨⟨h0, h1⟩, _⟩ := link_in' O hp
      refine ⟨_, rfl, ?_, fun _ => ?_⟩
      · apply eq_ok
        simp [wipeE, DL.getD, op2, eqD_int, truth]
      · apply eq_ok
        simp [wipeE, DL.getD, op2, i0, j0, lab_idx O h0 h1]
  · rintro env T ⟨rfl, a3, a4, a5, a6, rfl⟩
    rw [List.length_range]
    have e4 : (prule n s).take (maxL s + 1).toNat = prule n s := List.take_of_length_le (by simp [prule])
    rw [e4]
    simp [r_scons, getO, op1, tupleD1]
theorem sp_placing_rule_no (O : n.Ok) {v : D} (hv : ∀ S, run tb F (k + 4) f_is_valid_placing [.d n.d, .d v] S = some (.ok (.d (.bool false)), S)) : Run (run tb F (k + 5) f_placing_rule [.d n.d, .d v]) S Q R ↔ R "BadArgument" (.str "placing") S := by
  rw [run_eq (d := d_placing_rule) rfl, run_callDef]
  simp [d_placing_rule, r_scons, env0, slotOf, DL.getD, sp_check_net _ O.short, O.ok, run_ok (hv _), run_eq (f := f_need) (d := d_need) rfl, run_callDef, d_need, truth]
def OddP (n : Net) (x : D) : Prop := isTy .tuple x = false ∨ ∃ xs, x = .tuple xs ∧ xs.length ≠ (links n).length
theorem sp_valid_odd (O : n.Ok) {x : D} (hx : OddP n x) : run tb F (k + 4) f_is_valid_placing [.d n.d, .d x] S = some (.ok (.d (.bool false)), S) := by
  rw [run_eq (d := d_is_valid_placing) rfl]
  apply eq_ok
  rw [run_callDef]
  have b1 := fun (S : Store) => sp_all_links (k := k + 2) (F := F) (S := S) O
  simp only [d_is_valid_placing]
  refine ⟨rfl, ?_⟩
  rw [r_scons]
  simp [env0, slotOf, DL.getD, run_ok (b1 _)]
  rw [r_scons]
  rcases hx with hx | ⟨xs, rfl, hx⟩
  · simp [DL.getD, op1, isID1, hx, truth, r_scons]
  · have hne : ¬ ((xs.length : Int) = (links n).length) := by omega
    simp [DL.getD, op1, isID1, isTy, truth, lenD1, op2, eqD_int, hne, r_scons]
theorem sp_is_placing_odd (O : n.Ok) {x : D} (hx : OddP n x) : run tb F (k + 5) f_is_placing [.d n.d, .d x] S = some (.ok (.d (.bool false)), S) := by
  rw [run_eq (d := d_is_placing) rfl]
  apply eq_ok
  rw [run_callDef]
  have y := fun (S : Store) => sp_valid_odd (F := F) (k := k) (S := S) O hx
  simp [d_is_placing, r_scons, env0, slotOf, DL.getD, sp_check_net _ O.short, O.ok, run_ok (y _)]
theorem sp_forbidden (O : n.Ok) {p : Pr} (h : p ∈ links n) : run tb F (k + 5) f_forbidden [.d n.d, .d (pr p)] S = some (.ok (.d (.str (forbZ n p))), S) := by
  rw [run_eq (d := d_forbidden) rfl]
  apply eq_ok
  rw [run_callDef]
  have hk : linkB n (pr p) = true := link_ok O (show (p.1, p.2) ∈ links n from h)
  have y := fun (S : Store) => sp_forb (F := F) (k := k + 3) (S := S) O h
  simp [d_forbidden, r_scons, env0, slotOf, DL.getD, sp_check_net _ O.short, O.ok, sp_check_link O, hk, run_ok (y _)]
theorem sp_forbidden_no (O : n.Ok) {v : D} (h : linkB n v = false) : Run (run tb F (k + 5) f_forbidden [.d n.d, .d v]) S Q R ↔ R "BadArgument" (.str "link") S := by
  rw [run_eq (d := d_forbidden) rfl, run_callDef]
  simp [d_forbidden, r_scons, env0, slotOf, DL.getD, sp_check_net _ O.short, O.ok, sp_check_link O, h]
theorem sp_clash (O : n.Ok) {p q : Pr} (hp : p ∈ links n) (hq : q ∈ links n) : run tb F (k + 5) f_clash [.d n.d, .d (pr p), .d (pr q)] S = some (.ok (.d (.bool (clashB n p q))), S) := by
  rw [run_eq (d := d_clash) rfl]
  apply eq_ok
  rw [run_callDef]
  have h1 : linkB n (pr p) = true := link_ok O (show (p.1, p.2) ∈ links n from hp)
  have h2 : linkB n (pr q) = true := link_ok O (show (q.1, q.2) ∈ links n from hq)
  have y := fun (S : Store) => sp_do_clash (F := F) (k := k + 2) (S := S) O hp hq
  simp [d_clash, r_scons, env0, slotOf, DL.getD, sp_check_net _ O.short, O.ok, sp_check_link O, h1, h2, run_ok (y _)]
theorem sp_clash_one (O : n.Ok) {v w : D} (h : linkB n v = false) : Run (run tb F (k + 5) f_clash [.d n.d, .d v, .d w]) S Q R ↔ R "BadArgument" (.str "one") S := by
  rw [run_eq (d := d_clash) rfl, run_callDef]
  simp [d_clash, r_scons, env0, slotOf, DL.getD, sp_check_net _ O.short, O.ok, sp_check_link O, h]
theorem sp_clash_other (O : n.Ok) {p : Pr} (hp : p ∈ links n) {w : D} (h : linkB n w = false) : Run (run tb F (k + 5) f_clash [.d n.d, .d (pr p), .d w]) S Q R ↔ R "BadArgument" (.str "other") S := by
  have h1 : linkB n (pr p) = true := link_ok O (show (p.1, p.2) ∈ links n from hp)
  rw [run_eq (d := d_clash) rfl, run_callDef]
  simp [d_clash, r_scons, env0, slotOf, DL.getD, sp_check_net _ O.short, O.ok, sp_check_link O, h1, h]
theorem sp_least_net {x : D} (h : netB x = false) (h2 : short x) : Run (run tb F (k + 5) f_least_slots [.d x]) S Q R ↔ R "BadArgument" (.str "net") S := by
  rw [run_eq (d := d_least_slots) rfl, run_callDef]
  simp [d_least_slots, r_scons, env0, slotOf, DL.getD, sp_check_net _ h2, h]
def odds03 (n : Net) : List D := [.none, .int 5, .str "ab", .list (List.replicate (links n).length (.int 0)), .tuple (List.replicate (links n).length (.bool true) ++ [.int 0]), .tuple (List.replicate (links n).length (.int 12) ++ [.int 1])]
theorem odds03_ok {x : D} (h : x ∈ odds03 n) : OddP n x ∧ netB x = false ∧ short x := by
  have key : ∀ (m : Nat) (a b : D), (∀ z, a ≠ .str z) → (∀ z, b ≠ .str z) → netB (.tuple (List.replicate m a ++ [b])) = false ∧ short (.tuple (List.replicate m a ++ [b])) := by
    intro m a b ha hb
    cases m with
    | zero =>
      refine ⟨netB_len (by simp), ?_⟩
      show short (.tuple [b])
      unfold short
      split
      · rename_i z r e
        injection e with e
        injection e with e _
        exact absurd e (hb _)
      · trivial
    | succ m =>
      refine ⟨?_, ?_⟩
      · cases m with
        | zero => exact netB_l ha
        | succ m => exact netB_len (by simp)
      · unfold short
        split
        · rename_i z r e
          injection e with e
          rw [List.replicate_succ, List.cons_append] at e
          injection e with e _
          exact absurd e (ha _)
        · trivial
  simp only [odds03, List.mem_cons, List.not_mem_nil, or_false] at h
  rcases h with rfl | rfl | rfl | rfl | rfl | rfl
  · exact ⟨.inl rfl, rfl, trivial⟩
  · exact ⟨.inl rfl, rfl, trivial⟩
  · exact ⟨.inl rfl, rfl, trivial⟩
  · exact ⟨.inl rfl, rfl, trivial⟩
  · exact ⟨.inr ⟨_, rfl, by simp⟩, key _ _ _ (fun z e => by cases e) (fun z e => by cases e)⟩
  · exact ⟨.inr ⟨_, rfl, by simp⟩, key _ _ _ (fun z e => by cases e) (fun z e => by cases e)⟩
end
end DL.P
end

section
/-! P10: law k03, a trial -/
namespace DL.P
open PySem DL
section
variable {F k : Nat} {S : Store} {Q : Av → Store → Prop} {R : Str → D → Store → Prop} {n : Net}
def turn03 : Ss := match ssDrop 1 d_law_k03.body with
  | .cons (.fr _ _ b) _ => b
  | _ => .nil
def again03 : Ss := match ssDrop 5 turn03 with
  | .cons (.fr _ _ b) _ => b
  | _ => .nil
theorem ints_of {ys : List D} (h : ∀ y ∈ ys, ∃ i : Int, y = .int i) : ∃ s : List Int, ys = s.map .int := by
  induction ys with
  | nil => exact ⟨[], rfl⟩
  | cons y ys ih =>
    obtain ⟨s, e⟩ := ih fun z hz => h z (List.mem_cons_of_mem _ hz)
    obtain ⟨i, e2⟩ := h y List.mem_cons_self
    exact ⟨i :: s, by rw [e, e2]; rfl⟩
theorem nin_prsL' (p : Pr) (l : List Pr) : ninD2 (pr p) (.list (l.map pr)) = some (.bool (!decide (p ∈ l))) := by
  have h : ninD2 (pr p) (.list (l.map pr)) = if (pr p).depth ≤ 100 then some (.bool (!isIn (pr p) (l.map pr))) else none := rfl
  rw [h, dep_pr, isIn_pr]
  rfl
theorem range_spk {s : List Int} (t : Int) : (((List.range (links n).length).filter fun (i : Nat) => decide (sAt s i = t)).map fun (i : Nat) => chr (lab n (((links n)[i]?).getD (0, 0)).1)) = (spk n s t).map chr := by
  have e : List.range (links n).length = (links n).zipIdx.map (·.2) := by rw [List.zipIdx_map_snd, List.range_eq_range']
  rw [e, List.filter_map, List.map_map]
  unfold spk
  rw [List.map_map]
  refine List.map_congr_left fun q hq => ?_
  have := (mem_idx (List.mem_filter.mp hq).1).2.2
  simp [this]
theorem prule_get {s : List Int} (hr : rngB s = true) {i : Nat} (hi : i < s.length) : getI ((prule n s).map PyData.str) (sAt s i) = some (.str (slotZ n s (sAt s i))) := by
  have hx : sAt s i = s[i] := by unfold sAt; rw [List.getElem?_eq_getElem hi]; rfl
  have hm := (maxL_ge s).2 _ (List.getElem_mem hi)
  have h0 : 0 ≤ s[i] := by
    unfold rngB at hr
    rw [List.all_eq_true] at hr
    have := hr _ (List.getElem_mem hi)
    simp at this
    exact this.1
  rw [hx, getI_nn h0]
  unfold prule
  rw [List.getElem?_map, List.getElem?_map, List.getElem?_range (by omega)]
  simp [Int.toNat_of_nonneg h0]
theorem prule_atoms {s : List Int} (hr : rngB s = true) : AlD 1 (.tuple ((prule n s).map .str)) := .inr ⟨_, rfl, by
  have := maxL_le hr
  simp [prule]
  omega, fun x hx => by
  obtain ⟨z, _, rfl⟩ := List.mem_map.mp hx
  trivial⟩
/-- a trial's end: the placing is right, its rule is told -/
theorem again_good (O : n.Ok) {s : List Int} (hs : s.length = (links n).length) (hv : validB n s = true) {a0 a1 a2 a4 a5 a6 a8 a9 a12 a13 a14 a15 a16 a17 a18 : Option Slot} {T : Store} {P : Fl → Store → Prop}
    (hP : ∀ b12 b13 b14 b17, P (.next [a0, a1, a2, some (.dat n.d), a4, a5, a6, some (.dat (.list ((links n).map pr))), a8, a9, some (.dat (.list (s.map .int))), some (.dat (.bool true)), b12, b13, b14, a15, a16, b17, a18]) T) :
    Run (evSs ⟨run tb F 35, F⟩ (ssDrop 7 again03) [a0, a1, a2, some (.dat n.d), a4, a5, a6, some (.dat (.list ((links n).map pr))), a8, a9, some (.dat (.list (s.map .int))), some (.dat (.bool true)), a12, a13, a14, a15, a16, a17, a18]) T P NoR := by
  obtain ⟨hr, hf⟩ := ba2' (show (rngB s && fitB n s) = true from hv)
  have y1 := fun (S : Store) => sp_placing_rule (F := F) (k := 30) (S := S) O hs hv
  have y2 := fun (S : Store) => sp_alike (F := F) (prule_atoms (n := n) hr) 33 S
  have hmx := maxL_le hr
  have hmg := (maxL_ge s).1
  have hll := links_len O
  have hlim := lim_big
  have i0 : idxD2 n.d (.int 0) = some (.str n.l) := rfl
  have j0 : ∀ p, idxD2 (pr p) (.int 0) = some (.int p.1) := fun _ => rfl
  have ai : ∀ a b : Int, addD2 (.int a) (.int b) = some (.int (a + b)) := fun _ _ => rfl
  have ea : addD2 (.list [.int (-1)]) (.list (s.map .int)) = some (.list (.int (-1) :: s.map .int)) := by
    rw [add_lst (by simp; omega)]
    rfl
  have em : maxD1 (.list (.int (-1) :: s.map .int)) = some (.int (maxL s)) := by
    have h : asInts (PyData.int (-1) :: s.map .int) = some (-1 :: s) := asInts_map (-1 :: s)
    simp only [maxD1, h, Option.bind_some]
    rfl
  have hrng := rng_is (x := maxL s + 1) (m := (maxL s + 1).toNat) (by omega) (by omega)
  have hrL := rng_is (x := ((links n).length : Int)) (m := (links n).length) rfl (by omega)
  simp only [again03, turn03, ssDrop, d_law_k03]
  rw [r_scons]
  simp [DL.getD, truth]
  rw [r_scons]
  simp [DL.getD, op1, tupleD1]
  have y1' : ∀ S, run tb F 35 f_placing_rule [.d n.d, .d (.tuple (s.map .int))] S = some (.ok (.d (.tuple ((prule n s).map .str))), S) := y1
  simp [run_ok (y1' _)]
  rw [r_scons]
  simp
  rw [r_scons]
  simp only [r_fr, r_rng1, r_op2, r_op1, r_lst, r_econs, r_enil, r_cst, r_var, op1, op2, negD1, DL.getD, List.getElem?_cons_succ, List.getElem?_cons_zero, run_lift_some, ea, em, ai, hrng]
  rw [rngI_0]
  refine run_forP _ _ (fun pre env U => U = T ∧ ∃ b12 b17, env = [a0, a1, a2, some (.dat n.d), a4, a5, a6, some (.dat (.list ((links n).map pr))), a8, a9, some (.dat (.list (s.map .int))), some (.dat (.bool true)), b12, some (.dat (.tuple ((prule n s).map .str))), some (.own (((prule n s).take pre.length).map .str)), a15, a16, b17, a18]) ⟨rfl, _, _, rfl⟩ ?_ ?_
  · rintro pre t post he env U ⟨rfl, b12, b17, rfl⟩
    obtain ⟨g1, g2⟩ := range_split he
    subst g1
    refine ⟨_, rfl, ?_⟩
    have ia : items (.str "abcdefg") = some (abc.map chr) := rfl
    rw [r_scons]
    simp only [r_set, r_rown, r_comp, r_rng1, r_op1, r_var, op1, lenD1, DL.getD, List.getElem?_cons_succ, List.getElem?_cons_zero, List.set_cons_succ, List.set_cons_zero, run_lift_some, List.length_map, hrL]
    rw [rngI_0, run_cmp _ (fun (i : Nat) => decide (sAt s i = (pre.length : Int))) (fun (i : Nat) => chr (lab n (((links n)[i]?).getD (0, 0)).1))]
    · rw [range_spk]
      rw [r_scons]
      simp [getO]
      rw [r_scons]
      have hpl : min pre.length (prule n s).length < LIM := by
        have : pre.length ≤ 12 := by omega
        omega
      simp [getO, ia]
      rw [run_cmp chr (fun c => decide (c ∈ spk n s (pre.length : Int))) chr]
      · have h3 := slotL_len (n := n) s (pre.length : Int)
        have ej := join_arr (cs := slotL n s (pre.length : Int)) (by omega)
        have e5 : abc.filter (fun c => decide (c ∈ spk n s (pre.length : Int))) = slotL n s (pre.length : Int) := rfl
        have e3 : (prule n s).take (pre.length + 1) = (prule n s).take pre.length ++ [slotZ n s (pre.length : Int)] := by
          rw [List.take_add_one]
          unfold prule
          rw [List.getElem?_map, List.getElem?_range g2]
          rfl
        rw [e5]
        simp only [op2, ej, run_lift_some, hpl, if_true]
        refine ⟨trivial, ?_⟩
        have e6 : List.take pre.length (List.map PyData.str (prule n s)) ++ [PyData.str ⟨(slotL n s (pre.length : Int)).toArray⟩] = List.take (pre.length + 1) (List.map PyData.str (prule n s)) := by
          rw [← List.map_take, ← List.map_take, e3, List.map_append]
          rfl
        simp [e6]
      · intro c hc
        refine ⟨_, rfl, ?_, fun _ => ?_⟩
        · apply eq_ok
          simp [wipeE, DL.getD, op2, inn_chrL, truth]
        · apply eq_ok
          simp [wipeE, DL.getD]
    · intro i hi
      rw [List.mem_range] at hi
      have hp : (links n)[i]? = some (links n)[i] := List.getElem?_eq_getElem hi
      obtain ⟨⟨h0, h1⟩, _⟩ := link_in' O (List.getElem_mem hi)
      have gs := sAt_get (s := s) (i := i) (by omega)
      have gp : getI ((links n).map pr) (i : Int) = some (pr (links n)[i]) := by
        rw [getI_nn (by omega)]
        simp [hp]
      refine ⟨_, rfl, ?_, fun _ => ?_⟩
      · apply eq_ok
        simp [wipeE, DL.getD, op2, idxD2, gs, eqD_int, truth]
      · have gp' : idxD2 (.list ((links n).map pr)) (.int (i : Int)) = some (pr (links n)[i]) := gp
        apply eq_ok
        simp [wipeE, DL.getD, op2, i0, gp', j0, lab_idx O h0 h1, hp]
  · rintro env U ⟨rfl, b12, b17, rfl⟩
    rw [List.length_range]
    have e4 : (prule n s).take (maxL s + 1).toNat = prule n s := List.take_of_length_le (by simp [prule])
    rw [e4]
    dsimp only
    rw [r_scons]
    simp [DL.getD, getO, op1, tupleD1, run_ok (y2 _), truth]
    rw [r_scons]
    simp only [r_ifs, r_te, r_op2, r_comp, r_rng1, r_op1, r_var, op1, lenD1, DL.getD, List.getElem?_cons_succ, List.getElem?_cons_zero, run_lift_some, List.length_map, hrL, r_lst, r_enil]
    rw [rngI_0, run_cmp _ (fun (i : Nat) => false) (fun (i : Nat) => .int (i : Int))]
    · have e0 : (List.range (links n).length).filter (fun _ => false) = [] := by simp
      rw [e0]
      simp [op2, ne_nilD, truth]
      exact hP _ _ _ _
    · intro i hi
      rw [List.mem_range] at hi
      have hp : (links n)[i]? = some (links n)[i] := List.getElem?_eq_getElem hi
      have hc := valid_clear O hf hp
      have gs := sAt_get (s := s) (i := i) (by omega)
      have gp : idxD2 (.list ((links n).map pr)) (.int (i : Int)) = some (pr (links n)[i]) := by
        show getI _ _ = _
        rw [getI_nn (by omega)]
        simp [hp]
      have gs' : idxD2 (.list (s.map .int)) (.int (i : Int)) = some (.int (sAt s i)) := gs
      have gr : idxD2 (.tuple ((prule n s).map .str)) (.int (sAt s i)) = some (.str (slotZ n s (sAt s i))) := prule_get hr (by omega)
      have z1 := fun (S : Store) => sp_lby (F := F) (k := 34) (S := S) (z := slotZ n s (sAt s i)) O
      have z2 := fun (S : Store) => sp_lclear (F := F) (k := 33) (S := S) (snd := wl n (slotZ n s (sAt s i))) O (.inl rfl)
      have zn : ninD2 (pr (links n)[i]) (.list ((clearL n (wl n (slotZ n s (sAt s i)))).map pr)) = some (.bool false) := by
        rw [nin_prsL']
        simp [hc]
      refine ⟨_, rfl, ?_, fun z => nomatch z⟩
      apply eq_ok
      simp [wipeE, DL.getD, op2, gp, gs', gr, run_ok (z1 _), run_ok (z2 _), zn, truth]
end
end DL.P
end

section
/-! P11: law k03, trials whole -/
namespace DL.P
open PySem DL
section
variable {F k : Nat} {S : Store} {Q : Av → Store → Prop} {R : Str → D → Store → Prop} {n : Net}
abbrev envA (n : Net) (a0 a2 a4 a5 a6 a8 a9 a10 a11 a12 a13 a14 a15 a16 a17 a18 : Option Slot) : Env := [a0, some (.cel 0), a2, some (.dat n.d), a4, a5, a6, some (.dat (.list ((links n).map pr))), a8, a9, a10, a11, a12, a13, a14, a15, a16, a17, a18]
/-- from the drawn placing on -/
theorem again_tail (O : n.Ok) {s : List Int} (hs : s.length = (links n).length) {a0 a2 a4 a5 a6 a8 a9 a11 a12 a13 a14 a15 a16 a17 a18 : Option Slot} {T : Store} {P : Fl → Store → Prop}
    (hP : ∀ b10 b11 b12 b13 b14 b17, P (.next (envA n a0 a2 a4 a5 a6 a8 a9 b10 b11 b12 b13 b14 a15 a16 b17 a18)) T) :
    Run (evSs ⟨run tb F 35, F⟩ (ssDrop 4 again03) (envA n a0 a2 a4 a5 a6 a8 a9 (some (.dat (.list (s.map .int)))) a11 a12 a13 a14 a15 a16 a17 a18)) T P NoR := by
  have y1 := fun (S : Store) => sp_lfits (F := F) (k := 31) (S := S) O hs
  have y2 := fun (S : Store) => sp_is_placing (F := F) (k := 30) (S := S) O hs
  have y2' : ∀ S, run tb F 35 f_is_placing [.d n.d, .d (.tuple (s.map .int))] S = some (.ok (.d (.bool (validB n s))), S) := y2
  have y3 := fun (S : Store) => sp_alike (F := F) (j := 0) (d := .bool (validB n s)) trivial 34 S
  have yv := fun (S : Store) => sp_valid (F := F) (k := 30) (S := S) O hs
  have good := fun (hv : validB n s = true) => again_good (F := F) (T := T) O hs hv (a0 := a0) (a1 := some (.cel 0)) (a2 := a2) (a4 := a4) (a5 := a5) (a6 := a6) (a8 := a8) (a9 := a9) (a12 := a12) (a13 := a13) (a14 := a14) (a15 := a15) (a16 := a16) (a17 := a17) (a18 := a18) (P := P) fun b12 b13 b14 b17 => hP _ _ _ _ _ _
  simp only [again03, turn03, ssDrop, d_law_k03] at good ⊢
  rw [r_scons]
  simp [DL.getD, run_ok (y1 _)]
  rw [r_scons]
  simp [DL.getD, op1, tupleD1, run_ok (y2' _), run_ok (y3 _), truth]
  rw [r_scons]
  have ep : eqD2 (.str "placing") (.str "placing") = some (.bool true) := by simp [eqD2, PyData.depth, PyData.eqv]
  have ee : eqD2 (.str "") (.str "placing") = some (.bool false) := by
    simp only [eqD2, PyData.depth, eqv_str]
    rfl
  have eb : ∀ a b : Bool, eqD2 (.bool a) (.bool b) = some (.bool (a == b)) := fun a b => by simp [eqD2, PyData.depth, PyData.eqv]
  cases hv : validB n s with
  | true =>
    have z1 := fun (S : Store) => sp_placing_rule (F := F) (k := 30) (S := S) O hs hv
    have z1' : ∀ S, run tb F 35 f_placing_rule [.d n.d, .d (.tuple (s.map .int))] S = some (.ok (.d (.tuple ((prule n s).map .str))), S) := z1
    simp [DL.getD, op1, tupleD1, run_ok (z1' _), op2, ee, eb, truth]
    exact good hv
  | false =>
    have yv' : ∀ S, run tb F 34 f_is_valid_placing [.d n.d, .d (.tuple (s.map .int))] S = some (.ok (.d (.bool false)), S) := fun S => by
      have := yv S
      rw [hv] at this
      exact this
    simp [DL.getD, op1, tupleD1, sp_placing_rule_no (k := 30) O yv', op2, ep, eb, truth]
    rw [r_scons]
    simp [DL.getD, truth]
    exact hP _ _ _ _ _ _
theorem again_ok (O : n.Ok) {d : Option (List Int)} (hd : ∀ l, d = some l → l.length = (links n).length) {a0 a2 a4 a5 a6 a9 a10 a11 a12 a13 a14 a15 a16 a17 a18 : Option Slot} {T : Store} (hT : St T) {P : Fl → Store → Prop}
    (hP : ∀ U b10 b11 b12 b13 b14 b17, St U → P (.next (envA n a0 a2 a4 a5 a6 (some (.dat (resL d))) a9 b10 b11 b12 b13 b14 a15 a16 b17 a18)) U) :
    Run (evSs ⟨run tb F 35, F⟩ again03 (envA n a0 a2 a4 a5 a6 (some (.dat (resL d))) a9 a10 a11 a12 a13 a14 a15 a16 a17 a18)) T P NoR := by
  have tail := fun (s : List Int) (hs : s.length = (links n).length) (U : Store) (hU : St U) => again_tail (F := F) (T := U) O hs (a0 := a0) (a2 := a2) (a4 := a4) (a5 := a5) (a6 := a6) (a8 := some (.dat (resL d))) (a9 := a9) (a11 := a11) (a12 := a12) (a13 := a13) (a14 := a14) (a15 := a15) (a16 := a16) (a17 := a17) (a18 := a18) (P := P) fun b10 b11 b12 b13 b14 b17 => hP U _ _ _ _ _ _ hU
  simp only [again03, turn03, ssDrop, d_law_k03] at tail ⊢
  rw [r_scons]
  simp [DL.getD, items]
  refine run_compA St (fun y => ∃ i : Int, y = .int i) _ hT ?_ ?_
  · intro x hx U hU
    refine (fun (h : ∃ env', bind1 (.nm 16) x _ = some env' ∧ _) => h) ⟨_, rfl, rfl, ?_⟩
    simp [wipeE, getC]
    refine (sp_taken (k := 34) (F := F) (many := 12) (by omega) (by omega) hU).mono ?_ fun _ _ _ z => z.elim
    rintro v V ⟨⟨j, rfl, j0, j1⟩, hV⟩
    exact ⟨hV, j, rfl⟩
  · intro ys U hyl hys hU
    obtain ⟨s, rfl⟩ := ints_of hys
    have hs : s.length = (links n).length := by simpa using hyl
    rw [r_scons]
    simp [getO]
    rw [r_scons]
    cases d with
    | none =>
      simp [DL.getD, resL, op1, notNoneD1, truth]
      rw [r_scons]
      simp [DL.getD, op1, notNoneD1, truth]
      exact tail s hs U hU
    | some l =>
      have hl := hd l rfl
      -- the second branch
      have br2 : ∀ (s : List Int), s.length = (links n).length → ∀ U, St U → Run (evSs ⟨run tb F 35, F⟩ (ssDrop 3 again03) (envA n a0 a2 a4 a5 a6 (some (.dat (resL (some l)))) a9 (some (.dat (.list (s.map .int)))) a11 a12 a13 a14 a15 a16 a17 a18)) U P NoR := by
        intro s hs U hU
        simp only [again03, turn03, ssDrop, d_law_k03]
        rw [r_scons]
        simp [DL.getD, resL, op1, notNoneD1, truth, getC]
        refine (sp_taken (k := 34) (F := F) (many := 3) (by omega) (by omega) hU).mono ?_ fun _ _ _ z => z.elim
        rintro v V ⟨⟨j, rfl, j0, j1⟩, hV⟩
        by_cases hj : j = 0
        · simp [op2, eqD_int, hj, truth]
          rw [r_scons]
          simp [DL.getD, items]
          rw [run_cmpY PyData.int (fun x => .int (x * 2))]
          · have e : (l.map fun x => PyData.int (x * 2)) = (l.map fun x => x * 2).map .int := by rw [List.map_map]; rfl
            have hl2 : (l.map fun x => x * 2).length = (links n).length := by simpa using hl
            rw [e]
            generalize (l.map fun x => x * 2) = s2 at hl2
            rw [r_scons]
            simp [getO]
            exact tail s2 hl2 V hV
          · intro x hx
            refine ⟨_, rfl, ?_⟩
            apply eq_ok
            have h2 : mulD2 (.int x) (.int 2) = some (.int (x * 2)) := by
              unfold mulD2
              simp only
              rw [if_pos (.inr (by decide))]
            simp [wipeE, DL.getD, op2, h2]
        · simp [op2, eqD_int, hj, truth]
          exact tail s hs V hV
      simp only [again03, turn03, ssDrop, d_law_k03] at br2
      simp [DL.getD, resL, op1, notNoneD1, truth, getC]
      refine (sp_taken (k := 34) (F := F) (many := 3) (by omega) (by omega) hU).mono ?_ fun _ _ _ z => z.elim
      rintro v V ⟨⟨j, rfl, j0, j1⟩, hV⟩
      by_cases hj : 0 < j
      · simp [op2, gtD2, hj, truth]
        rw [r_scons]
        simp [DL.getD, items]
        refine run_compA St (fun y => ∃ i : Int, y = .int i) _ hV ?_ ?_
        · intro x hx W hW
          obtain ⟨x, _, rfl⟩ := List.mem_map.mp hx
          refine ⟨_, rfl, rfl, ?_⟩
          simp [wipeE, getC, DL.getD]
          refine (sp_taken (k := 34) (F := F) (many := 6) (by omega) (by omega) hW).mono ?_ fun _ _ _ z => z.elim
          rintro v X ⟨⟨i, rfl, i0, i1⟩, hX⟩
          by_cases hi : i = 0
          · simp [op2, eqD_int, hi, truth, addD2]
            exact hX
          · simp [op2, eqD_int, hi, truth, addD2]
            exact hX
        · intro ys2 W hyl2 hys2 hW
          obtain ⟨s2, rfl⟩ := ints_of hys2
          have hs2 : s2.length = (links n).length := by
            have : s2.length = l.length := by simpa using hyl2
            omega
          rw [r_scons]
          simp [getO]
          exact br2 s2 hs2 W hW
      · simp [op2, gtD2, hj, truth]
        exact br2 s hs V hV
end
end DL.P
end

section
/-! P12: law k03, the turn's end -/
namespace DL.P
open PySem DL
section
variable {F k : Nat} {S : Store} {Q : Av → Store → Prop} {R : Str → D → Store → Prop} {n : Net}
theorem maxL_mem : ∀ l : List Int, maxL l = -1 ∨ maxL l ∈ l := by
  intro l
  induction l using snoc_ind2 with
  | h0 => exact .inl rfl
  | h1 l a ih =>
    rw [foldmax_snoc]
    split
    · exact .inr (by simp)
    · rcases ih with h | h
      · exact .inl h
      · exact .inr (by simp [h])
theorem link00 (O : n.Ok) : linkB n (.tuple [.int 0, .int 0]) = false := by
  rw [Bool.eq_false_iff]
  intro h
  have := linkB_pr O 0 0 h
  exact (link_in' O this).2.2.2.2 rfl
theorem rep_one' (x : D) (m : Nat) : (List.replicate m [x]).flatten = List.replicate m x := by
  induction m with
  | zero => rfl
  | succ m ih => rw [List.replicate_succ, List.flatten_cons, ih, List.replicate_succ]; rfl
/-- odd placings -/
theorem turn03_e (O : n.Ok) {a0 a2 a4 a5 a6 a8 a9 a10 a11 a12 a13 a14 a15 a16 a17 a18 : Option Slot} {T : Store} (hT : St T) {P : Fl → Store → Prop}
    (hP : ∀ U b6, St U → P (.next (envA n a0 a2 a4 a5 b6 a8 a9 a10 a11 a12 a13 a14 a15 a16 a17 a18)) U) :
    Run (evSs ⟨run tb F 35, F⟩ (ssDrop 7 turn03) (envA n a0 a2 a4 a5 a6 a8 a9 a10 a11 a12 a13 a14 a15 a16 a17 a18)) T P NoR := by
  have hll := links_len O
  have hlim := lim_big
  have em : mulD2 (.list [.int 0]) (.int ((links n).length : Int)) = some (.list (List.replicate (links n).length (.int 0))) := by
    unfold mulD2
    simp only
    rw [if_pos (by simp; omega), Int.toNat_natCast, rep_one']
  have e1 : ((links n).map fun _ => PyData.bool true) = List.replicate (links n).length (.bool true) := List.map_const' ..
  have e2 : ((links n).map fun _ => PyData.int 12) = List.replicate (links n).length (.int 12) := List.map_const' ..
  have t1 : addD2 (.tuple (List.replicate (links n).length (.bool true))) (.tuple [.int 0]) = some (.tuple (List.replicate (links n).length (.bool true) ++ [.int 0])) := by
    unfold addD2
    simp only
    rw [if_pos (by simp; omega)]
  have t2 : addD2 (.tuple (List.replicate (links n).length (.int 12))) (.tuple [.int 1]) = some (.tuple (List.replicate (links n).length (.int 12) ++ [.int 1])) := by
    unfold addD2
    simp only
    rw [if_pos (by simp; omega)]
  simp only [turn03, ssDrop, d_law_k03]
  rw [r_scons]
  simp only [r_set, r_re, r_call, r_acel, r_acons, r_anil, r_lst, r_econs, r_enil, r_cst, r_op2, r_op1, r_comp, r_seq, r_var, r_tup, getC, DL.getD, List.getElem?_cons_succ, List.getElem?_cons_zero, run_lift_some, op1, op2, lenD1, List.length_map, em, items, wipeE, List.set_cons_succ, List.set_cons_zero]
  rw [run_cmpY pr (fun _ => .bool true)]
  · rw [e1]
    simp only [tupleD1, run_lift_some, t1]
    rw [run_cmpY pr (fun _ => .int 12)]
    · rw [e2]
      simp only [run_lift_some, t2]
      refine (sp_pick (k := 33) (F := F) (xs := odds03 n) (by simp [odds03]) (by simp [odds03]) hT).mono ?_ fun _ _ _ z => z.elim
      rintro v U ⟨⟨x, hx, rfl⟩, hU⟩
      obtain ⟨o1, o2, o3⟩ := odds03_ok hx
      have y1 := fun (S : Store) => sp_is_placing_odd (F := F) (k := 30) (S := S) O o1
      have y2 := fun (S : Store) => sp_valid_odd (F := F) (k := 30) (S := S) O o1
      have ln : linkB n .none = false := rfl
      dsimp only
      rw [r_scons]
      simp [DL.getD, run_ok (y1 _), op1, notBD1, truth, sp_placing_rule_no (k := 30) O y2, op2, ne_str1]
      rw [r_scons]
      simp [DL.getD, op2, sp_forbidden_no (k := 30) O (link00 O), sp_clash_one (k := 30) O (link00 O), ne_str1, truth]
      rw [r_scons]
      cases hl : links n with
      | nil =>
        simp [DL.getD, op2, ne_nilD, truth, sp_least_net (k := 30) o2 o3, ne_str1]
        have z := hP U (some (.dat x)) hU
        unfold envA at z
        rw [hl] at z
        exact z
      | cons p r =>
        have hp : p ∈ links n := by rw [hl]; simp
        have gi : idxD2 (.list (pr p :: r.map pr)) (.int 0) = some (pr p) := rfl
        simp [DL.getD, op2, ne_nilD, truth, gi, sp_clash_other (k := 30) O hp ln, sp_least_net (k := 30) o2 o3, ne_str1]
        have z := hP U (some (.dat x)) hU
        unfold envA at z
        rw [hl] at z
        exact z
    · intro a ha
      refine ⟨_, rfl, ?_⟩
      apply eq_ok
      simp
  · intro a ha
    refine ⟨_, rfl, ?_⟩
    apply eq_ok
    simp
/-- fewer slots do not serve -/
theorem turn03_d (O : n.Ok) {d : Option (Nat × List Int)} (hd : dueO n = d) {a0 a2 a4 a5 a6 a9 a10 a11 a12 a13 a14 a15 a16 a17 a18 : Option Slot} {T : Store} (hT : St T) {P : Fl → Store → Prop}
    (hP : ∀ U b6 b12 b13 b15, St U → P (.next (envA n a0 a2 a4 a5 b6 (some (.dat (resL (d.map (·.2))))) a9 a10 a11 b12 b13 a14 b15 a16 a17 a18)) U) :
    Run (evSs ⟨run tb F 35, F⟩ (ssDrop 6 turn03) (envA n a0 a2 a4 a5 a6 (some (.dat (resL (d.map (·.2))))) a9 a10 a11 a12 a13 a14 a15 a16 a17 a18)) T P NoR := by
  have fin := fun (U : Store) (hU : St U) (a12 a13 a15 : Option Slot) => turn03_e (F := F) (n := n) O hU (a0 := a0) (a2 := a2) (a4 := a4) (a5 := a5) (a6 := a6) (a8 := some (.dat (resL (d.map (·.2))))) (a9 := a9) (a10 := a10) (a11 := a11) (a12 := a12) (a13 := a13) (a14 := a14) (a15 := a15) (a16 := a16) (a17 := a17) (a18 := a18) (P := P) fun V b6 hV => hP V _ _ _ _ hV
  simp only [turn03, ssDrop, d_law_k03] at fin ⊢
  rw [r_scons]
  cases d with
  | none =>
    simp [DL.getD, resL, op1, notNoneD1, truth]
    exact fin T hT _ _ _
  | some d =>
    obtain ⟨q1, q2, q3, q4, q5⟩ := due_nn O hd
    by_cases hlk : links n = []
    · have hmn : ((links n).map pr) = [] := by rw [hlk]; rfl
      simp only [r_ifs, r_tand, r_te, r_op1, r_op2, r_var, r_lst, r_enil, DL.getD, List.getElem?_cons_succ, List.getElem?_cons_zero, run_lift_some, Option.map_some, resL, op1, notNoneD1, op2, ne_nilD, truth, decide_eq_true hmn, Bool.not_true, Bool.false_eq_true, if_false, if_true, r_snil]
      exact fin T hT a12 a13 a15
    · have hdn : d.2 ≠ [] := by
        intro e
        rw [e] at q2
        exact hlk (List.eq_nil_of_length_eq_zero q2.symm)
      have em := maxD_done hdn fun x hx => (q1 x hx).1
      have hm0 := (maxL_ge d.2)
      have hmm : maxL d.2 ∈ d.2 := by
        rcases maxL_mem d.2 with h | h
        · cases hk : d.2 with
          | nil => exact absurd hk hdn
          | cons a r =>
            have h1 := hm0.2 a (by rw [hk]; simp)
            have h2 := (q1 a (by rw [hk]; simp)).1
            omega
        · exact h
      have hmr := q1 _ hmm
      have hrng := rng_is (x := maxL d.2) (m := (maxL d.2).toNat) (by omega) (by omega)
      have hne : ¬ ((links n).map pr) = [] := by simpa using hlk
      simp only [r_ifs, r_tand, r_te, r_op1, r_op2, r_var, r_lst, r_enil, DL.getD, List.getElem?_cons_succ, List.getElem?_cons_zero, run_lift_some, Option.map_some, resL, op1, notNoneD1, op2, ne_nilD, truth, hne, decide_false, Bool.not_false, if_true]
      rw [r_scons]
      simp only [r_par, r_re, r_comp, r_rng1, r_op1, r_var, op1, DL.getD, List.getElem?_cons_succ, List.getElem?_cons_zero, run_lift_some, em, hrng, r_lst, r_enil]
      refine run_compA St (fun y => ∃ z, SlotOk z ∧ y = .str z) _ hT ?_ ?_
      · intro x hx U hU
        rw [rngI_0] at hx
        obtain ⟨i, hi, rfl⟩ := List.mem_map.mp hx
        refine ⟨_, rfl, rfl, ?_⟩
        simp [wipeE, getC]
        refine (sp_lslot (k := 32) (F := F) hU).mono ?_ fun _ _ _ z => z.elim
        rintro v V ⟨⟨z, hz, rfl⟩, hV⟩
        exact ⟨hV, z, hz, rfl⟩
      · intro ys U hyl hys hU
        obtain ⟨rule, rfl, hrule⟩ := of_strs hys
        rw [List.length_map, rngI_0, List.length_map, List.length_range] at hyl
        have hrl : (rule.length : Int) < d.1 := by omega
        obtain ⟨p, hp, hno⟩ := no_fewer O hd hrl
        simp only [List.set_cons_succ, List.set_cons_zero]
        rw [r_scons]
        simp [DL.getD, items]
        refine run_forP _ _ (fun pre env V => V = U ∧ ∃ b12, env = [a0, some (.cel 0), a2, some (.dat n.d), a4, a5, a6, some (.dat (.list ((links n).map pr))), some (.dat (.list (d.2.map .int))), a9, a10, a11, b12, some (.dat (.list (rule.map .str))), a14, some (.dat (.list ((pre.flatMap fun z => clearL n (wl n z)).map pr))), a16, a17, a18]) ⟨rfl, _, rfl⟩ ?_ ?_
        · rintro pre z post he env V ⟨rfl, b12, rfl⟩
          have z1 := fun (S : Store) => sp_lby (F := F) (k := 34) (S := S) (z := z) O
          have z2 := fun (S : Store) => sp_lclear (F := F) (k := 33) (S := S) (snd := wl n z) O (.inl rfl)
          have hcl : ∀ l : List Str, (l.flatMap fun z => clearL n (wl n z)).length ≤ 49 * l.length := by
            intro l
            induction l with
            | nil => simp
            | cons a r ih =>
              rw [List.flatMap_cons, List.length_append, List.length_cons]
              have h1 := links_len O
              have h2 : (clearL n (wl n a)).length ≤ (links n).length := List.length_filter_le _ _
              omega
          have h1 := hcl pre
          have h2 : (clearL n (wl n z)).length ≤ 49 := by
            have h1 := links_len O
            have h2 : (clearL n (wl n z)).length ≤ (links n).length := List.length_filter_le _ _
            omega
          have h3 : pre.length ≤ 7 := by
            have : pre.length ≤ rule.length := by rw [he]; simp
            omega
          have ea : addD2 (.list ((pre.flatMap fun z => clearL n (wl n z)).map pr)) (.list ((clearL n (wl n z)).map pr)) = some (.list (((pre ++ [z]).flatMap fun z => clearL n (wl n z)).map pr)) := by
            rw [add_lst (by have := lim_big; rw [List.length_map, List.length_map]; omega), List.flatMap_append, List.map_append]
            simp
          refine ⟨_, rfl, ?_⟩
          rw [r_scons]
          simp only [r_set, r_re, r_op2, r_var, r_call, r_acons, r_anil, DL.getD, List.getElem?_cons_succ, List.getElem?_cons_zero, List.set_cons_succ, List.set_cons_zero, run_lift_some, run_ok (z1 _), run_ok (z2 _), op2, ea, r_snil]
          exact ⟨trivial, _, rfl⟩
        · rintro env V ⟨rfl, b12, rfl⟩
          dsimp only
          rw [r_scons]
          simp [DL.getD, items]
          rw [run_cmp pr (fun q => !decide (q ∈ rule.flatMap fun z => clearL n (wl n z))) pr]
          · have hnn : ¬ ((((links n).filter fun q => !decide (q ∈ rule.flatMap fun z => clearL n (wl n z))).map pr) = []) := by
              rw [List.map_eq_nil_iff, List.filter_eq_nil_iff]
              intro h
              have h1 := h p hp
              simp only [Bool.not_eq_true', decide_eq_false_iff_not, Classical.not_not, List.mem_flatMap] at h1
              obtain ⟨z, hz, hc⟩ := h1
              exact hno z hz hc
            simp only [op2, eq_nilD, hnn, decide_false, run_lift_some, truth]
            simp
            exact fin V hU _ _ _
          · intro q hq
            refine ⟨_, rfl, ?_, fun _ => ?_⟩
            · apply eq_ok
              simp only [wipeE, r_te, r_op2, r_var, DL.getD, List.set_cons_succ, List.set_cons_zero, List.getElem?_cons_succ, List.getElem?_cons_zero, run_lift_some, op2, nin_prsL', truth]
              simp
            · apply eq_ok
              simp [wipeE, DL.getD]
end
end DL.P
end

section
/-! P13: law k03 -/
namespace DL.P
open PySem DL
section
variable {F k : Nat} {S : Store} {Q : Av → Store → Prop} {R : Str → D → Store → Prop} {n : Net}
theorem due_atoms (O : n.Ok) : AlD 1 (resD ((dueO n).map (·.2))) := by
  cases hd : dueO n with
  | none => exact .inl trivial
  | some d =>
    have h := (due_nn O hd).2.1
    have := links_len O
    refine .inr ⟨_, rfl, ?_, fun x hx => ?_⟩
    · rw [List.length_map]
      show d.2.length ≤ 1000000
      omega
    · obtain ⟨i, _, rfl⟩ := List.mem_map.mp hx
      trivial
theorem leastN_atoms : AlD 0 (leastN n) := by
  unfold leastN
  split <;> trivial
theorem turn03_c (O : n.Ok) (h5 : n.m ≤ 5) (hF : 20 ^ 31 ≤ F) {a0 a2 a4 a5 a6 a9 a10 a11 a12 a13 a14 a15 a16 a17 a18 : Option Slot} {T : Store} (hT : St T) {P : Fl → Store → Prop}
    (hP : ∀ U b5 b6 b10 b11 b12 b13 b14 b15 b17, St U → P (.next (envA n a0 a2 a4 b5 b6 (some (.dat (resL ((dueO n).map (·.2))))) a9 b10 b11 b12 b13 b14 b15 a16 b17 a18)) U) :
    Run (evSs ⟨run tb F 35, F⟩ (ssDrop 3 turn03) (envA n a0 a2 a4 a5 a6 (some (.dat (resL ((dueO n).map (·.2))))) a9 a10 a11 a12 a13 a14 a15 a16 a17 a18)) T P NoR := by
  have fin := fun (U : Store) (hU : St U) (a5 a10 a11 a12 a13 a14 a17 : Option Slot) => turn03_d (F := F) (n := n) O rfl hU (a0 := a0) (a2 := a2) (a4 := a4) (a5 := a5) (a6 := a6) (a9 := a9) (a10 := a10) (a11 := a11) (a12 := a12) (a13 := a13) (a14 := a14) (a15 := a15) (a16 := a16) (a17 := a17) (a18 := a18) (P := P) fun V b6 b12 b13 b15 hV => hP V _ _ _ _ _ _ _ _ _ hV
  have ag := fun (U : Store) (hU : St U) (a5 a10 a11 a12 a13 a14 a17 : Option Slot) => again_ok (F := F) O (d := (dueO n).map (·.2)) (fun l hl => by
    cases hd : dueO n with
    | none => rw [hd] at hl; cases hl
    | some d =>
      rw [hd] at hl
      cases hl
      exact (due_nn O hd).2.1) (a0 := a0) (a2 := a2) (a4 := a4) (a5 := a5) (a6 := a6) (a9 := a9) (a10 := a10) (a11 := a11) (a12 := a12) (a13 := a13) (a14 := a14) (a15 := a15) (a16 := a16) (a17 := a17) (a18 := a18) hU (P := fun f V => St V ∧ ∃ b10 b11 b12 b13 b14 b17, f = .next (envA n a0 a2 a4 a5 a6 (some (.dat (resL ((dueO n).map (·.2))))) a9 b10 b11 b12 b13 b14 a15 a16 b17 a18)) fun V b10 b11 b12 b13 b14 b17 hV => ⟨hV, _, _, _, _, _, _, rfl⟩
  have y1 := fun (S : Store) => sp_first_placing (F := F) (k := 30) (S := S) O h5 hF
  have y2 := fun (S : Store) => sp_alike (F := F) (due_atoms O) 33 S
  have y3 := fun (S : Store) => sp_least_slots (F := F) (k := 30) (S := S) O h5 hF
  have y4 := fun (S : Store) => sp_alike (F := F) (leastN_atoms (n := n)) 34 S
  -- the loop of trials and the rest
  have loop : Run (evSs ⟨run tb F 35, F⟩ (ssDrop 5 turn03) (envA n a0 a2 a4 a5 a6 (some (.dat (resL ((dueO n).map (·.2))))) a9 a10 a11 a12 a13 a14 a15 a16 a17 a18)) T P NoR := by
    simp only [turn03, ssDrop, d_law_k03, again03] at fin ag ⊢
    rw [r_scons]
    have e4 : ((asInt (.int 4)).bind fun n => if n ≤ LIM ∧ -(LIM : Int) ≤ n then some (rngI 0 n.toNat) else none) = some (rngI 0 4) := rfl
    simp only [r_fr, r_rng1, r_cst, e4, run_lift_some]
    refine run_for _ (fun i env U => St U ∧ ∃ b5 b10 b11 b12 b13 b14 b17, env = envA n a0 a2 a4 b5 a6 (some (.dat (resL ((dueO n).map (·.2))))) a9 b10 b11 b12 b13 b14 a15 a16 b17 a18) ⟨hT, _, _, _, _, _, _, _, rfl⟩ ?_ ?_
    · rintro i x hx env U ⟨hU, b5, b10, b11, b12, b13, b14, b17, rfl⟩
      refine ⟨_, rfl, ?_⟩
      refine Run.mono (ag U hU (some (.dat x)) b10 b11 b12 b13 b14 b17) ?_ fun _ _ _ z => z.elim
      rintro f V ⟨hV, c10, c11, c12, c13, c14, c17, rfl⟩
      exact ⟨hV, _, _, _, _, _, _, _, rfl⟩
    · rintro env U ⟨hU, b5, b10, b11, b12, b13, b14, b17, rfl⟩
      exact fin U hU _ _ _ _ _ _ _
  simp only [turn03, ssDrop, d_law_k03] at loop ⊢
  rw [r_scons]
  cases hd : dueO n with
  | none =>
    have hl : leastN n = .none := by
      unfold leastN
      rw [hd]
    rw [hd] at y1 y2 loop
    rw [hl] at y3 y4
    have y2' : ∀ S, run tb F 35 f__law_alike [.d .none, .d .none] S = some (.ok (.d (.bool true)), S) := y2
    have y1' : ∀ S, run tb F 35 f_first_placing [.d n.d] S = some (.ok (.d .none), S) := y1
    have y4' : ∀ S, run tb F 35 f__law_alike [.d .none, .d .none] S = some (.ok (.d (.bool true)), S) := y4
    simp [DL.getD, run_ok (y1' _), resL, op1, isNoneD1, truth, run_ok (y2' _)]
    rw [r_scons]
    simp [DL.getD, run_ok (y3 _), op1, isNoneD1, truth, run_ok (y4' _)]
    exact loop
  | some d =>
    obtain ⟨q1, q2, q3, q4, q5⟩ := due_nn O hd
    have hl : leastN n = .int (maxL d.2 + 1) := by
      unfold leastN
      rw [hd]
    rw [hd] at y1 y2 loop
    rw [hl] at y3 y4
    have hll := links_len O
    have hlim := lim_big
    have y1' : ∀ S, run tb F 35 f_first_placing [.d n.d] S = some (.ok (.d (.tuple (d.2.map .int))), S) := y1
    have y2' : ∀ S, run tb F 35 f__law_alike [.d (.tuple (d.2.map .int)), .d (.tuple (d.2.map .int))] S = some (.ok (.d (.bool true)), S) := y2
    have ea : addD2 (.list [.int (-1)]) (.list (d.2.map .int)) = some (.list (.int (-1) :: d.2.map .int)) := by
      rw [add_lst (by simp; omega)]
      rfl
    have em : maxD1 (.list (.int (-1) :: d.2.map .int)) = some (.int (maxL d.2)) := by
      have h : asInts (PyData.int (-1) :: d.2.map .int) = some (-1 :: d.2) := asInts_map (-1 :: d.2)
      simp only [maxD1, h, Option.bind_some]
      rfl
    have ai : ∀ a b : Int, addD2 (.int a) (.int b) = some (.int (a + b)) := fun _ _ => rfl
    have y4' : ∀ S, run tb F 35 f__law_alike [.d (.int (maxL d.2 + 1)), .d (.int (maxL d.2 + 1))] S = some (.ok (.d (.bool true)), S) := y4
    simp [DL.getD, run_ok (y1' _), resL, op1, isNoneD1, tupleD1, truth, run_ok (y2' _)]
    rw [r_scons]
    simp [DL.getD, run_ok (y3 _), op1, isNoneD1, truth, negD1, op2, ea, em, ai, run_ok (y4' _)]
    exact loop
theorem turn03_ok (hF : 20 ^ 31 ≤ F) {a0 a2 a3 a4 a5 a6 a7 a8 a9 a10 a11 a12 a13 a14 a15 a16 a17 a18 : Option Slot} (hS : St S) :
    Run (evSs ⟨run tb F 35, F⟩ turn03 [a0, some (.cel 0), a2, a3, a4, a5, a6, a7, a8, a9, a10, a11, a12, a13, a14, a15, a16, a17, a18]) S (fun f U => St U ∧ ∃ b3 b4 b5 b6 b7 b8 b9 b10 b11 b12 b13 b14 b15 b16 b17 b18, f = .next [a0, some (.cel 0), a2, b3, b4, b5, b6, b7, b8, b9, b10, b11, b12, b13, b14, b15, b16, b17, b18]) NoR := by
  have fin := fun (n : Net) (O : n.Ok) (h5 : n.m ≤ 5) (T : Store) (hT : St T) (a4 a9 : Option Slot) => turn03_c (F := F) (n := n) O h5 hF hT (a0 := a0) (a2 := a2) (a4 := a4) (a5 := a5) (a6 := a6) (a9 := a9) (a10 := a10) (a11 := a11) (a12 := a12) (a13 := a13) (a14 := a14) (a15 := a15) (a16 := a16) (a17 := a17) (a18 := a18) (P := fun f U => St U ∧ ∃ b3 b4 b5 b6 b7 b8 b9 b10 b11 b12 b13 b14 b15 b16 b17 b18, f = .next [a0, some (.cel 0), a2, b3, b4, b5, b6, b7, b8, b9, b10, b11, b12, b13, b14, b15, b16, b17, b18]) fun V b5 b6 b10 b11 b12 b13 b14 b15 b17 hV => ⟨hV, _, _, _, _, _, _, _, _, _, _, _, _, _, _, _, _, rfl⟩
  generalize (fun (f : Fl) (U : Store) => St U ∧ ∃ b3 b4 b5 b6 b7 b8 b9 b10 b11 b12 b13 b14 b15 b16 b17 b18, f = .next [a0, some (.cel 0), a2, b3, b4, b5, b6, b7, b8, b9, b10, b11, b12, b13, b14, b15, b16, b17, b18]) = P at fin ⊢
  simp only [turn03, ssDrop, d_law_k03] at fin ⊢
  rw [r_scons]
  simp [getC]
  refine (sp_net (k := 32) (F := F) (most := 5) (by omega) (by omega) hS).mono ?_ fun _ _ _ z => z.elim
  rintro v T ⟨⟨n, O, h5, rfl⟩, hT⟩
  dsimp only
  rw [r_scons]
  have b1 := fun (S : Store) => sp_links (k := 34) (F := F) (S := S) O
  have b2 := fun (S : Store) => sp_lleast (k := 0) (F := F) (S := S) O h5
  have hll := links_len O
  simp [DL.getD, run_ok (b1 _), run_ok (b2 _)]
  rw [r_scons]
  simp [DL.getD, items]
  refine run_forP _ _ (fun pre env U => St U ∧ ∃ b4 b9, env = envA n a0 a2 b4 a5 a6 (some (.dat (resL ((dueO n).map (·.2))))) b9 a10 a11 a12 a13 a14 a15 a16 a17 a18) ⟨hT, _, _, rfl⟩ ?_ ?_
  · rintro pre p post he env U ⟨hU, b4, b9, rfl⟩
    have hp : p ∈ links n := by rw [he]; simp
    have y1 := fun (S : Store) => sp_forbidden (F := F) (k := 30) (S := S) O hp
    have y2 := fun (S : Store) => sp_lforb (F := F) (k := 34) (S := S) O hp
    have y3 := fun (S : Store) => sp_alike (F := F) (j := 0) (d := .str (forbZ n p)) trivial 34 S
    have hfl := forb_len (n := n) p
    have ej := join_arr (cs := forbL n p) (by omega)
    have ej' : joinD2 (.str "") (.list ((forbL n p).map chr)) = some (.str (forbZ n p)) := ej
    have hne : links n ≠ [] := by rw [he]; simp
    have hpos : 1 ≤ (links n).length := List.length_pos_of_mem hp
    refine ⟨_, rfl, ?_⟩
    rw [r_scons]
    simp [DL.getD, run_ok (y1 _), run_ok (y2 _), op2, ej', run_ok (y3 _), truth]
    rw [r_scons]
    simp [DL.getD, getC]
    refine (sp_pick (k := 33) (F := F) (xs := (links n).map pr) (by simpa using hpos) (by simp; omega) hU).mono ?_ fun _ _ _ z => z.elim
    rintro v V ⟨⟨x, hx, rfl⟩, hV⟩
    obtain ⟨q, hq, rfl⟩ := List.mem_map.mp hx
    have z1 := fun (S : Store) => sp_clash (F := F) (k := 30) (S := S) O hp hq
    have z2 := fun (S : Store) => sp_clash (F := F) (k := 30) (S := S) O hq hp
    have z3 := fun (S : Store) => sp_lclashes (F := F) (k := 33) (S := S) O hp hq
    have z4 := fun (S : Store) => sp_alike (F := F) (j := 0) (d := .bool (clashB n p q)) trivial 34 S
    have hs : clashB n q p = clashB n p q := clash_symm q p
    have enb : ∀ a : Bool, neD2 (.bool a) (.bool a) = some (.bool false) := fun a => by simp [neD2, PyData.depth, PyData.eqv]
    dsimp only
    rw [r_scons]
    simp [DL.getD, run_ok (z1 _), run_ok (z2 _), run_ok (z3 _), run_ok (z4 _), truth, hs, op2, enb]
    exact hV
  · rintro env U ⟨hU, b4, b9, rfl⟩
    exact fin n O h5 U hU b4 b9
/-! the last words -/
theorem sort_is' {l m : List Pr} (hp : l.Perm m) (hs : m.Pairwise fun a b => leP a b = true) : l.mergeSort leP = m :=
  List.Perm.eq_of_pairwise (le := fun a b => leP a b = true) (fun a b _ _ h1 h2 => leP_anti h1 h2) (List.pairwise_mergeSort leP_trans leP_total _) hs ((List.mergeSort_perm _ _).trans hp)
def m1 : Net := ⟨"abc", [[1, 2], [0, 2], [0, 1]]⟩
def m2 : Net := ⟨"abc", [[], [0], [0]]⟩
def m3 : Net := ⟨"ab", [[], []]⟩
theorem rows3' {e : List (List Int)} {P : Nat → List Int → Prop} {a b c : List Int} (he : e = [a, b, c]) (h0 : P 0 a) (h1 : P 1 b) (h2 : P 2 c) : ∀ i r, e[i]? = some r → P i r := by
  subst he
  intro i r h
  match i, h with
  | 0, h => cases h; exact h0
  | 1, h => cases h; exact h1
  | 2, h => cases h; exact h2
  | i + 3, h => cases h
theorem rows2' {e : List (List Int)} {P : Nat → List Int → Prop} {a b : List Int} (he : e = [a, b]) (h0 : P 0 a) (h1 : P 1 b) : ∀ i r, e[i]? = some r → P i r := by
  subst he
  intro i r h
  match i, h with
  | 0, h => cases h; exact h0
  | 1, h => cases h; exact h1
  | i + 2, h => cases h
theorem m1_ok : m1.Ok := ⟨rfl, by decide, by decide, by decide +kernel, rows3' (P := fun i r => (∀ x ∈ r, 0 ≤ x ∧ x < (m1.m : Int) ∧ x ≠ (i : Int)) ∧ rising r = true) rfl (by decide) (by decide) (by decide)⟩
theorem m2_ok : m2.Ok := ⟨rfl, by decide, by decide, by decide +kernel, rows3' (P := fun i r => (∀ x ∈ r, 0 ≤ x ∧ x < (m2.m : Int) ∧ x ≠ (i : Int)) ∧ rising r = true) rfl (by decide) (by decide) (by decide)⟩
theorem m3_ok : m3.Ok := ⟨rfl, by decide, by decide, by decide +kernel, rows2' (P := fun i r => (∀ x ∈ r, 0 ≤ x ∧ x < (m3.m : Int) ∧ x ≠ (i : Int)) ∧ rising r = true) rfl (by decide) (by decide)⟩
theorem cover_none {n : Net} (O : n.Ok) (h : ∀ p ∈ links n, ∀ x ∈ rowOf n.e p.2 ++ [p.2], x ≠ p.1 → lab n x ≠ lab n p.1) : coversD n (sameL n) (links n) = [] := by
  rw [covers_nil]
  intro p hp
  rw [List.eq_nil_iff_forall_not_mem]
  intro x hx
  obtain ⟨h1, h2, h3⟩ := mem_coverAt.mp hx
  unfold sameL at h3
  exact h p hp x (by rw [List.mem_append]; simpa using h1) h2 (of_decide_eq_true h3)
theorem m1_links : links m1 = [(0, 1), (0, 2), (1, 0), (1, 2), (2, 0), (2, 1)] := sort_is' (by decide +kernel) (by decide +kernel)
theorem m2_links : links m2 = [(0, 1), (0, 2)] := sort_is' (by decide +kernel) (by decide +kernel)
theorem m3_links : links m3 = [] := sort_is' (by decide +kernel) (by decide +kernel)
theorem m1_due : dueO m1 = some (3, [0, 0, 1, 1, 2, 2]) := by
  have hc : coversD m1 (sameL m1) (links m1) = [] := cover_none m1_ok (by rw [m1_links]; decide +kernel)
  unfold dueO
  rw [if_pos hc]
  have ht : tabT m1 = [[2, 3, 4, 5], [2, 3, 4, 5], [0, 1, 4, 5], [0, 1, 4, 5], [0, 1, 2, 3], [0, 1, 2, 3]] := by
    unfold tabT rowT
    rw [m1_links]
    decide +kernel
  rw [ht]
  decide +kernel
theorem m2_due : dueO m2 = some (1, [0, 0]) := by
  have hc : coversD m2 (sameL m2) (links m2) = [] := cover_none m2_ok (by rw [m2_links]; decide +kernel)
  unfold dueO
  rw [if_pos hc]
  have ht : tabT m2 = [[], []] := by
    unfold tabT rowT
    rw [m2_links]
    decide +kernel
  rw [ht]
  decide +kernel
theorem m3_due : dueO m3 = some (0, []) := by
  have hc : coversD m3 (sameL m3) (links m3) = [] := cover_none m3_ok (by rw [m3_links]; decide +kernel)
  unfold dueO
  rw [if_pos hc]
  have ht : tabT m3 = [] := by
    unfold tabT
    rw [m3_links]
    rfl
  rw [ht]
  decide +kernel
theorem end03 (hF : 20 ^ 31 ≤ F) {T : Store} {a0 b1 b2 b3 b4 b5 b6 b7 b8 b9 b10 b11 b12 b13 b14 b15 b16 b17 b18 : Option Slot} : evSs ⟨run tb F 35, F⟩ (ssDrop 2 d_law_k03.body) [a0, b1, b2, b3, b4, b5, b6, b7, b8, b9, b10, b11, b12, b13, b14, b15, b16, b17, b18] T = some (.ok (.ret (.d (.bool true))), T) := by
  apply eq_ok
  simp only [ssDrop, d_law_k03]
  have y1 := fun (S : Store) => sp_least_slots (F := F) (k := 30) (S := S) m1_ok (by decide) hF
  have y2 := fun (S : Store) => sp_first_placing (F := F) (k := 30) (S := S) m2_ok (by decide) hF
  have y3 := fun (S : Store) => sp_least_slots (F := F) (k := 30) (S := S) m3_ok (by decide) hF
  have l1 : leastN m1 = .int 3 := by
    unfold leastN
    rw [m1_due]
    rfl
  have l3 : leastN m3 = .int 0 := by
    unfold leastN
    rw [m3_due]
    rfl
  rw [l1] at y1
  rw [m2_due] at y2
  rw [l3] at y3
  have y2' : ∀ S, run tb F 35 f_first_placing [.d m2.d] S = some (.ok (.d (.tuple [.int 0, .int 0])), S) := y2
  have e1 : PyData.tuple [.str "abc", .tuple [.tuple [.int 1, .int 2], .tuple [.int 0, .int 2], .tuple [.int 0, .int 1]]] = m1.d := rfl
  have e2 : PyData.tuple [.str "abc", .tuple [.tuple [], .tuple [.int 0], .tuple [.int 0]]] = m2.d := rfl
  have e3 : PyData.tuple [.str "ab", .tuple [.tuple [], .tuple []]] = m3.d := rfl
  rw [r_scons]
  simp [e1, e2, e3, run_ok (y1 _), run_ok (y2' _), run_ok (y3 _), op2, eqD_int, asB, eqD2, PyData.depth, PyData.depthAll, PyData.eqv, PyData.eqvAll]
theorem law_k03 (ns : List Int) : ∃ S', callDef ⟨run tb (20 ^ 31) 35, 20 ^ 31⟩ d_law_k03 [.d (.list (ns.map .int))] [] = some (.ok (.d (.bool true)), S') := by
  have hF : 20 ^ 31 ≤ 20 ^ 31 := Nat.le_refl _
  generalize hFe : (20 : Nat) ^ 31 = F at *
  have hF' : 20 ^ 31 ≤ F := Nat.le_of_eq hFe
  have h : Run (callDef ⟨run tb F 35, F⟩ d_law_k03 [.d (.list (ns.map .int))]) [] (fun v _ => v = .d (.bool true)) NoR := by
    rw [run_callDef]
    refine ⟨rfl, ?_⟩
    simp only [d_law_k03]
    rw [r_scons]
    simp [env0, slotOf, DL.getD]
    rw [r_scons]
    have e20 : ((asInt (.int 10)).bind fun n => if n ≤ LIM ∧ -(LIM : Int) ≤ n then some (rngI 0 n.toNat) else none) = some (rngI 0 10) := rfl
    simp [e20]
    refine run_for _ (fun i env T => St T ∧ ∃ a0 a2 b3 b4 b5 b6 b7 b8 b9 b10 b11 b12 b13 b14 b15 b16 b17 b18, env = [a0, some (.cel 0), a2, b3, b4, b5, b6, b7, b8, b9, b10, b11, b12, b13, b14, b15, b16, b17, b18]) ⟨⟨ns, 0, 126019, 0, rfl, by omega⟩, _, _, _, _, _, _, _, _, _, _, _, _, _, _, _, _, _, _, rfl⟩ ?_ ?_
    · rintro i x hx env T ⟨hT, a0, a2, b3, b4, b5, b6, b7, b8, b9, b10, b11, b12, b13, b14, b15, b16, b17, b18, rfl⟩
      refine ⟨_, rfl, ?_⟩
      refine Run.mono (turn03_ok hF' hT) ?_ fun _ _ _ z => z.elim
      rintro f U ⟨hU, c3, c4, c5, c6, c7, c8, c9, c10, c11, c12, c13, c14, c15, c16, c17, c18, rfl⟩
      exact ⟨hU, _, _, _, _, _, _, _, _, _, _, _, _, _, _, _, _, _, _, rfl⟩
    · rintro env T ⟨hT, a0, a2, b3, b4, b5, b6, b7, b8, b9, b10, b11, b12, b13, b14, b15, b16, b17, b18, rfl⟩
      have fin := end03 hF' (T := T) (a0 := a0) (b1 := some (.cel 0)) (b2 := a2) (b3 := b3) (b4 := b4) (b5 := b5) (b6 := b6) (b7 := b7) (b8 := b8) (b9 := b9) (b10 := b10) (b11 := b11) (b12 := b12) (b13 := b13) (b14 := b14) (b15 := b15) (b16 := b16) (b17 := b17) (b18 := b18)
      simp only [d_law_k03, ssDrop] at fin
      dsimp only
      rw [run_ok fin]
  obtain ⟨v, T, e, rfl⟩ := h.get
  exact ⟨T, e⟩
end
end DL.P
end
theorem PySem.Challenge.cw_channelshared_k03_whole_placings_and_lea_holds : PySem.Challenge.rw_channelshared_k03_whole_placings_and_lea.Holds :=
  DL.P.holds_of (fuel := (20 ^ 31)) (kr := 35) (by decide) fun ns h1 h2 => DL.P.law_k03 ns
