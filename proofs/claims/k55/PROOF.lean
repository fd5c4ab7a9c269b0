import PyProof.Rows.All
import HandS.ForMost
import HandS.Wide
import HandS.SortInts
import HandS.Deep
import HandS.TupAny
import HandS.Comp
import HandS.ExcCtx
import HandS.ExcInit
import HandS.ExcField
import HandS.CallSlots
import HandS.IsInst
import HandS.Conv
import HandS.WordsList
import HandS.Rev
import HandS.RevTup
import KE.KExcSuper
import HandS.TryMany
import PySem.Challenge.RW_filechest_k55_whole_spreading_or_windows
section
set_option Elab.async false
set_option linter.all false
/-! The small language and its interpreter over plain data. Own work. -/
namespace PD
open PySem

abbrev D := PyData

mutual
/-- every text within is of a length and of code points that the machine takes -/
def okD : D → Bool
  | .str x => decide (x.length ≤ sizeLine) && PyData.strOk x
  | .list xs => okDs xs
  | .tuple xs => okDs xs
  | .dict _ => false
  | .none => true
  | .bool _ => true
  | .int _ => true
def okDs : List D → Bool
  | [] => true
  | x :: xs => okD x && okDs xs
end

/-- what a slot holds: fixed data; a list of our own (it may be changed); a list of our own lists -/
inductive Cell where
  | fz (d : D)
  | ow (ds : List D)
  | ow2 (dss : List (List D))

def Cell.d : Cell → D
  | .fz d => d
  | .ow ds => .list ds
  | .ow2 dss => .list (dss.map .list)
def Cell.ok : Cell → Bool
  | .fz d => okD d
  | .ow ds => okDs ds
  | .ow2 dss => dss.all okDs

abbrev Env := List (Option Cell)

structure Exc where
  k : Nat
  ds : List D

inductive Res (α : Type) where
  | ok (a : α) (env : Env)
  | exc (x : Exc) (env : Env)
  | bad

def Res.bind {α β : Type} (r : Res α) (f : α → Env → Res β) : Res β := match r with
  | .ok a env => f a env
  | .exc x env => .exc x env
  | .bad => .bad
def Res.of {α : Type} (o : Option α) (env : Env) : Res α := match o with
  | some a => .ok a env
  | none => .bad

inductive FR where
  | ok (c : Cell)
  | exc (x : Exc)
  | bad

inductive Out where
  | nx (env : Env)
  | rt (c : Cell)
  | bk (env : Env)
  | ct (env : Env)
  | exc (x : Exc) (env : Env)
  | bad

/-- built-in classes that isinstance is asked for -/
inductive Ty where | int | bool | str | list | tuple
  deriving DecidableEq

inductive O1 where
  | neg | len | list | tuple | int | sum | minL | maxL | sorted | isN | notN | lenset | abs | str
  | isi (t : Ty)
  deriving DecidableEq
inductive O2 where
  | add | sub | mul | fdiv | mod | pow | lt | le | gt | ge | eq | ne | mem | nmem | ix | max | min | find | join | index | count
  deriving DecidableEq

mutual
inductive Ex where
  | var (i : Nat)
  | lit (d : D)
  | glob (k : Nat)
  | op1 (o : O1) (a : Ex)
  | op2 (o : O2) (a b : Ex)
  | sl (a lo hi : Ex)
  | absent
  | tup (es : Exs)
  | lst (es : Exs)
  | call (f : Nat) (es : Exs)
  | ite (c : Te) (a b : Ex)
  | andV (a b : Ex)
  | orV (a b : Ex)
  | notV (a : Ex)
  | revL (a : Ex)
  | comp (elt : Ex) (own : List Nat) (t : Tg) (it : It) (c : Te)
inductive Exs where
  | n
  | c (e : Ex) (es : Exs)
inductive Te where
  | val (e : Ex)
  | and (a b : Te)
  | or (a b : Te)
  | not (a : Te)
  | yes
inductive It where
  | seq (e : Ex)
  | rng1 (a : Ex)
  | rng2 (a b : Ex)
  | rng3 (a b c : Ex)
  | enum (e : Ex)
  | zip (a b : Ex)
  | rev (a : Ex)
inductive Tg where
  | var (i : Nat)
  | tup (ts : Tgs)
inductive Tgs where
  | n
  | c (t : Tg) (ts : Tgs)
end

mutual
def Tg.slots : Tg → List Nat
  | .var i => [i]
  | .tup ts => ts.slots
def Tgs.slots : Tgs → List Nat
  | .n => []
  | .c t ts => t.slots ++ ts.slots
end

/-- what an except suite may give back -/
inductive Hx where
  | lit (d : D)
  | fld (j : Nat)
inductive Hd where
  /-- except (one of the classes ks) as slot: return e, a tuple -/
  | retTup (ks : List Nat) (slot : Option Nat) (es : List Hx)
  /-- return f(e) -/
  | retCall (ks : List Nat) (slot : Option Nat) (g : Nat)
  | retLit (ks : List Nat) (slot : Option Nat) (d : D)
  | asgCall (ks : List Nat) (slot : Option Nat) (i : Nat) (g : Nat)

mutual
inductive IS where
  | asg (t : Tg) (e : Ex)
  | aug (i : Nat) (o : O2) (e : Ex)
  | app (i : Nat) (e : Ex)
  | app2 (i : Nat) (j : Ex) (e : Ex)
  | ext (i : Nat) (e : Ex)
  | rem (i : Nat) (e : Ex)
  | rvs (i : Nat)
  | popTo (j i : Nat)
  | setI (i : Nat) (j : Ex) (e : Ex)
  | expr (e : Ex)
  | ite (c : Te) (a b : ISs)
  | whl (c : Te) (b : ISs)
  | for_ (t : Tg) (it : It) (b : ISs)
  | ret (e : Ex)
  | retV (i : Nat)
  | retN
  | brk
  | cont
  | pass
  | raise (k : Nat) (es : Exs)
  | try_ (b : ISs) (hs : List Hd)
inductive ISs where
  | n
  | c (s : IS) (ss : ISs)
end

/-! ### the operations upon data -/
def b2 (b : Bool) : Option Cell := some (.fz (.bool b))
def allInts : List D → Option (List Int)
  | [] => some []
  | .int i :: ds => (allInts ds).map (i :: ·)
  | _ :: _ => none

def isNone : D → Bool
  | .none => true
  | _ => false
def tyN : Ty → String
  | .int => "int"
  | .bool => "bool"
  | .str => "str"
  | .list => "list"
  | .tuple => "tuple"
/-- the class of data -/
def dTy : D → Option String
  | .none => some "NoneType"
  | .bool _ => some "bool"
  | .int _ => some "int"
  | .str _ => some "str"
  | .list _ => some "list"
  | .tuple _ => some "tuple"
  | .dict _ => none
def isTyS (t : Ty) (T : String) : Bool := T == tyN t || (t == .int && T == "bool")

def minI : Int → List Int → Int
  | m, [] => m
  | m, x :: xs => minI (if x < m then x else m) xs
def maxI : Int → List Int → Int
  | m, [] => m
  | m, x :: xs => maxI (if x > m then x else m) xs

def minO : List Int → Option Int
  | [] => none
  | m :: ns => some (minI m ns)
def maxO : List Int → Option Int
  | [] => none
  | m :: ns => some (maxI m ns)

def strDs (x : Str) : List D := x.cps.toList.map fun c => .str ⟨#[c]⟩

def insI (x : Int) : List Int → List Int
  | [] => [x]
  | y :: ys => if x ≤ y then x :: y :: ys else y :: insI x ys
def sortI : List Int → List Int
  | [] => []
  | x :: xs => insI x (sortI xs)
def nubI : List Int → List Int
  | [] => []
  | x :: xs => if x ∈ xs then nubI xs else x :: nubI xs

def a1 : O1 → D → Option Cell
  | .neg, .int i => some (.fz (.int (-i)))
  | .len, .list ds => some (.fz (.int ds.length))
  | .len, .tuple ds => some (.fz (.int ds.length))
  | .len, .str x => some (.fz (.int x.length))
  | .list, .list ds => some (.ow ds)
  | .list, .tuple ds => some (.ow ds)
  | .tuple, .list ds => some (.fz (.tuple ds))
  | .tuple, .tuple ds => some (.fz (.tuple ds))
  | .int, .int i => some (.fz (.int i))
  | .int, .bool b => some (.fz (.int (if b then 1 else 0)))
  | .sum, .list ds => (allInts ds).map fun ns => .fz (.int ns.sum)
  | .minL, .list ds => (allInts ds).bind fun ns => (minO ns).map fun m => .fz (.int m)
  | .maxL, .list ds => (allInts ds).bind fun ns => (maxO ns).map fun m => .fz (.int m)
  | .sorted, .list ds => (allInts ds).map fun ns => .ow ((sortI ns).map .int)
  | .isN, d => b2 (isNone d)
  | .notN, d => b2 (!isNone d)
  | .isi t, d => (dTy d).bind fun T => b2 (isTyS t T)
  | .abs, .int i => some (.fz (.int (if i < 0 then -i else i)))
  | _, _ => none

def mulOk (i j : Int) : Bool := decide (i.natAbs < 2 ^ 64) || decide (j.natAbs < 2 ^ 64) || decide (i.natAbs.log2 + j.natAbs.log2 < 1000000)
def divOk (j : Int) : Bool := decide (0 < j) && decide (j.natAbs.log2 < 9000)
def powOk (i j : Int) : Bool := decide (0 ≤ j) && decide (j ≤ 1000000) && decide (i.natAbs < 2 ^ 64)
def dOk (d : D) : Bool := decide (d.depth ≤ 64)

def eqC (d e : D) : Option Bool := if dOk d && dOk e then some (PyData.eqv d e) else none
def memC (d e : D) : Option Bool := match e with
  | .list ds => if dOk d && dOk (.list ds) then some (ds.any fun x => PyData.eqv x d) else none
  | .str y => match d with
    | .str x => match x.cps.toList with
      | [c] => some (decide (c ∈ y.cps.toList))
      | _ => none
    | _ => none
  | _ => none

def a2 : O2 → D → D → Option Cell
  | .add, .int i, .int j => some (.fz (.int (i + j)))
  | .add, .str x, .str y => if x.length + y.length ≤ sizeLine then some (.fz (.str (x ++ y))) else none
  | .add, .list xs, .list ys => if xs.length + ys.length ≤ sizeLine then some (.ow (xs ++ ys)) else none
  | .add, .tuple xs, .tuple ys => if xs.length + ys.length ≤ sizeLine then some (.fz (.tuple (xs ++ ys))) else none
  | .sub, .int i, .int j => some (.fz (.int (i - j)))
  | .mul, .int i, .int j => if mulOk i j then some (.fz (.int (i * j))) else none
  | .mul, .list xs, .int k => if -(2 ^ 63) ≤ k ∧ k < 2 ^ 63 ∧ xs.length * k.toNat ≤ sizeLine then some (.ow (List.replicate k.toNat xs).flatten) else none
  | .fdiv, .int i, .int j => if divOk j then some (.fz (.int (i / j))) else none
  | .mod, .int i, .int j => if 0 < j then some (.fz (.int (i % j))) else none
  | .pow, .int i, .int j => if powOk i j then some (.fz (.int (i ^ j.toNat))) else none
  | .lt, .int i, .int j => b2 (decide (i < j))
  | .le, .int i, .int j => b2 (decide (i ≤ j))
  | .gt, .int i, .int j => b2 (decide (j < i))
  | .ge, .int i, .int j => b2 (decide (j ≤ i))
  | .eq, d, e => (eqC d e).bind b2
  | .ne, d, e => (eqC d e).bind fun b => b2 (!b)
  | .mem, d, e => (memC d e).bind b2
  | .nmem, d, e => (memC d e).bind fun b => b2 (!b)
  | .ix, .list ds, .int i => (L2.atI ds i).map .fz
  | .ix, .tuple ds, .int i => (L2.atI ds i).map .fz
  | .ix, .str x, .int i => (L2.atI x.cps.toList i).map fun c => .fz (.str ⟨#[c]⟩)
  | .max, .int i, .int j => some (.fz (.int (if j > i then j else i)))
  | .min, .int i, .int j => some (.fz (.int (if j < i then j else i)))
  | _, _, _ => none

/-- x o= y, of numbers and texts -/
def aI : O2 → D → D → Option D
  | .add, .int i, .int j => some (.int (i + j))
  | .add, .str x, .str y => if x.length + y.length ≤ sizeLine then some (.str (x ++ y)) else none
  | .sub, .int i, .int j => some (.int (i - j))
  | _, _, _ => none

/-- xs[lo:hi] -/
def cut {α : Type} (xs : List α) (lo hi : Option Int) : List α := (xs.drop (HT.sIx xs.length 0 lo)).take (HT.sIx xs.length xs.length hi - HT.sIx xs.length 0 lo)
def a3 (d : D) (lo hi : Option Int) : Option Cell := match d with
  | .list ds => some (.ow (cut ds lo hi))
  | .tuple ds => some (.fz (.tuple (cut ds lo hi)))
  | .str x => some (.fz (.str ⟨(cut x.cps.toList lo hi).toArray⟩))
  | _ => none

def truth : D → Option Bool
  | .none => some false
  | .bool b => some b
  | .int i => some (i != 0)
  | .str x => some (x.length != 0)
  | .list ds => some (!ds.isEmpty)
  | .tuple ds => some (!ds.isEmpty)
  | .dict _ => none

/-! ### the slots -/
/-- slot i is read, and what it holds may now be found elsewhere too: it is fixed from here on -/
def rd (env : Env) (i : Nat) : Res Cell := match env[i]? with
  | some (some c) => .ok (.fz c.d) (env.set i (some (.fz c.d)))
  | _ => .bad
/-- slot i is looked at -/
def peek (env : Env) (i : Nat) : Res D := match env[i]? with
  | some (some (.fz d)) => .ok d env
  | some (some (.ow ds)) => .ok (.list ds) env
  | some (some c) => .ok c.d (env.set i (some (.fz c.d)))
  | _ => .bad
def Exs.len : Exs → Nat
  | .n => 0
  | .c _ es => es.len + 1

def bor (a : Ex) (r : Env → Res Cell) (env : Env) : Res D := match a with
  | .var i => peek env i
  | _ => (r env).bind fun c env => .ok c.d env
def asI (d : D) : Option Int := match d with
  | .int i => some i
  | _ => none
def opt (a : Ex) (r : Env → Res Cell) (env : Env) : Res (Option Int) := match a with
  | .absent => .ok none env
  | _ => (r env).bind fun c env => match c.d with
    | .int i => .ok (some i) env
    | _ => .bad

mutual
def asgT : Tg → Cell → Env → Option Env
  | .var i, c, env => if i < env.length then some (env.set i (some c)) else none
  | .tup ts, c, env => match c with
    | .fz (.tuple ds) => asgTs ts ds env
    | _ => none
def asgTs : Tgs → List D → Env → Option Env
  | .n, [], env => some env
  | .c t ts, d :: ds, env => (asgT t (.fz d) env).bind fun env => asgTs ts ds env
  | _, _, _ => none
end

def wipeE (env : Env) : List Nat → Env
  | [] => env
  | v :: vs => (wipeE env vs).set v none

/-- nothing may be raised here -/
def Res.nox {α : Type} (r : Res α) : Res α := match r with
  | .ok a env => .ok a env
  | _ => .bad
/-- a comprehension's turns -/
def lcT (own : List Nat) (tg : D → Env → Option Env) (tt : Env → Res Bool) (te : Env → Res Cell) : List D → List D → Env → Res (List D)
  | [], acc, env => .ok acc env
  | x :: xs, acc, env => match tg x env with
    | none => .bad
    | some env => (tt env).nox.bind fun b env =>
      if b then (te env).nox.bind fun c env => if acc.length < sizeLine then lcT own tg tt te xs (acc ++ [c.d]) (wipeE env own) else .bad
      else lcT own tg tt te xs acc (wipeE env own)

def small62 (i : Int) : Bool := decide (i.natAbs < 2 ^ 62)
def rngD (lo : Int) (n : Nat) : List D := (List.range n).map fun (i : Nat) => .int (lo + (i : Int))
def rngC (lo c : Int) (n : Nat) : List D := (List.range n).map fun (i : Nat) => .int (lo + (i : Int) * c)
def enumD : Nat → List D → List D
  | _, [] => []
  | n, d :: ds => .tuple [.int n, d] :: enumD (n + 1) ds
def zipD : List D → List D → List D
  | d :: ds, e :: es => .tuple [d, e] :: zipD ds es
  | _, _ => []
def seqD : D → Option (List D)
  | .list ds => some ds
  | .tuple ds => some ds
  | .str x => some (strDs x)
  | _ => none

structure RT where
  call : Nat → List D → FR
  consts : List (Str × D)

mutual
def evE (R : RT) : Ex → Env → Res Cell
  | .var i, env => rd env i
  | .lit d, env => .ok (.fz d) env
  | .glob k, env => match R.consts[k]? with
    | some p => .ok (.fz p.2) env
    | none => .bad
  | .op1 o a, env => (bor a (evE R a) env).bind fun x env => Res.of (a1 o x) env
  | .op2 o a b, env => (bor a (evE R a) env).bind fun x env => (bor b (evE R b) env).bind fun y env => Res.of (a2 o x y) env
  | .sl a lo hi, env => (bor a (evE R a) env).bind fun x env => (opt lo (evE R lo) env).bind fun l env => (opt hi (evE R hi) env).bind fun h env => Res.of (a3 x l h) env
  | .absent, _ => .bad
  | .tup es, env => if es.len ≤ 1000 then (evEs R es env).bind fun ds env => .ok (.fz (.tuple ds)) env else .bad
  | .lst es, env => if es.len ≤ 1000 then (evEs R es env).bind fun ds env => .ok (.ow ds) env else .bad
  | .call f es, env => (evEs R es env).bind fun ds env => match R.call f ds with
    | .ok c => .ok c env
    | .exc x => .exc x env
    | .bad => .bad
  | .ite c a b, env => (evT R c env).bind fun t env => if t then evE R a env else evE R b env
  | .andV a b, env => (evE R a env).bind fun x env => match x with
    | .fz (.bool true) => evE R b env
    | .fz (.bool false) => .ok (.fz (.bool false)) env
    | _ => .bad
  | .orV a b, env => (evE R a env).bind fun x env => match x with
    | .fz (.bool true) => .ok (.fz (.bool true)) env
    | .fz (.bool false) => evE R b env
    | _ => .bad
  | .notV a, env => (evE R a env).bind fun x env => match x with
    | .fz (.bool b) => .ok (.fz (.bool (!b))) env
    | _ => .bad
  | .revL a, env => (evE R a env).bind fun c env => match c.d with
    | .list ds => .ok (.ow ds.reverse) env
    | _ => .bad
  | .comp elt own t it c, env => (evI R it env).bind fun ds env => (lcT own (fun d env => asgT t (.fz d) env) (evT R c) (evE R elt) ds [] (wipeE env own)).nox.bind fun out env => .ok (.ow out) env
def evEs (R : RT) : Exs → Env → Res (List D)
  | .n, env => .ok [] env
  | .c e es, env => (evE R e env).bind fun c env => (evEs R es env).bind fun ds env => .ok (c.d :: ds) env
def evT (R : RT) : Te → Env → Res Bool
  | .val e, env => (bor e (evE R e) env).bind fun x env => Res.of (truth x) env
  | .and a b, env => (evT R a env).bind fun t env => if t then evT R b env else .ok false env
  | .or a b, env => (evT R a env).bind fun t env => if t then .ok true env else evT R b env
  | .not a, env => (evT R a env).bind fun t env => .ok (!t) env
  | .yes, env => .ok true env
def evI (R : RT) : It → Env → Res (List D)
  | .seq e, env => (evE R e env).bind fun c env => Res.of (seqD c.d) env
  | .rng1 a, env => (evE R a env).bind fun c env => match c.d with
    | .int j => if small62 j then .ok (rngD 0 j.toNat) env else .bad
    | _ => .bad
  | .rng2 a b, env => (evE R a env).bind fun c env => (evE R b env).bind fun c' env => match c.d, c'.d with
    | .int i, .int j => if small62 i && small62 j then .ok (rngD i (j - i).toNat) env else .bad
    | _, _ => .bad
  | .rng3 a b c, env => .bad
  | .enum e, env => (evE R e env).bind fun c env => match c.d with
    | .list ds => .ok (enumD 0 ds) env
    | _ => .bad
  | .zip a b, env => (evE R a env).bind fun c env => (evE R b env).bind fun c' env => match c.d, c'.d with
    | .list ds, .list es => .ok (zipD ds es) env
    | _, _ => .bad
  | .rev a, env => (evE R a env).bind fun c env => match c.d with
    | .list ds => .ok ds.reverse env
    | _ => .bad
end

/-! ### statements -/
/-- an expression's answer, then a statement's -/
def Res.out {α : Type} (r : Res α) (f : α → Env → Out) : Out := match r with
  | .ok a env => f a env
  | .exc x env => .exc x env
  | .bad => .bad
def Out.seq (o : Out) (f : Env → Out) : Out := match o with
  | .nx env => f env
  | o => o
def Out.of (o : Option Env) : Out := match o with
  | some env => .nx env
  | none => .bad

def fuelW : Nat := 1000000000
def whl (c : Env → Res Bool) (b : Env → Out) : Nat → Env → Out
  | 0, _ => .bad
  | n + 1, env => match c env with
    | .ok true env => (match b env with
      | .nx env => whl c b n env
      | .ct env => whl c b n env
      | .bk env => .nx env
      | o => o)
    | .ok false env => .nx env
    | .exc x env => .exc x env
    | .bad => .bad
def forL (t : Tg) (b : Env → Out) : List D → Env → Out
  | [], env => .nx env
  | x :: xs, env => match asgT t (.fz x) env with
    | none => .bad
    | some env => (match b env with
      | .nx env => forL t b xs env
      | .ct env => forL t b xs env
      | .bk env => .nx env
      | o => o)

def getO (env : Env) (i : Nat) : Option (List D) := match env[i]? with
  | some (some (.ow ds)) => some ds
  | _ => none
def getO2 (env : Env) (i : Nat) : Option (List (List D)) := match env[i]? with
  | some (some (.ow2 ds)) => some ds
  | _ => none

def hxs (x : Exc) : List Hx → Option (List D)
  | [] => some []
  | .lit d :: hs => (hxs x hs).map (d :: ·)
  | .fld j :: hs => match x.ds[j]? with
    | some d => (hxs x hs).map (d :: ·)
    | none => none
def unslot (env : Env) : Option Nat → Env
  | none => env
  | some i => env.set i none
def handle (x : Exc) (env : Env) : List Hd → Out
  | [] => .exc x env
  | .retTup ks s es :: hs => if ks.contains x.k then (match hxs x es with
      | some ds => .rt (.fz (.tuple ds))
      | none => .bad) else handle x env hs
  | .retLit ks s d :: hs => if ks.contains x.k then .rt (.fz d) else handle x env hs
  | _ :: hs => .bad

mutual
def exS (R : RT) : IS → Env → Out
  | .asg t e, env => (evE R e env).out fun c env => Out.of (asgT t c env)
  | .aug i o e, env => match env[i]? with
    | some (some (.fz x)) => (evE R e env).out fun c env => match aI o x c.d with
      | some d => .nx (env.set i (some (.fz d)))
      | none => .bad
    | _ => .bad
  | .app i e, env => match getO env i with
    | none => .bad
    | some _ => (evE R e env).out fun c env => match getO env i with
      | some ds => if ds.length < sizeLine then .nx (env.set i (some (.ow (ds ++ [c.d])))) else .bad
      | none => .bad
  | .app2 _ _ _, _ => .bad
  | .ext _ _, _ => .bad
  | .rem _ _, _ => .bad
  | .rvs _, _ => .bad
  | .popTo _ _, _ => .bad
  | .setI i j e, env => match getO env i with
    | none => .bad
    | some _ => (evE R e env).out fun c env => (bor j (evE R j) env).out fun y env => match getO env i, y with
      | some ds, .int k => (match L2.ixN ds.length k with
        | some m => .nx (env.set i (some (.ow (ds.set m c.d))))
        | none => .bad)
      | _, _ => .bad
  | .expr e, env => (evE R e env).out fun _ env => .nx env
  | .ite c a b, env => (evT R c env).out fun t env => if t then exSs R a env else exSs R b env
  | .whl c b, env => whl (evT R c) (exSs R b) fuelW env
  | .for_ t it b, env => (evI R it env).out fun ds env => forL t (exSs R b) ds env
  | .ret e, env => (evE R e env).out fun c _ => .rt c
  | .retV i, env => match env[i]? with
    | some (some c) => .rt c
    | _ => .bad
  | .retN, _ => .rt (.fz .none)
  | .brk, env => .bk env
  | .cont, env => .ct env
  | .pass, env => .nx env
  | .raise k es, env => (evEs R es env).out fun ds env => .exc ⟨k, ds⟩ env
  | .try_ b hs, env => match exSs R b env with
    | .exc x env => handle x env hs
    | o => o
def exSs (R : RT) : ISs → Env → Out
  | .n, env => .nx env
  | .c s ss, env => (exS R s env).seq (exSs R ss)
end

structure FD where
  name : Str
  ps : List Str
  N : List Str
  body : ISs

structure Cfg where
  consts : List (Str × D)
  funs : List FD

def fin : Out → FR
  | .nx _ => .ok (.fz .none)
  | .rt c => .ok c
  | .exc x _ => .exc x
  | _ => .bad
def runF (C : Cfg) : Nat → Nat → List D → FR
  | 0, _, _ => .bad
  | n + 1, f, ds => match C.funs[f]? with
    | some fd => if ds.length = fd.ps.length then fin (exSs ⟨runF C n, C.consts⟩ fd.body (ds.map (fun d => some (.fz d)) ++ List.replicate (fd.N.length - fd.ps.length) none)) else .bad
    | none => .bad
end PD

end

section
set_option Elab.async false
set_option linter.all false
set_option autoImplicit false
/-! Is a text of the small language the given Python text? Own work. -/
namespace PD
open PySem

def nameOk (x : Str) : Bool := !(x == ("__debug__" : Str)) && (!(x == ("__classdict__" : Str)) && !(x == ("__name__" : Str)))
def visB (sc : Scope) (N : List Str) (i : Nat) (x : Str) : Bool := decide (N[i]? = some x) && ((match sc.names.lookup x with
  | some .local => true
  | some .cell => true
  | some .free => true
  | _ => false) && nameOk x)
def locB (sc : Scope) (N : List Str) (i : Nat) (x : Str) : Bool := decide (N[i]? = some x) && ((match sc.names.lookup x with
  | some .local => true
  | some .cell => true
  | _ => false) && nameOk x)
def glB (sc : Scope) (x : Str) : Bool := decide (sc.names.lookup x = some .globalImplicit) && nameOk x
def plainE : Expr → Bool
  | .Starred _ _ => false
  | .Slice _ _ _ _ => false
  | _ => true
def notComp : Expr → Bool
  | .ListComp _ _ _ _ => false
  | .SetComp _ _ _ _ => false
  | .DictComp _ _ _ _ _ => false
  | _ => true
def plainT : Expr → Bool
  | .UnaryOp .Not _ _ => false
  | .BoolOp _ _ _ => false
  | .IfExp _ _ _ _ => false
  | .Compare _ _ _ _ => false
  | _ => true
def notSet : Expr → Bool
  | .Set _ _ _ => false
  | _ => true
def litB : D → Const → Bool
  | .none, .none => true
  | .bool a, .bool b => a == b
  | .int i, .int j => decide (i = j)
  | .str x, .str y => decide (x = y) && okD (.str x)
  | _, _ => false

/-- the built-in that a call names -/
def o1F : O1 → Option String
  | .len => some "len"
  | .list => some "list"
  | .tuple => some "tuple"
  | .int => some "int"
  | .sum => some "sum"
  | .minL => some "min"
  | .maxL => some "max"
  | .sorted => some "sorted"
  | .abs => some "abs"
  | _ => none
def o2F : O2 → Option String
  | .max => some "max"
  | .min => some "min"
  | _ => none
def binF : O2 → Option Operator
  | .add => some .Add
  | .sub => some .Sub
  | .mul => some .Mult
  | .fdiv => some .FloorDiv
  | .mod => some .Mod
  | .pow => some .Pow
  | _ => none
def cmpF : O2 → Option CmpOp
  | .lt => some .Lt
  | .le => some .LtE
  | .gt => some .Gt
  | .ge => some .GtE
  | .eq => some .Eq
  | .ne => some .NotEq
  | .mem => some .In
  | .nmem => some .NotIn
  | _ => none
def Ex.isAbs : Ex → Bool
  | .absent => true
  | _ => false
def Te.isYes : Te → Bool
  | .yes => true
  | _ => false
def Exs.isN : Exs → Bool
  | .n => true
  | _ => false
def ownL (N : List Str) (own : List Nat) : List (Str × Nat) := own.map fun i => (N.getD i (Str.ofString ""), i)

mutual
def chkTg (sc : Scope) (N : List Str) : Tg → Expr → Bool
  | .var i, e => (match e with
    | .Name x _ => locB sc N i x
    | _ => false)
  | .tup ts, e => (match e with
    | .Tuple l _ _ => chkTgs sc N ts l
    | _ => false)
def chkTgs (sc : Scope) (N : List Str) : Tgs → List Expr → Bool
  | .n, l => (match l with
    | [] => true
    | _ => false)
  | .c t ts, l => (match l with
    | e :: es => plainE e && (chkTg sc N t e && chkTgs sc N ts es)
    | [] => false)
end
def isTupE : Expr → Bool
  | .Tuple _ _ _ => true
  | _ => false

mutual
def chkE (C : Cfg) (N : List Str) : Ex → Scope → Expr → Bool
  | .var i, sc, e => (match e with
    | .Name x _ => visB sc N i x
    | _ => false)
  | .lit d, _, e => (match e with
    | .Constant c _ _ => litB d c
    | _ => false)
  | .glob k, sc, e => (match e with
    | .Name x _ => (match C.consts[k]? with
      | some p => decide (p.1 = x)
      | none => false) && glB sc x
    | _ => false)
  | .op1 o a, sc, e => (match e with
    | .UnaryOp op x _ => decide (o = .neg) && (decide (op = .USub) && chkE C N a sc x)
    | .Call (.Name f _) [x] [] _ => (match o1F o with
      | some n => decide (f = Str.ofString n)
      | none => false) && (glB sc f && (plainE x && chkE C N a sc x))
    | .Call (.Name f _) [x, .Name t _] [] _ => (match o with
      | .isi ty => decide (f = Str.ofString "isinstance") && decide (t = Str.ofString (tyN ty))
      | _ => false) && (glB sc f && (glB sc t && (plainE x && chkE C N a sc x)))
    | .Compare x [op] [.Constant .none _ _] _ => (decide (o = .isN) && decide (op = .Is) || decide (o = .notN) && decide (op = .IsNot)) && chkE C N a sc x
    | _ => false)
  | .op2 o a b, sc, e => (match e with
    | .BinOp x op y _ => decide (binF o = some op) && (chkE C N a sc x && chkE C N b sc y)
    | .Compare x [op] [y] _ => decide (cmpF o = some op) && (!behindInMarks op y && (chkE C N a sc x && chkE C N b sc y))
    | .Subscript x y _ => decide (o = .ix) && (plainE y && (chkE C N a sc x && chkE C N b sc y))
    | .Call (.Name f _) [x, y] [] _ => (match o2F o with
      | some n => decide (f = Str.ofString n)
      | none => false) && (glB sc f && (plainE x && (plainE y && (chkE C N a sc x && chkE C N b sc y))))
    | _ => false)
  | .sl a lo hi, sc, e => (match e with
    | .Subscript x (.Slice l h none _) _ => chkE C N a sc x && ((match l with
      | none => lo.isAbs
      | some l => !lo.isAbs && chkE C N lo sc l) && (match h with
      | none => hi.isAbs
      | some h => !hi.isAbs && chkE C N hi sc h))
    | _ => false)
  | .absent, _, _ => false
  | .tup es, sc, e => (match e with
    | .Tuple l _ _ => chkEs C N es sc l
    | _ => false)
  | .lst es, sc, e => (match e with
    | .List l _ => chkEs C N es sc l
    | _ => false)
  | .call f es, sc, e => (match e with
    | .Call (.Name x _) l [] _ => (match C.funs[f]? with
      | some fd => decide (fd.name = x) && decide (es.len = fd.ps.length)
      | none => false) && (glB sc x && chkEs C N es sc l)
    | _ => false)
  | .ite c a b, sc, e => (match e with
    | .IfExp t x y _ => chkT C N c sc t && (chkE C N a sc x && chkE C N b sc y)
    | _ => false)
  | .andV a b, sc, e => (match e with
    | .BoolOp .And (x :: y :: r) pos => chkE C N a sc x && (match r with
      | [] => chkE C N b sc y
      | _ :: _ => chkE C N b sc (.BoolOp .And (y :: r) pos))
    | _ => false)
  | .orV a b, sc, e => (match e with
    | .BoolOp .Or (x :: y :: r) pos => chkE C N a sc x && (match r with
      | [] => chkE C N b sc y
      | _ :: _ => chkE C N b sc (.BoolOp .Or (y :: r) pos))
    | _ => false)
  | .notV a, sc, e => (match e with
    | .UnaryOp .Not x _ => chkE C N a sc x
    | _ => false)
  | .revL a, sc, e => (match e with
    | .Call (.Name f _) [.Call (.Name r _) [x] [] _] [] _ => decide (f = Str.ofString "list") && (decide (r = Str.ofString "reversed") && (glB sc f && (glB sc r && (plainE x && chkE C N a sc x))))
    | _ => false)
  | .comp elt own t it c, sc, e => (match e with
    | .ListComp x [⟨tg, iter, ifs, z⟩] scope _ => decide (z = 0) && (t.slots.all (own.contains ·) && L2.blkC N sc scope (ownL N own) && (chkI C N it sc iter tg && (chkTg scope N t tg && ((match ifs with
      | [] => c.isYes
      | [i] => !c.isYes && chkT C N c (L2.relS scope sc) i
      | _ => false) && (chkE C N elt (L2.relS scope sc) x && notSet iter)))))
    | _ => false)
def chkEs (C : Cfg) (N : List Str) : Exs → Scope → List Expr → Bool
  | .n, _, l => (match l with
    | [] => true
    | _ => false)
  | .c e es, sc, l => (match l with
    | x :: xs => plainE x && (chkE C N e sc x && chkEs C N es sc xs)
    | [] => false)
def chkT (C : Cfg) (N : List Str) : Te → Scope → Expr → Bool
  | .val a, sc, e => (match e with
    | .Compare _ _ _ _ => chkE C N a sc e
    | _ => plainT e && chkE C N a sc e)
  | .and a b, sc, e => (match e with
    | .BoolOp .And (x :: y :: r) pos => chkT C N a sc x && (match r with
      | [] => chkT C N b sc y
      | _ :: _ => chkT C N b sc (.BoolOp .And (y :: r) pos))
    | _ => false)
  | .or a b, sc, e => (match e with
    | .BoolOp .Or (x :: y :: r) pos => chkT C N a sc x && (match r with
      | [] => chkT C N b sc y
      | _ :: _ => chkT C N b sc (.BoolOp .Or (y :: r) pos))
    | _ => false)
  | .not a, sc, e => (match e with
    | .UnaryOp .Not x _ => chkT C N a sc x
    | _ => false)
  | .yes, _, _ => false
def chkI (C : Cfg) (N : List Str) : It → Scope → Expr → Expr → Bool
  | .seq a, sc, e, _ => chkE C N a sc e
  | .rng1 a, sc, e, _ => (match e with
    | .Call (.Name f _) [x] [] _ => decide (f = Str.ofString "range") && (glB sc f && (plainE x && chkE C N a sc x))
    | _ => false)
  | .rng2 a b, sc, e, _ => (match e with
    | .Call (.Name f _) [x, y] [] _ => decide (f = Str.ofString "range") && (glB sc f && (plainE x && (plainE y && (chkE C N a sc x && chkE C N b sc y))))
    | _ => false)
  | .rng3 _ _ _, _, _, _ => false
  | .enum a, sc, e, tg => (match e with
    | .Call (.Name f _) [x] [] _ => decide (f = Str.ofString "enumerate") && (isTupE tg && (glB sc f && (plainE x && chkE C N a sc x)))
    | _ => false)
  | .zip a b, sc, e, tg => (match e with
    | .Call (.Name f _) [x, y] [] _ => decide (f = Str.ofString "zip") && (isTupE tg && (glB sc f && (plainE x && (plainE y && (chkE C N a sc x && chkE C N b sc y)))))
    | _ => false)
  | .rev a, sc, e, _ => (match e with
    | .Call (.Name f _) [x] [] _ => decide (f = Str.ofString "reversed") && (glB sc f && (plainE x && chkE C N a sc x))
    | _ => false)
end

structure XD where
  name : Str
  fields : List Str
  /-- which of the classes it catches -/
  sub : List Nat
  /-- is it named in an except clause? -/
  hd : Bool

def swB (sc : Scope) (y : Str) (pl : Nat) : Expr → Bool
  | .ListComp e g scope pos => decide (sc.names.lookup y = some .local) && (pl == pos.line && !(scope.names.any fun (n, k) => n == y && (k == .local || k == .cell)))
  | _ => false

def fldB (XS : List XD) (ks : List Nat) (j : Nat) (f : Str) : Bool := match ks with
  | [k] => (match XS[k]? with
    | some xd => decide (xd.fields[j]? = some f)
    | none => false)
  | _ => false
/-- the parts of a tuple in an except suite -/
def chkHx (XS : List XD) (nm : Option Str) (ks : List Nat) : List Hx → List Expr → Bool
  | [], l => (match l with
    | [] => true
    | _ => false)
  | .lit d :: hs, l => (match l with
    | .Constant c _ _ :: es => litB d c && chkHx XS nm ks hs es
    | _ => false)
  | .fld j :: hs, l => (match l with
    | .Attribute (.Name n _) f _ :: es => decide (nm = some n) && (nameOk n && (fldB XS ks j f && chkHx XS nm ks hs es))
    | _ => false)
def slotB (N : List Str) (sc : Scope) : Option Nat → Option Str → Bool
  | none, n => (match n with
    | none => true
    | _ => false)
  | some i, n => (match n with
    | some n => decide (N[i]? = some n) && decide (sc.names.lookup n = some .local)
    | none => false)
def clsB (XS : List XD) (sc : Scope) (ks : List Nat) (x : Str) : Bool := glB sc x && XS.any fun xd => decide (xd.name = x) && (decide (xd.sub = ks) && xd.hd)
def chkHd (XS : List XD) (N : List Str) (sc : Scope) : Hd → ExceptHandler → Bool
  | .retTup ks sl es, h => (match h with
    | .ExceptHandler (some (.Name x _)) n [.Return (some (.Tuple l _ _)) _] _ => clsB XS sc ks x && (slotB N sc sl n && (chkHx XS n ks es l && decide (es.length ≤ 1000)))
    | _ => false)
  | .retLit ks sl d, h => (match h with
    | .ExceptHandler (some (.Name x _)) n [.Return (some (.Constant c _ _)) _] _ => clsB XS sc ks x && (slotB N sc sl n && litB d c)
    | _ => false)
  | _, _ => false
def chkHds (XS : List XD) (N : List Str) (sc : Scope) : List Hd → List ExceptHandler → Bool
  | [], l => (match l with
    | [] => true
    | _ => false)
  | h :: hs, l => (match l with
    | e :: es => chkHd XS N sc h e && chkHds XS N sc hs es
    | [] => false)
def noHd : List Hd → Bool
  | [] => true
  | _ => false
mutual
def chkS (C : Cfg) (XS : List XD) (N : List Str) : IS → Scope → Stmt → Bool
  | .asg t e, sc, st => (match st with
    | .Assign [tg] v _ => (match tg with
      | .Name y p => chkTg sc N t (.Name y p) && (chkE C N e sc v && (notComp v || swB sc y p.line v))
      | .Tuple l _ _ => chkTg sc N t tg && (chkE C N e sc v && (notComp v && !isTupE v))
      | _ => false)
    | _ => false)
  | .aug i o e, sc, st => (match st with
    | .AugAssign (.Name x _) op v _ => locB sc N i x && ((decide (o = .add) && decide (op = .Add) || decide (o = .sub) && decide (op = .Sub)) && chkE C N e sc v)
    | _ => false)
  | .app i e, sc, st => (match st with
    | .Expr (.Call (.Attribute (.Name x _) m ap) [v] [] cp) _ => visB sc N i x && (decide (m = Str.ofString "append") && (ap.endLine == cp.line && (plainE v && chkE C N e sc v)))
    | _ => false)
  | .setI i j e, sc, st => (match st with
    | .Assign [.Subscript (.Name x _) y _] v _ => visB sc N i x && (plainE y && (chkE C N j sc y && (chkE C N e sc v && notComp v)))
    | _ => false)
  | .expr e, sc, st => (match st with
    | .Expr v _ => chkE C N e sc v && notComp v
    | _ => false)
  | .ite c a b, sc, st => (match st with
    | .If t x y _ => chkT C N c sc t && (chkSs C XS N a sc x && chkSs C XS N b sc y)
    | _ => false)
  | .whl c b, sc, st => (match st with
    | .While t x [] _ => chkT C N c sc t && chkSs C XS N b sc x
    | _ => false)
  | .for_ t it b, sc, st => (match st with
    | .For tg iter x [] _ => chkI C N it sc iter tg && (chkTg sc N t tg && (chkSs C XS N b sc x && notSet iter))
    | _ => false)
  | .ret e, sc, st => (match st with
    | .Return (some v) _ => chkE C N e sc v
    | _ => false)
  | .retV i, sc, st => (match st with
    | .Return (some (.Name x _)) _ => visB sc N i x
    | _ => false)
  | .retN, _, st => (match st with
    | .Return none _ => true
    | _ => false)
  | .brk, _, st => (match st with
    | .Break _ => true
    | _ => false)
  | .cont, _, st => (match st with
    | .Continue _ => true
    | _ => false)
  | .pass, _, st => (match st with
    | .Pass _ => true
    | _ => false)
  | .raise k es, sc, st => (match st with
    | .Raise (some (.Call (.Name x _) l [] _)) none _ => (match XS[k]? with
      | some xd => decide (xd.name = x) && decide (es.len = xd.fields.length)
      | none => false) && (glB sc x && (chkEs C N es sc l && !es.isN))
    | _ => false)
  | .try_ b hs, sc, st => (match st with
    | .Try x es [] [] _ => chkSs C XS N b sc x && (chkHds XS N sc hs es && !noHd hs)
    | _ => false)
  | _, _, _ => false
def chkSs (C : Cfg) (XS : List XD) (N : List Str) : ISs → Scope → List Stmt → Bool
  | .n, _, l => (match l with
    | [] => true
    | _ => false)
  | .c s ss, sc, l => (match l with
    | x :: xs => chkS C XS N s sc x && chkSs C XS N ss sc xs
    | [] => false)
end
end PD

end

section
set_option Elab.async false
set_option linter.all false
set_option autoImplicit false
set_option maxRecDepth 100000
/-! Data and the abstract heap. Own work. -/
namespace PD
open PySem PySem.Spec L2

/-! ### what is fixed -/
theorem Same.rd {F H : Hp} (h : Same F H) {a : Addr} {u : HO} (r : Rd F a u) : Rd H a u := by
  rcases r with r | ⟨o, r⟩
  · exact .inl (h _ _ r)
  · exact .inr ⟨o, h _ _ r⟩
theorem sqL_mono {K : PySem.W.Frag} {F H : Hp} (h : Same F H) {a : Addr} {xs : List V} (r : SqL K F a xs) : SqL K H a xs := Same.seq h r
theorem sqT_mono {K : PySem.W.Frag} {F H : Hp} (h : Same F H) {a : Addr} {xs : List V} (r : SqT K F a xs) : SqT K H a xs := by
  rcases r with r | r
  · exact .inl (Same.rd h r)
  · exact .inr r
mutual
inductive Dq (K : PySem.W.Frag) (H : Hp) : V → D → Prop
  | non : Dq K H .non .none
  | bl (b : Bool) : Dq K H (.bl b) (.bool b)
  | int (i : Int) : Dq K H (.int i) (.int i)
  | str (x : Str) : Dq K H (.str x) (.str x)
  | lst {a : Addr} {xs : List V} {ds : List D} : SqL K H a xs → DqAll K H xs ds → Dq K H (.ref a) (.list ds)
  | tup {a : Addr} {xs : List V} {ds : List D} : SqT K H a xs → DqAll K H xs ds → Dq K H (.ref a) (.tuple ds)
inductive DqAll (K : PySem.W.Frag) (H : Hp) : List V → List D → Prop
  | nil : DqAll K H [] []
  | cons {v : V} {vs : List V} {d : D} {ds : List D} : Dq K H v d → DqAll K H vs ds → DqAll K H (v :: vs) (d :: ds)
end
mutual
theorem dq_mono {K : PySem.W.Frag} {F H : Hp} (h : Same F H) : ∀ {d : D} {v : V}, Dq K F v d → Dq K H v d
  | .none, _, x => by cases x; exact .non
  | .bool b, _, x => by cases x; exact .bl b
  | .int i, _, x => by cases x; exact .int i
  | .str z, _, x => by cases x; exact .str z
  | .list ds, _, x => by
    cases x with
    | lst hs ha => exact .lst (sqL_mono h hs) (dqs_mono h ha)
  | .tuple ds, _, x => by
    cases x with
    | tup hs ha => exact .tup (sqT_mono h hs) (dqs_mono h ha)
  | .dict _, _, x => by cases x
theorem dqs_mono {K : PySem.W.Frag} {F H : Hp} (h : Same F H) : ∀ {ds : List D} {vs : List V}, DqAll K F vs ds → DqAll K H vs ds
  | [], _, x => by cases x; exact .nil
  | d :: ds, _, x => by
    cases x with
    | cons h1 h2 => exact .cons (dq_mono h h1) (dqs_mono h h2)
end
mutual
theorem Dq.dp {K : PySem.W.Frag} {F : Hp} : ∀ {d : D} {v : V}, Dq K F v d → Dp K F v d
  | .none, _, x => by cases x; exact .non
  | .bool b, _, x => by cases x; exact .bl b
  | .int i, _, x => by cases x; exact .int i
  | .str z, _, x => by cases x; exact .str z
  | .list ds, _, x => by
    cases x with
    | lst hs ha => exact .lst hs (DqAll.dp ha)
  | .tuple ds, _, x => by
    cases x with
    | tup hs ha => exact .tup hs (DqAll.dp ha)
  | .dict _, _, x => by cases x
theorem DqAll.dp {K : PySem.W.Frag} {F : Hp} : ∀ {ds : List D} {vs : List V}, DqAll K F vs ds → DpAll K F vs ds
  | [], _, x => by cases x; exact .nil
  | d :: ds, _, x => by
    cases x with
    | cons h1 h2 => exact .cons (Dq.dp h1) (DqAll.dp h2)
end

/-- the value v is the data d, fixed -/
structure DR (K : PySem.W.Frag) (F : Hp) (v : V) (d : D) : Prop where
  dp : Dq K F v d
  ok : okD d = true
structure DRs (K : PySem.W.Frag) (F : Hp) (vs : List V) (ds : List D) : Prop where
  dp : DqAll K F vs ds
  ok : okDs ds = true
theorem DR.mono {K : PySem.W.Frag} {F H : Hp} (h : Same F H) {v : V} {d : D} (r : DR K F v d) : DR K H v d := ⟨dq_mono h r.dp, r.ok⟩
theorem DRs.mono {K : PySem.W.Frag} {F H : Hp} (h : Same F H) {v : List V} {d : List D} (r : DRs K F v d) : DRs K H v d := ⟨dqs_mono h r.dp, r.ok⟩
theorem DRs.nil {K : PySem.W.Frag} {F : Hp} : DRs K F [] [] := ⟨.nil, by simp [okDs]⟩
theorem DRs.cons {K : PySem.W.Frag} {F : Hp} {v : V} {d : D} {vs : List V} {ds : List D} (h : DR K F v d) (t : DRs K F vs ds) : DRs K F (v :: vs) (d :: ds) :=
  ⟨.cons h.dp t.dp, by simp [okDs, h.ok, t.ok]⟩
theorem DRs.hd {K : PySem.W.Frag} {F : Hp} {vs : List V} {d : D} {ds : List D} (h : DRs K F vs (d :: ds)) : ∃ v vs', vs = v :: vs' ∧ DR K F v d ∧ DRs K F vs' ds := by
  obtain ⟨dp, ok⟩ := h
  simp only [okDs, Bool.and_eq_true] at ok
  cases dp with
  | cons h1 h2 => exact ⟨_, _, rfl, ⟨h1, ok.1⟩, ⟨h2, ok.2⟩⟩
theorem DRs.nl {K : PySem.W.Frag} {F : Hp} {vs : List V} (h : DRs K F vs []) : vs = [] := by
  obtain ⟨dp, ok⟩ := h
  cases dp
  rfl
theorem DRs.length {K : PySem.W.Frag} {F : Hp} : ∀ {ds : List D} {vs : List V}, DRs K F vs ds → vs.length = ds.length
  | [], vs, h => by rw [h.nl]; rfl
  | d :: ds, vs, h => by
    obtain ⟨v, vs', rfl, _, t⟩ := h.hd
    simp [t.length]
theorem DRs.append {K : PySem.W.Frag} {F : Hp} : ∀ {ds es : List D} {vs ws : List V}, DRs K F vs ds → DRs K F ws es → DRs K F (vs ++ ws) (ds ++ es)
  | [], es, vs, ws, h, t => by rw [h.nl]; exact t
  | d :: ds, es, vs, ws, h, t => by
    obtain ⟨v, vs', rfl, h1, h2⟩ := h.hd
    exact .cons h1 (h2.append t)
theorem DRs.get {K : PySem.W.Frag} {F : Hp} : ∀ {ds : List D} {vs : List V} {i : Nat} {d : D}, DRs K F vs ds → ds[i]? = some d → ∃ v, vs[i]? = some v ∧ DR K F v d
  | [], _, _, _, _, e => by simp at e
  | d :: ds, vs, 0, d', h, e => by
    obtain ⟨v, vs', rfl, h1, h2⟩ := h.hd
    simp at e
    subst e
    exact ⟨v, rfl, h1⟩
  | d :: ds, vs, i + 1, d', h, e => by
    obtain ⟨v, vs', rfl, h1, h2⟩ := h.hd
    obtain ⟨w, e1, e2⟩ := DRs.get (i := i) h2 (by simpa using e)
    exact ⟨w, by simpa using e1, e2⟩
theorem DRs.getV {K : PySem.W.Frag} {F : Hp} {ds : List D} {vs : List V} {i : Nat} {v : V} (h : DRs K F vs ds) (e : vs[i]? = some v) : ∃ d, ds[i]? = some d ∧ DR K F v d := by
  obtain ⟨hi, he⟩ := List.getElem?_eq_some_iff.mp e
  have hl := h.length
  have hi' : i < ds.length := by omega
  obtain ⟨w, e1, r⟩ := h.get (List.getElem?_eq_getElem hi')
  rw [e] at e1
  cases e1
  exact ⟨_, List.getElem?_eq_getElem hi', r⟩
theorem DRs.take {K : PySem.W.Frag} {F : Hp} : ∀ {ds : List D} {vs : List V} (n : Nat), DRs K F vs ds → DRs K F (vs.take n) (ds.take n)
  | _, _, 0, h => by simpa using DRs.nil
  | [], vs, n + 1, h => by rw [h.nl]; simpa using DRs.nil
  | d :: ds, vs, n + 1, h => by
    obtain ⟨v, vs', rfl, h1, h2⟩ := h.hd
    exact .cons h1 (h2.take n)
theorem DRs.drop {K : PySem.W.Frag} {F : Hp} : ∀ {ds : List D} {vs : List V} (n : Nat), DRs K F vs ds → DRs K F (vs.drop n) (ds.drop n)
  | _, _, 0, h => by simpa using h
  | [], vs, n + 1, h => by rw [h.nl]; simpa using DRs.nil
  | d :: ds, vs, n + 1, h => by
    obtain ⟨v, vs', rfl, h1, h2⟩ := h.hd
    exact h2.drop n
theorem DRs.set {K : PySem.W.Frag} {F : Hp} {v : V} {d : D} (r : DR K F v d) : ∀ {ds : List D} {vs : List V} (n : Nat), DRs K F vs ds → DRs K F (vs.set n v) (ds.set n d)
  | [], vs, n, h => by rw [h.nl]; simpa using DRs.nil
  | e :: ds, vs, 0, h => by
    obtain ⟨w, vs', rfl, h1, h2⟩ := h.hd
    exact .cons r h2
  | e :: ds, vs, n + 1, h => by
    obtain ⟨w, vs', rfl, h1, h2⟩ := h.hd
    exact .cons h1 (h2.set r n)
theorem DRs.rev {K : PySem.W.Frag} {F : Hp} : ∀ {ds : List D} {vs : List V}, DRs K F vs ds → DRs K F vs.reverse ds.reverse
  | [], vs, h => by rw [h.nl]; simpa using DRs.nil
  | e :: ds, vs, h => by
    obtain ⟨w, vs', rfl, h1, h2⟩ := h.hd
    rw [List.reverse_cons, List.reverse_cons]
    exact h2.rev.append (.cons h1 .nil)
theorem DRs.rep {K : PySem.W.Frag} {F : Hp} {ds : List D} {vs : List V} (h : DRs K F vs ds) : ∀ k : Nat, DRs K F (List.replicate k vs).flatten (List.replicate k ds).flatten
  | 0 => by simpa using DRs.nil
  | k + 1 => by
    rw [List.replicate_succ, List.replicate_succ, List.flatten_cons, List.flatten_cons]
    exact h.append (h.rep k)
theorem DRs.map {α : Type} {K : PySem.W.Frag} {F : Hp} {f : α → V} {g : α → D} : ∀ {l : List α}, (∀ x ∈ l, DR K F (f x) (g x)) → DRs K F (l.map f) (l.map g)
  | [], _ => DRs.nil
  | x :: l, h => .cons (h x (List.mem_cons_self ..)) (DRs.map fun y hy => h y (List.mem_cons_of_mem _ hy))
theorem DR.int {K : PySem.W.Frag} {F : Hp} (i : Int) : DR K F (.int i) (.int i) := ⟨.int i, by simp [okD]⟩
theorem DR.bl {K : PySem.W.Frag} {F : Hp} (b : Bool) : DR K F (.bl b) (.bool b) := ⟨.bl b, by simp [okD]⟩
theorem DR.non {K : PySem.W.Frag} {F : Hp} : DR K F .non .none := ⟨.non, by simp [okD]⟩
theorem DR.str {K : PySem.W.Frag} {F : Hp} {x : Str} (h : okD (.str x) = true) : DR K F (.str x) (.str x) := ⟨.str x, h⟩
theorem DR.tup {K : PySem.W.Frag} {F : Hp} {a : Addr} {vs : List V} {ds : List D} (h : SqT K F a vs) (r : DRs K F vs ds) : DR K F (.ref a) (.tuple ds) := ⟨.tup h r.dp, by simp only [okD]; exact r.ok⟩
theorem DR.lst {K : PySem.W.Frag} {F : Hp} {a : Addr} {vs : List V} {ds : List D} (h : SqL K F a vs) (r : DRs K F vs ds) : DR K F (.ref a) (.list ds) := ⟨.lst h r.dp, by simp only [okD]; exact r.ok⟩
theorem DR.unL {K : PySem.W.Frag} {F : Hp} {v : V} {ds : List D} (h : DR K F v (.list ds)) : ∃ a vs, v = .ref a ∧ SqL K F a vs ∧ DRs K F vs ds := by
  obtain ⟨dp, ok⟩ := h
  simp only [okD] at ok
  cases dp with
  | lst hs ha => exact ⟨_, _, rfl, hs, ⟨ha, ok⟩⟩
theorem DR.unT {K : PySem.W.Frag} {F : Hp} {v : V} {ds : List D} (h : DR K F v (.tuple ds)) : ∃ a vs, v = .ref a ∧ SqT K F a vs ∧ DRs K F vs ds := by
  obtain ⟨dp, ok⟩ := h
  simp only [okD] at ok
  cases dp with
  | tup hs ha => exact ⟨_, _, rfl, hs, ⟨ha, ok⟩⟩
theorem DR.unI {K : PySem.W.Frag} {F : Hp} {v : V} {i : Int} (h : DR K F v (.int i)) : v = .int i := by cases h.dp; rfl
theorem DR.unB {K : PySem.W.Frag} {F : Hp} {v : V} {i : Bool} (h : DR K F v (.bool i)) : v = .bl i := by cases h.dp; rfl
theorem DR.unS {K : PySem.W.Frag} {F : Hp} {v : V} {i : Str} (h : DR K F v (.str i)) : v = .str i := by cases h.dp; rfl
theorem DR.unN {K : PySem.W.Frag} {F : Hp} {v : V} (h : DR K F v .none) : v = .non := by cases h.dp; rfl

/-! ### what a cell is -/
def Rows (K : PySem.W.Frag) (F H : Hp) : List Addr → List (List D) → Prop := Paired fun b ds => F b = none ∧ ∃ vs, H b = some (.lst vs) ∧ DRs K F vs ds
inductive CR (K : PySem.W.Frag) (F H : Hp) : V → Cell → List Addr → Prop
  | fz {v : V} {d : D} : DR K F v d → CR K F H v (.fz d) []
  | ow {a : Addr} {vs : List V} {ds : List D} : F a = none → H a = some (.lst vs) → DRs K F vs ds → CR K F H (.ref a) (.ow ds) [a]
  | ow2 {a : Addr} {bs : List Addr} {dss : List (List D)} : F a = none → H a = some (.lst (bs.map .ref)) → Rows K F H bs dss → (a :: bs).Nodup → CR K F H (.ref a) (.ow2 dss) (a :: bs)

/-- F grows without what is in as -/
def Off (F : Hp) (as : List Addr) : Prop := ∀ a ∈ as, F a = none
theorem paired_imp {α β : Type} {P Q : α → β → Prop} : ∀ {xs : List α} {ys : List β}, Paired P xs ys → (∀ x y, x ∈ xs → P x y → Q x y) → Paired Q xs ys
  | _, _, .nil, _ => .nil
  | _, _, .cons r t, h => .cons (h _ _ (List.mem_cons_self ..) r) (paired_imp t fun x y hx => h x y (List.mem_cons_of_mem _ hx))
theorem CR.mono {K : PySem.W.Frag} {F H F' H' : Hp} {v : V} {c : Cell} {as : List Addr} (r : CR K F H v c as) (sF : Same F F') (off : Off F' as) (sH : ∀ a ∈ as, H' a = H a) : CR K F' H' v c as := by
  cases r with
  | fz h => exact .fz (h.mono sF)
  | ow h1 h2 h3 => exact .ow (off _ (List.mem_cons_self ..)) (by rw [sH _ (List.mem_cons_self ..)]; exact h2) (h3.mono sF)
  | ow2 h1 h2 h3 nd =>
    refine .ow2 (off _ (List.mem_cons_self ..)) (by rw [sH _ (List.mem_cons_self ..)]; exact h2) (paired_imp h3 fun b ds hb q => ?_) nd
    obtain ⟨_, vs, q1, q2⟩ := q
    exact ⟨off _ (List.mem_cons_of_mem _ hb), vs, by rw [sH _ (List.mem_cons_of_mem _ hb)]; exact q1, q2.mono sF⟩
theorem CR.there {K : PySem.W.Frag} {F H : Hp} {v : V} {c : Cell} {as : List Addr} (r : CR K F H v c as) : ∀ a ∈ as, F a = none ∧ H a ≠ none := by
  cases r with
  | fz h => intro a ha; cases ha
  | ow h1 h2 h3 =>
    intro a ha
    have e := List.mem_singleton.mp ha
    rw [e]
    exact ⟨h1, by rw [h2]; simp⟩
  | ow2 h1 h2 h3 nd =>
    intro a ha
    rcases List.mem_cons.mp ha with e | ha
    · rw [e]
      exact ⟨h1, by rw [h2]; simp⟩
    · have key : ∀ {bs : List Addr} {dss : List (List D)}, Rows K F H bs dss → a ∈ bs → F a = none ∧ H a ≠ none := by
        intro bs dss p
        induction p with
        | nil => intro z; cases z
        | cons q t ih =>
          intro z
          rcases List.mem_cons.mp z with e | z
          · subst e
            obtain ⟨q1, vs, q2, _⟩ := q
            exact ⟨q1, by rw [q2]; simp⟩
          · exact ih z
      exact key h3 ha

/-- the fixed part takes in what stands at as -/
def addF (F H : Hp) (as : List Addr) : Hp := fun a => if a ∈ as then H a else F a
theorem addF_in {F H : Hp} {as : List Addr} {a : Addr} (h : a ∈ as) : addF F H as a = H a := if_pos h
theorem addF_out {F H : Hp} {as : List Addr} {a : Addr} (h : a ∉ as) : addF F H as a = F a := if_neg h
theorem addF_nil {F H : Hp} : addF F H [] = F := by funext a; exact if_neg (by simp)
theorem same_addF {F H : Hp} {as : List Addr} (off : Off F as) : Same F (addF F H as) := fun b o e => by
  rw [addF_out (fun h => by rw [off b h] at e; cases e)]
  exact e
theorem addF_same {F H : Hp} {as : List Addr} (h : Same F H) : Same (addF F H as) H := fun b o e => by
  by_cases hb : b ∈ as
  · rw [addF_in hb] at e; exact e
  · rw [addF_out hb] at e; exact h _ _ e
/-- a cell of our own is fixed -/
theorem CR.fix {K : PySem.W.Frag} {F H : Hp} {v : V} {c : Cell} {as : List Addr} (r : CR K F H v c as) : DR K (addF F H as) v c.d := by
  have off : Off F as := fun a ha => (r.there a ha).1
  cases r with
  | fz h => exact h.mono (same_addF off)
  | ow h1 h2 h3 =>
    exact .lst (.of (by rw [addF_in (List.mem_cons_self ..)]; exact h2)) (h3.mono (same_addF off))
  | @ow2 a bs dss h1 h2 h3 nd =>
    have key : ∀ {bs' : List Addr} {dss' : List (List D)}, Rows K F H bs' dss' → (∀ b ∈ bs', b ∈ a :: bs) → DRs K (addF F H (a :: bs)) (bs'.map .ref) (dss'.map .list) := by
      intro bs' dss' p
      induction p with
      | nil => intro _; exact DRs.nil
      | @cons b ds bs' dss' q t ih =>
        intro hs
        obtain ⟨_, vs, q2, q3⟩ := q
        exact .cons (.lst (.of (by rw [addF_in (hs _ (List.mem_cons_self ..))]; exact q2)) (q3.mono (same_addF off))) (ih fun b hb => hs b (List.mem_cons_of_mem _ hb))
    exact .lst (.of (by rw [addF_in (List.mem_cons_self ..)]; exact h2)) (key h3 fun b hb => List.mem_cons_of_mem _ hb)

/-! ### the slots -/
/-- the heap's side of a body: F0, H0 at its entry -/
structure HR (F0 H0 F H : Hp) : Prop where
  f0 : Same F0 F
  fh : Same F H
  h0 : Same H0 H
  nw : ∀ a, F a ≠ none → F0 a ≠ none ∨ H0 a = none
structure ER (K : PySem.W.Frag) (F0 H0 F H : Hp) (σ : L2.St) (env : Env) (own : Nat → List Addr) : Prop extends HR F0 H0 F H where
  len : env.length = σ.length
  sl : ∀ i c, env[i]? = some (some c) → ∃ v, σ[i]? = some (some v) ∧ CR K F H v c (own i)
  ap : ∀ i j a, a ∈ own i → a ∈ own j → i = j
  fr : ∀ i a, a ∈ own i → H0 a = none ∧ F a = none ∧ H a ≠ none
section
variable {K : PySem.W.Frag} {F0 H0 F H F' H' : Hp} {σ : L2.St} {env : Env} {own : Nat → List Addr}
theorem HR.refl {F H : Hp} (h : Same F H) : HR F H F H := ⟨Same.refl _, h, Same.refl _, fun a h => .inl h⟩
/-- the heap has grown; the fixed part has grown by new objects -/
structure Grow (F H F' H' : Hp) : Prop where
  sF : Same F F'
  sH : Same H H'
  fh : Same F' H'
  nw : ∀ a, F' a ≠ none → F a ≠ none ∨ H a = none
theorem Grow.refl (h : Same F H) : Grow F H F H := ⟨Same.refl _, Same.refl _, h, fun a h => .inl h⟩
theorem Grow.trans {F1 H1 : Hp} (a : Grow F H F1 H1) (b : Grow F1 H1 F' H') : Grow F H F' H' :=
  ⟨a.sF.trans b.sF, a.sH.trans b.sH, b.fh, fun c hc => by
    rcases b.nw c hc with h | h
    · exact a.nw c h
    · exact .inr (Same.free a.sH h)⟩
theorem none_of_same (s : Same H0 H) {a : Addr} (h : H a = none) : H0 a = none := Same.free s h
theorem HR.grow (r : HR F0 H0 F H) (g : Grow F H F' H') : HR F0 H0 F' H' :=
  ⟨r.f0.trans g.sF, g.fh, r.h0.trans g.sH, fun a ha => by
    rcases g.nw a ha with h | h
    · exact r.nw a h
    · exact .inr (none_of_same r.h0 h)⟩
theorem same_at (s : Same H H') {a : Addr} (h : H a ≠ none) : H' a = H a := by
  cases e : H a with
  | none => exact absurd e h
  | some o => exact s a o e
theorem Grow.off (g : Grow F H F' H') {a : Addr} (h1 : F a = none) (h2 : H a ≠ none) : F' a = none := by
  cases e : F' a with
  | none => rfl
  | some o =>
    rcases g.nw a (by rw [e]; simp) with h | h
    · exact absurd h1 h
    · exact absurd h h2
theorem CR.grow {v : V} {c : Cell} {as : List Addr} (r : CR K F H v c as) (g : Grow F H F' H') : CR K F' H' v c as :=
  r.mono g.sF (fun a ha => g.off (r.there a ha).1 (r.there a ha).2) fun a ha => same_at g.sH (r.there a ha).2
theorem ER.grow (r : ER K F0 H0 F H σ env own) (g : Grow F H F' H') : ER K F0 H0 F' H' σ env own :=
  { toHR := r.toHR.grow g, len := r.len, sl := fun i c h => by
      obtain ⟨v, e, q⟩ := r.sl i c h
      exact ⟨v, e, q.grow g⟩
    ap := r.ap, fr := fun i a ha => by
      obtain ⟨h1, h2, h3⟩ := r.fr i a ha
      refine ⟨h1, g.off h2 h3, ?_⟩
      rw [same_at g.sH h3]
      exact h3 }
/-- a new object -/
theorem grow_new (h : Same F H) {p : Addr} {o : HO} (hp : H p = none) : Grow F H F (upd H p o) :=
  ⟨Same.refl _, fun b u e => by rw [upd_ne (ne_of_none e hp)]; exact e, fun b u e => by
    have := h b u e
    rw [upd_ne (ne_of_none this hp)]
    exact this, fun a ha => .inl ha⟩
/-- a new object that is fixed at once -/
theorem grow_fix (h : Same F H) {p : Addr} {o : HO} (hp : H p = none) : Grow F H (upd F p o) (upd H p o) :=
  ⟨fun b u e => by rw [upd_ne (ne_of_none (h b u e) hp)]; exact e, fun b u e => by rw [upd_ne (ne_of_none e hp)]; exact e, fun b u e => by
    by_cases hb : b = p
    · subst hb
      rw [upd_same] at e
      rw [upd_same]
      exact e
    · rw [upd_ne hb] at e
      rw [upd_ne hb]
      exact h b u e, fun a ha => by
    by_cases hb : a = p
    · subst hb
      exact .inr hp
    · rw [upd_ne hb] at ha
      exact .inl ha⟩
/-- slot i's own cell is fixed -/
theorem ER.freeze (r : ER K F0 H0 F H σ env own) {i : Nat} {c : Cell} (e : env[i]? = some (some c)) :
    ER K F0 H0 (addF F H (own i)) H σ (env.set i (some (.fz c.d))) (fun j => if j = i then [] else own j) ∧ Same F (addF F H (own i)) ∧ ∃ v, σ[i]? = some (some v) ∧ DR K (addF F H (own i)) v c.d := by
  obtain ⟨v, ev, q⟩ := r.sl i c e
  have off : Off F (own i) := fun a ha => (r.fr i a ha).2.1
  have sF : Same F (addF F H (own i)) := same_addF off
  have fx := q.fix
  refine ⟨{ f0 := r.f0.trans sF, fh := addF_same r.fh, h0 := r.h0, nw := fun a ha => ?_, len := by rw [List.length_set]; exact r.len, sl := fun j c' h => ?_, ap := fun j k a h1 h2 => ?_, fr := fun j a h => ?_ }, sF, v, ev, fx⟩
  · by_cases hb : a ∈ own i
    · exact .inr (r.fr i a hb).1
    · rw [addF_out hb] at ha
      exact r.nw a ha
  · by_cases hj : j = i
    · subst hj
      have hi : j < env.length := by
        obtain ⟨hi, _⟩ := List.getElem?_eq_some_iff.mp e
        exact hi
      rw [List.getElem?_set_self hi] at h
      cases h
      refine ⟨v, ev, ?_⟩
      rw [if_pos rfl]
      exact .fz fx
    · rw [List.getElem?_set_ne (Ne.symm hj)] at h
      obtain ⟨w, ew, qw⟩ := r.sl j c' h
      refine ⟨w, ew, ?_⟩
      rw [if_neg hj]
      refine qw.mono sF (fun a ha => ?_) fun _ _ => rfl
      rw [addF_out fun hb => hj (r.ap j i a ha hb)]
      exact (r.fr j a ha).2.1
  · by_cases hj : j = i
    · simp [hj] at h1
    · by_cases hk : k = i
      · simp [hk] at h2
      · rw [if_neg hj] at h1
        rw [if_neg hk] at h2
        exact r.ap j k a h1 h2
  · by_cases hj : j = i
    · simp [hj] at h
    · rw [if_neg hj] at h
      obtain ⟨h1, h2, h3⟩ := r.fr j a h
      refine ⟨h1, ?_, h3⟩
      rw [addF_out fun hb => hj (r.ap j i a h hb)]
      exact h2
/-- a cell in hand, of no slot -/
structure TR (K : PySem.W.Frag) (H0 F H : Hp) (own : Nat → List Addr) (v : V) (c : Cell) (as : List Addr) : Prop where
  cr : CR K F H v c as
  no : ∀ i, ∀ a ∈ as, a ∉ own i
  fr : ∀ a ∈ as, H0 a = none
theorem TR.grow {v : V} {c : Cell} {as : List Addr} (r : TR K H0 F H own v c as) (g : Grow F H F' H') : TR K H0 F' H' own v c as := ⟨r.cr.grow g, r.no, r.fr⟩
theorem TR.fz {v : V} {d : D} (h : DR K F v d) : TR K H0 F H own v (.fz d) [] := ⟨.fz h, fun _ _ h => absurd h (by simp), fun _ h => absurd h (by simp)⟩
/-- .. is fixed -/
theorem ER.fixT (r : ER K F0 H0 F H σ env own) {v : V} {c : Cell} {as : List Addr} (t : TR K H0 F H own v c as) :
    ER K F0 H0 (addF F H as) H σ env own ∧ Same F (addF F H as) ∧ DR K (addF F H as) v c.d := by
  have off : Off F as := fun a ha => (t.cr.there a ha).1
  have sF : Same F (addF F H as) := same_addF off
  refine ⟨{ f0 := r.f0.trans sF, fh := addF_same r.fh, h0 := r.h0, nw := fun a ha => ?_, len := r.len, sl := fun j c' h => ?_, ap := r.ap, fr := fun j a h => ?_ }, sF, t.cr.fix⟩
  · by_cases hb : a ∈ as
    · exact .inr (t.fr a hb)
    · rw [addF_out hb] at ha
      exact r.nw a ha
  · obtain ⟨w, ew, qw⟩ := r.sl j c' h
    refine ⟨w, ew, qw.mono sF (fun a ha => ?_) fun _ _ => rfl⟩
    rw [addF_out fun hb => t.no j a hb ha]
    exact (r.fr j a ha).2.1
  · obtain ⟨h1, h2, h3⟩ := r.fr j a h
    refine ⟨h1, ?_, h3⟩
    rw [addF_out fun hb => t.no j a hb h]
    exact h2
/-- .. is stored -/
theorem ER.store (r : ER K F0 H0 F H σ env own) {v : V} {c : Cell} {as : List Addr} (t : TR K H0 F H own v c as) (i : Nat) (hi : i < env.length) :
    ER K F0 H0 F H (σ.set i (some v)) (env.set i (some c)) (fun j => if j = i then as else own j) := by
  refine { toHR := r.toHR, len := by rw [List.length_set, List.length_set]; exact r.len, sl := fun j c' h => ?_, ap := fun j k a h1 h2 => ?_, fr := fun j a h => ?_ }
  · by_cases hj : j = i
    · subst hj
      rw [List.getElem?_set_self hi] at h
      cases h
      refine ⟨v, List.getElem?_set_self (by rw [← r.len]; exact hi), ?_⟩
      rw [if_pos rfl]
      exact t.cr
    · rw [List.getElem?_set_ne (Ne.symm hj)] at h
      obtain ⟨w, ew, qw⟩ := r.sl j c' h
      refine ⟨w, by rw [List.getElem?_set_ne (Ne.symm hj)]; exact ew, ?_⟩
      rw [if_neg hj]
      exact qw
  · by_cases hj : j = i
    · by_cases hk : k = i
      · rw [hj, hk]
      · rw [if_pos hj] at h1
        rw [if_neg hk] at h2
        exact absurd h2 (t.no k a h1)
    · rw [if_neg hj] at h1
      by_cases hk : k = i
      · rw [if_pos hk] at h2
        exact absurd h1 (t.no j a h2)
      · rw [if_neg hk] at h2
        exact r.ap j k a h1 h2
  · by_cases hj : j = i
    · rw [if_pos hj] at h
      exact ⟨t.fr a h, t.cr.there a h⟩
    · rw [if_neg hj] at h
      exact r.fr j a h
/-- slot i's list is changed -/
theorem ER.chg (r : ER K F0 H0 F H σ env own) {i : Nat} {ds : List D} (e : env[i]? = some (some (.ow ds))) :
    ∃ a vs, σ[i]? = some (some (.ref a)) ∧ H a = some (.lst vs) ∧ DRs K F vs ds ∧
      ∀ vs' ds', DRs K F vs' ds' → ER K F0 H0 F (upd H a (.lst vs')) σ (env.set i (some (.ow ds'))) own := by
  obtain ⟨v, ev, q⟩ := r.sl i _ e
  obtain ⟨hi, _⟩ := List.getElem?_eq_some_iff.mp e
  generalize ho : own i = as at q
  cases q with
  | @ow a vs _ h1 h2 h3 =>
    have hai : a ∈ own i := by rw [ho]; exact List.mem_cons_self ..
    refine ⟨a, vs, ev, h2, h3, fun vs' ds' n => ?_⟩
    have ne : ∀ b, H0 b ≠ none → b ≠ a := fun b hb z => hb (by rw [z]; exact (r.fr i a hai).1)
    refine { f0 := r.f0, fh := fun b o eb => ?_, h0 := fun b o eb => ?_, nw := r.nw, len := by rw [List.length_set]; exact r.len, sl := fun j c' h => ?_, ap := r.ap, fr := fun j b h => ?_ }
    · rw [upd_ne (fun z => by rw [z, h1] at eb; cases eb)]
      exact r.fh b o eb
    · rw [upd_ne (ne b (by rw [eb]; simp))]
      exact r.h0 b o eb
    · by_cases hj : j = i
      · subst hj
        rw [List.getElem?_set_self hi] at h
        cases h
        refine ⟨_, ev, ?_⟩
        rw [ho]
        exact .ow h1 upd_same n
      · rw [List.getElem?_set_ne (Ne.symm hj)] at h
        obtain ⟨w, ew, qw⟩ := r.sl j c' h
        refine ⟨w, ew, qw.mono (Same.refl _) (fun b hb => (r.fr j b hb).2.1) fun b hb => ?_⟩
        exact upd_ne fun z => hj (r.ap j i b hb (by rw [z]; exact hai))
    · obtain ⟨q1, q2, q3⟩ := r.fr j b h
      refine ⟨q1, q2, ?_⟩
      by_cases hb : b = a
      · rw [hb, upd_same]
        simp
      · rw [upd_ne hb]
        exact q3
/-- a slot is forgotten -/
theorem ER.forget (r : ER K F0 H0 F H σ env own) (i : Nat) : ER K F0 H0 F H σ (env.set i none) own := by
  refine { toHR := r.toHR, len := by rw [List.length_set]; exact r.len, sl := fun j c' h => ?_, ap := r.ap, fr := r.fr }
  by_cases hj : j = i
  · subst hj
    by_cases hi : j < env.length
    · rw [List.getElem?_set_self hi] at h
      cases h
    · rw [List.getElem?_eq_none (by rw [List.length_set]; omega)] at h
      cases h
  · rw [List.getElem?_set_ne (Ne.symm hj)] at h
    exact r.sl j c' h
theorem ER.forgets (r : ER K F0 H0 F H σ env own) : ∀ vs : List Nat, ER K F0 H0 F H σ (wipeE env vs) own
  | [] => r
  | v :: vs => (r.forgets vs).forget v
theorem wipeE_length (env : Env) : ∀ vs : List Nat, (wipeE env vs).length = env.length
  | [] => rfl
  | v :: vs => by unfold wipeE; rw [List.length_set, wipeE_length env vs]
theorem wipeE_some {env : Env} {i : Nat} {c : Cell} : ∀ {vs : List Nat}, (wipeE env vs)[i]? = some (some c) → env[i]? = some (some c) ∧ i ∉ vs
  | [], h => ⟨h, by simp⟩
  | v :: vs, h => by
    unfold wipeE at h
    by_cases hi : v = i
    · subst hi
      by_cases hv : v < (wipeE env vs).length
      · rw [List.getElem?_set_self hv] at h; cases h
      · rw [List.getElem?_eq_none (by rw [List.length_set]; omega)] at h; cases h
    · rw [List.getElem?_set_ne hi] at h
      obtain ⟨h1, h2⟩ := wipeE_some h
      exact ⟨h1, by simp only [List.mem_cons, not_or]; exact ⟨fun e => hi e.symm, h2⟩⟩
/-- the slots of σ may differ where env tells nothing -/
theorem ER.slots (r : ER K F0 H0 F H σ env own) {σ' : L2.St} (hl : σ'.length = σ.length) (h : ∀ (i : Nat) (c : Cell) (v : V), env[i]? = some (some c) → σ[i]? = some (some v) → σ'[i]? = some (some v)) : ER K F0 H0 F H σ' env own :=
  { toHR := r.toHR, len := by rw [hl]; exact r.len, sl := fun i c e => by
      obtain ⟨v, ev, q⟩ := r.sl i c e
      exact ⟨v, h i c v e ev, q⟩
    ap := r.ap, fr := r.fr }
end
end PD

end

section
set_option Elab.async false
set_option linter.all false
set_option autoImplicit false
set_option maxRecDepth 100000
/-! The operations, by values. Own work. -/
namespace PD
open PySem PySem.Spec L2

/-- a value at hand: fixed data, or a list of our own that is looked at -/
def BR (K : PySem.W.Frag) (F H : Hp) (v : V) (d : D) : Prop := DR K F v d ∨ ∃ a vs ds, v = .ref a ∧ d = .list ds ∧ H a = some (.lst vs) ∧ DRs K F vs ds
section
variable {K : PySem.W.Frag} {F H F' H' : Hp} {v : V} {d : D}
theorem BR.mono (r : BR K F H v d) (sF : Same F F') (sH : Same H H') : BR K F' H' v d := by
  rcases r with r | ⟨a, vs, ds, e1, e2, e3, e4⟩
  · exact .inl (r.mono sF)
  · exact .inr ⟨a, vs, ds, e1, e2, sH _ _ e3, e4.mono sF⟩
theorem BR.lst {ds : List D} (r : BR K F H v (.list ds)) (fh : Same F H) : ∃ a vs, v = .ref a ∧ SqL K H a vs ∧ DRs K F vs ds := by
  rcases r with r | ⟨a, vs, ds', e1, e2, e3, e4⟩
  · obtain ⟨a, vs, e1, e2, e3⟩ := r.unL
    exact ⟨a, vs, e1, sqL_mono fh e2, e3⟩
  · cases e2
    exact ⟨a, vs, e1, .inl (.inl e3), e4⟩
theorem BR.dr (r : BR K F H v d) (h : ∀ ds, d ≠ .list ds) : DR K F v d := by
  rcases r with r | ⟨a, vs, ds', e1, e2, e3, e4⟩
  · exact r
  · exact absurd e2 (h _)
theorem BR.dp (r : BR K F H v d) (fh : Same F H) : Dp K H v d := by
  rcases r with r | ⟨a, vs, ds', e1, e2, e3, e4⟩
  · exact dp_of fh r
  · subst e1 e2
    exact .lst (.of e3) (dps_of fh e4)
where
  dp_of (fh : Same F H) (r : DR K F v d) : Dp K H v d := Dq.dp (dq_mono fh r.dp)
  dps_of (fh : Same F H) {vs : List V} {ds : List D} (r : DRs K F vs ds) : DpAll K H vs ds := DqAll.dp (dqs_mono fh r.dp)
theorem BR.ok (r : BR K F H v d) : okD d = true := by
  rcases r with r | ⟨a, vs, ds', e1, e2, e3, e4⟩
  · exact r.ok
  · subst e2
    simp only [okD]
    exact e4.ok
end

mutual
theorem canLay_ok : ∀ d : D, okD d = true → PyData.canLay0 d = true
  | .none, _ => by simp [PyData.canLay0]
  | .bool _, _ => by simp [PyData.canLay0]
  | .int _, _ => by simp [PyData.canLay0]
  | .str x, h => by
    simp only [okD, Bool.and_eq_true] at h
    simp only [PyData.canLay0]
    exact h.2
  | .list xs, h => by
    simp only [PyData.canLay0]
    exact canLays_ok xs (by simpa only [okD] using h)
  | .tuple xs, h => by
    simp only [PyData.canLay0]
    exact canLays_ok xs (by simpa only [okD] using h)
  | .dict _, h => by simp [okD] at h
theorem canLays_ok : ∀ ds : List D, okDs ds = true → PyData.canLayAll0 ds = true
  | [], _ => by simp [PyData.canLayAll0]
  | d :: ds, h => by
    simp only [okDs, Bool.and_eq_true] at h
    simp only [PyData.canLayAll0, Bool.and_eq_true]
    exact ⟨canLay_ok d h.1, canLays_ok ds h.2⟩
end
theorem shaped_ok {d : D} (h : okD d = true) (hd : dOk d = true) : SeqAt.shaped d = true := by
  unfold SeqAt.shaped
  rw [canLay_ok d h]
  simpa [dOk] using hd

/-- what is wanted of a new cell -/
def Got (K : PySem.W.Frag) (F H : Hp) (c : Cell) (Q : VK) : Prop := ∀ F' H' v as, Grow F H F' H' → CR K F' H' v c as → (∀ a ∈ as, H a = none) → Q v H'
section
variable {K : PySem.W.Frag} {F H : Hp} {Q : VK}
theorem Got.val {v : V} {d : D} (g : Got K F H (.fz d) Q) (fh : Same F H) (h : DR K F v d) : Q v H := g F H v [] (Grow.refl fh) (.fz h) fun _ z => absurd z (by simp)
theorem Got.newL {vs : List V} {ds : List D} (g : Got K F H (.ow ds) Q) (fh : Same F H) (h : DRs K F vs ds) {p : Addr} (hp : H p = none) : Q (.ref p) (upd H p (.lst vs)) :=
  g F _ (.ref p) [p] (grow_new fh hp) (.ow (Same.free fh hp) upd_same h) fun a ha => by
    rw [List.mem_singleton.mp ha]
    exact hp
theorem Got.newT {vs : List V} {ds : List D} (g : Got K F H (.fz (.tuple ds)) Q) (fh : Same F H) (h : DRs K F vs ds) {p : Addr} (hp : H p = none) : Q (.ref p) (upd H p (.tup vs)) :=
  g _ _ (.ref p) [] (grow_fix fh hp) (.fz (.tup (.of upd_same) (h.mono (grow_fix (o := .tup vs) fh hp).sF))) fun _ z => absurd z (by simp)
end

theorem b2_eq {b : Bool} {c : Cell} (h : b2 b = some c) : c = .fz (.bool b) := (Option.some.inj h).symm
theorem ints_of {K : PySem.W.Frag} {F : Hp} : ∀ {ds : List D} {vs : List V} {ns : List Int}, DRs K F vs ds → allInts ds = some ns → vs = ns.map V.int ∧ ds = ns.map .int
  | [], vs, ns, h, e => by
    simp only [allInts, Option.some.injEq] at e
    subst e
    exact ⟨h.nl, rfl⟩
  | .int i :: ds, vs, ns, h, e => by
    simp only [allInts, Option.map_eq_some_iff] at e
    obtain ⟨ms, e1, rfl⟩ := e
    obtain ⟨v, vs', rfl, h1, h2⟩ := h.hd
    obtain ⟨q1, q2⟩ := ints_of h2 e1
    rw [h1.unI, q1, q2]
    exact ⟨rfl, rfl⟩
  | .none :: _, _, _, _, e => by simp [allInts] at e
  | .bool _ :: _, _, _, _, e => by simp [allInts] at e
  | .str _ :: _, _, _, _, e => by simp [allInts] at e
  | .list _ :: _, _, _, _, e => by simp [allInts] at e
  | .tuple _ :: _, _, _, _, e => by simp [allInts] at e
  | .dict _ :: _, _, _, _, e => by simp [allInts] at e
theorem DRs.ints {K : PySem.W.Frag} {F : Hp} (ns : List Int) : DRs K F (ns.map V.int) (ns.map .int) := DRs.map fun x _ => DR.int x

section
variable {X : Cx} {pins : List (Addr × Obj)} {σ : L2.St} {H : Hp} {s : Shared}
/-- a list that may be read, as its object -/
theorem lstR {l : Addr} {xs : List V} (I : Inv X pins σ H s) (h : SqL X.K H l xs) :
    xs.length ≤ sizeLine ∧ ∃ (its : List Value) (n : Nat) (sl : Array (Option Value)), Vals xs its ∧ xs.length = its.length ∧ s.heap.get? l = some { cls := .type "list", dict := none, data := .seq its.toArray n, slots := sl } := by
  obtain ⟨its, r, ⟨o, n, e, e1, e2, e3⟩, z⟩ := I.list h
  obtain ⟨oc, od, odt, osl⟩ := o
  simp only at e1 e2 e3
  subst e1 e2 e3
  exact ⟨z, its, n, osl, r, r.length, e⟩
end

/-- o(x, y), by values: the data's answer is met -/
def r2D (K : PySem.W.Frag) (o : O2) : R2 := fun x y H Q => ∃ F d e c, Same F H ∧ BR K F H x d ∧ BR K F H y e ∧ a2 o d e = some c ∧ Got K F H c Q
def r1D (K : PySem.W.Frag) (o : O1) : V → Hp → VK → Prop := fun x H Q => ∃ F d c, Same F H ∧ BR K F H x d ∧ a1 o d = some c ∧ Got K F H c Q
def r3D (K : PySem.W.Frag) : V → Option Int → Option Int → Hp → VK → Prop := fun x lo hi H Q => ∃ F d c, Same F H ∧ BR K F H x d ∧ a3 d lo hi = some c ∧ Got K F H c Q

theorem ne_list_int {i : Int} : ∀ ds, PyData.int i ≠ .list ds := fun _ h => by cases h
theorem ne_list_str {i : Str} : ∀ ds, PyData.str i ≠ .list ds := fun _ h => by cases h
theorem ne_list_bool {i : Bool} : ∀ ds, PyData.bool i ≠ .list ds := fun _ h => by cases h
theorem ne_list_tup {i : List D} : ∀ ds, PyData.tuple i ≠ .list ds := fun _ h => by cases h
theorem ne_list_none : ∀ ds, PyData.none ≠ .list ds := fun _ h => by cases h
section
variable {K : PySem.W.Frag} {F H : Hp} {v : V}
theorem BR.int {i : Int} (r : BR K F H v (.int i)) : v = .int i := (r.dr ne_list_int).unI
theorem BR.str {i : Str} (r : BR K F H v (.str i)) : v = .str i := (r.dr ne_list_str).unS
theorem BR.bool {i : Bool} (r : BR K F H v (.bool i)) : v = .bl i := (r.dr ne_list_bool).unB
theorem BR.non (r : BR K F H v .none) : v = .non := (r.dr ne_list_none).unN
theorem BR.tup {ds : List D} (r : BR K F H v (.tuple ds)) (fh : Same F H) : ∃ a vs, v = .ref a ∧ SqT K F a vs ∧ DRs K F vs ds := (r.dr ne_list_tup).unT
end

theorem str_le {x : Str} (h : okD (.str x) = true) : x.length ≤ sizeLine := by
  simp only [okD, Bool.and_eq_true, decide_eq_true_eq] at h
  exact h.1
theorem str_cps {x : Str} (h : okD (.str x) = true) : ∀ c ∈ x.cps.toList, c < 0x110000 := by
  simp only [okD, Bool.and_eq_true, PyData.strOk, Array.all_eq_true_iff_forall_mem, decide_eq_true_eq] at h
  intro c hc
  exact h.2 c (by simpa using hc)
theorem ok_str {x : Str} (h : x.length ≤ sizeLine) (h2 : ∀ c ∈ x.cps.toList, c < 0x110000) : okD (.str x) = true := by
  simp only [okD, Bool.and_eq_true, PyData.strOk, Array.all_eq_true_iff_forall_mem, decide_eq_true_eq]
  exact ⟨h, fun c hc => h2 c (by simpa using hc)⟩
theorem ok_one {c : Nat} (h : c < 0x110000) : okD (.str ⟨#[c]⟩) = true := ok_str (by show 1 ≤ sizeLine; decide) fun d hd => by
  have : d = c := by simpa using hd
  rw [this]
  exact h

open PyProof.Rows
section
variable {X : Cx}
/-- two lists, one behind the other -/
theorem op_catR : OpR X (binaryOp .Add) (fun x y H Q => ∃ l b xs zs, x = .ref l ∧ y = .ref b ∧ SqL X.K H l xs ∧ SqL X.K H b zs ∧ xs.length + zs.length ≤ sizeLine ∧ ∀ p, H p = none → Q (.ref p) (upd H p (.lst (xs ++ zs)))) := by
  intro pins s σ H x y v u Q I rx ry ⟨l, b, xs, zs, ex, ey, hL, hB, hsz, q⟩
  subst ex ey
  cases rx
  cases ry
  obtain ⟨_, i1, n1, sl1, r1, l1, e1⟩ := lstR I hL
  obtain ⟨_, i2, n2, sl2, r2, l2, e2⟩ := lstR I hB
  have eq : i1.toArray ++ i2.toArray = (i1 ++ i2).toArray := by simp
  refine concat_meets ⟨_, e1, rfl⟩ ⟨_, e2, rfl⟩ noFill_list_add seq_list_add PySem.F.slot_list_add PySem.F.entry_list_add (PySem.F.args_list_add_2 _ _) (list_addW l b i1.toArray i2.toArray n1 n2 none none sl1 sl2 (by rw [List.size_toArray, List.size_toArray, ← l1, ← l2]; exact hsz)) ⟨e1, e2, ?_⟩
  rw [eq]
  exact ⟨.ref _, _, I.lnew (ys := xs ++ zs) (t' := s.toks) (r1.append r2) (by rw [List.length_append]; exact hsz), rfl, q _ I.fresh⟩
theorem op_repR : OpR X (binaryOp .Mult) (fun x y H Q => ∃ l k xs, x = .ref l ∧ y = .int k ∧ SqL X.K H l xs ∧ -(2 ^ 63) ≤ k ∧ k < 2 ^ 63 ∧ xs.length * k.toNat ≤ sizeLine ∧ ∀ p, H p = none → Q (.ref p) (upd H p (.lst (List.replicate k.toNat xs).flatten))) := by
  intro pins s σ H x y v u Q I rx ry ⟨l, kk, xs, ex, ey, hL, b1, b2, hsz, q⟩
  subst ex ey
  cases rx
  obtain ⟨tk, rfl⟩ := ry
  obtain ⟨_, vs, n, sl, r, hl, e⟩ := lstR I hL
  have c1 : vs.toArray.size * kk.toNat ≤ sizeLine := by rw [List.size_toArray, ← hl]; exact hsz
  have c2 : ¬ vs.toArray.size * kk.toNat > (2 ^ 63 - 1) / 8 := by
    have q : (sizeLine : Nat) ≤ (2 ^ 63 - 1) / 8 := by decide
    omega
  have c3 : ¬ (!Builtin.List.listFitsIndex kk) = true := by rw [fitsIndex_both b1 b2]; simp
  have c4 : ¬ Builtin.List.listTooLong (vs.toArray.size * kk.toNat) = true := by rw [notLongL c1]; simp
  have c5 : List.foldl (fun a b => a ++ b) #[] (List.replicate (if vs.toArray.isEmpty = true then 0 else kk.toNat) vs.toArray) = (List.replicate kk.toNat vs).flatten.toArray := by
    have f0 : ∀ m : Nat, List.foldl (fun a b => a ++ b) #[] (List.replicate m vs.toArray) = (List.replicate m vs).flatten.toArray := fun m => by
      have z := foldl_rep vs m []
      simpa using z
    by_cases he : vs = []
    · subst he
      simp
    · have hne : vs.toArray.isEmpty = false := by simpa using he
      rw [hne]
      exact f0 _
  refine wpAny_binaryOp_repeat_ref (T := "list") (U := "int") (by decide) ⟨_, e, rfl⟩ (fun s' => typeIs_int s' kk tk) noFill_list_mul F.fills_int_mul F.slot_int_rmul repeat_list F.slot_int_index.lookup ?_
  refine call_meets F.slot_int_rmul (typeIs_int s kk tk) F.entry_int_rmul (F.args_int_rmul_2 _ _) (lm_int_rmul_list_any kk tk l vs.toArray n none sl) ?_
  refine ⟨e, rfl, ⟨_, e, rfl⟩, call_meets F.slot_list_mul ⟨_, e, rfl⟩ F.entry_list_mul (F.args_list_mul_2 _ _) (lm_list_mul_any l vs.toArray n none sl kk tk c3 c2 c4) ⟨e, ?_⟩⟩
  rw [c5]
  exact ⟨.ref _, _, I.lnew (t' := s.toks) (r.rep kk.toNat) (by rw [lm_len_rep_flat, Nat.mul_comm]; exact hsz), rfl, q _ I.fresh⟩
end
end PD

end

section
set_option Elab.async false
set_option linter.all false
set_option autoImplicit false
set_option maxRecDepth 100000
/-! The operations, by values (continued). Own work. -/
namespace PD
open PySem PySem.Spec L2 PyProof.Rows
theorem add_ok {x y : Str} (h1 : okD (.str x) = true) (h2 : okD (.str y) = true) (h : x.length + y.length ≤ sizeLine) : okD (.str (x ++ y)) = true := by
  have e : (x ++ y).cps = x.cps ++ y.cps := rfl
  refine ok_str ?_ fun c hc => ?_
  · show (x ++ y).cps.size ≤ sizeLine
    rw [e, Array.size_append]
    exact h
  · rw [e, Array.toList_append, List.mem_append] at hc
    rcases hc with hc | hc
    · exact str_cps h1 c hc
    · exact str_cps h2 c hc
theorem mem_cut {α : Type} {xs : List α} {lo hi : Option Int} {x : α} (h : x ∈ cut xs lo hi) : x ∈ xs := List.mem_of_mem_drop (List.mem_of_mem_take h)
theorem cut_len {α : Type} (xs : List α) (lo hi : Option Int) : (cut xs lo hi).length ≤ xs.length := by
  unfold cut
  rw [List.length_take, List.length_drop]
  omega
theorem DRs.cut {K : PySem.W.Frag} {F : Hp} {ds : List D} {vs : List V} (h : DRs K F vs ds) (lo hi : Option Int) : DRs K F (cutV vs lo hi) (PD.cut ds lo hi) := by
  unfold cutV PD.cut
  rw [h.length]
  exact (h.drop _).take _
theorem atI_map {α β : Type} {xs : List α} {ys : List β} (hl : xs.length = ys.length) {i : Int} {y : β} (h : atI ys i = some y) : ∃ j : Nat, ys[j]? = some y ∧ ∀ x : α, xs[j]? = some x → atI xs i = some x := by
  unfold atI at h ⊢
  rw [← hl] at h
  cases e : ixN xs.length i with
  | none => rw [e] at h; cases h
  | some j =>
    rw [e] at h
    exact ⟨j, h, fun x hx => hx⟩
theorem DRs.atI {K : PySem.W.Frag} {F : Hp} {ds : List D} {vs : List V} (h : DRs K F vs ds) {i : Int} {d : D} (e : L2.atI ds i = some d) : ∃ v, L2.atI vs i = some v ∧ DR K F v d := by
  obtain ⟨j, e1, e2⟩ := atI_map h.length e
  obtain ⟨v, e3, r⟩ := h.get e1
  exact ⟨v, e2 v e3, r⟩

section
variable {X : Cx}
theorem bin_add : OpR X (binaryOp .Add) (r2D X.K .add) := by
  intro pins s σ H x y v u Q I rx ry ⟨F, d, e, c, fh, bx, by', hc, g⟩
  cases d <;> cases e <;> simp only [a2, reduceCtorEq] at hc
  · cases hc
    exact op_add pins s σ H x y v u Q I rx ry ⟨_, _, bx.int, by'.int, g.val fh (.int _)⟩
  · split at hc
    · rename_i h
      cases hc
      exact op_add_str pins s σ H x y v u Q I rx ry ⟨_, _, bx.str, by'.str, h, g.val fh (.str (add_ok bx.ok by'.ok h))⟩
    · cases hc
  · split at hc
    · rename_i h
      cases hc
      obtain ⟨a, vs, ex, hx, dx⟩ := bx.lst fh
      obtain ⟨b, ws, ey, hy, dy⟩ := by'.lst fh
      exact op_catR pins s σ H x y v u Q I rx ry ⟨a, b, vs, ws, ex, ey, hx, hy, by rw [dx.length, dy.length]; exact h, fun p hp => g.newL fh (dx.append dy) hp⟩
    · cases hc
  · split at hc
    · rename_i h
      cases hc
      obtain ⟨a, vs, ex, hx, dx⟩ := bx.tup fh
      obtain ⟨b, ws, ey, hy, dy⟩ := by'.tup fh
      refine op_catA pins s σ H x y v u Q I rx ry ⟨a, b, vs, ws, ex, ey, sqT_mono fh hx, sqT_mono fh hy, by rw [dx.length, dy.length]; exact h, fun e0 => ?_, fun _ e1 => ?_, fun _ _ p hp => g.newT fh (dx.append dy) hp⟩
      · subst e0
        have : (_ : List D) = [] := List.length_eq_zero_iff.mp dx.length.symm
        subst this
        exact g.val fh (.tup hy dy)
      · subst e1
        have : (_ : List D) = [] := List.length_eq_zero_iff.mp dy.length.symm
        subst this
        rw [List.append_nil] at g
        exact g.val fh (.tup hx dx)
    · cases hc
theorem bin_sub : OpR X (binaryOp .Sub) (r2D X.K .sub) := by
  intro pins s σ H x y v u Q I rx ry ⟨F, d, e, c, fh, bx, by', hc, g⟩
  cases d <;> cases e <;> simp only [a2, reduceCtorEq] at hc
  cases hc
  exact op_sub pins s σ H x y v u Q I rx ry ⟨_, _, bx.int, by'.int, g.val fh (.int _)⟩
theorem bin_mul : OpR X (binaryOp .Mult) (r2D X.K .mul) := by
  intro pins s σ H x y v u Q I rx ry ⟨F, d, e, c, fh, bx, by', hc, g⟩
  cases d <;> cases e <;> simp only [a2, reduceCtorEq] at hc
  · split at hc
    · rename_i i j h
      cases hc
      have h : ((-(2 ^ 64) < i ∧ i < 2 ^ 64) ∨ (-(2 ^ 64) < j ∧ j < 2 ^ 64)) ∨ i.natAbs.log2 + j.natAbs.log2 < 1000000 := by
        simp only [mulOk, Bool.or_eq_true, decide_eq_true_eq] at h
        rcases h with (h | h) | h
        · exact .inl (.inl (by omega))
        · exact .inl (.inr (by omega))
        · exact .inr h
      rcases h with h | h
      · exact op_mul pins s σ H x y v u Q I rx ry ⟨_, _, bx.int, by'.int, h, g.val fh (.int _)⟩
      · exact op_mulW pins s σ H x y v u Q I rx ry ⟨_, _, bx.int, by'.int, h, g.val fh (.int _)⟩
    · cases hc
  · split at hc
    · rename_i h
      cases hc
      obtain ⟨a, vs, ex, hx, dx⟩ := bx.lst fh
      exact op_repR pins s σ H x y v u Q I rx ry ⟨a, _, vs, ex, by'.int, hx, h.1, h.2.1, by rw [dx.length]; exact h.2.2, fun p hp => g.newL fh (dx.rep _) hp⟩
    · cases hc
theorem bin_fdiv : OpR X (binaryOp .FloorDiv) (r2D X.K .fdiv) := by
  intro pins s σ H x y v u Q I rx ry ⟨F, d, e, c, fh, bx, by', hc, g⟩
  cases d <;> cases e <;> simp only [a2, reduceCtorEq] at hc
  split at hc
  · rename_i i j h
    cases hc
    simp only [divOk, Bool.and_eq_true, decide_eq_true_eq] at h
    exact op_fdivW pins s σ H x y v u Q I rx ry ⟨_, _, bx.int, by'.int, h, g.val fh (.int _)⟩
  · cases hc
theorem bin_mod : OpR X (binaryOp .Mod) (r2D X.K .mod) := by
  intro pins s σ H x y v u Q I rx ry ⟨F, d, e, c, fh, bx, by', hc, g⟩
  cases d <;> cases e <;> simp only [a2, reduceCtorEq] at hc
  split at hc
  · rename_i i j h
    cases hc
    exact op_mod pins s σ H x y v u Q I rx ry ⟨_, _, bx.int, by'.int, h, g.val fh (.int _)⟩
  · cases hc
theorem bin_pow : OpR X (binaryOp .Pow) (r2D X.K .pow) := by
  intro pins s σ H x y v u Q I rx ry ⟨F, d, e, c, fh, bx, by', hc, g⟩
  cases d <;> cases e <;> simp only [a2, reduceCtorEq] at hc
  split at hc
  · rename_i i j h
    cases hc
    simp only [powOk, Bool.and_eq_true, decide_eq_true_eq] at h
    exact op_pow pins s σ H x y v u Q I rx ry ⟨_, _, bx.int, by'.int, ⟨h.1.1, h.1.2, h.2⟩, g.val fh (.int _)⟩
  · cases hc
theorem cmp_lt : OpR X (compareOp .Lt) (r2D X.K .lt) := by
  intro pins s σ H x y v u Q I rx ry ⟨F, d, e, c, fh, bx, by', hc, g⟩
  cases d <;> cases e <;> simp only [a2, reduceCtorEq] at hc
  cases b2_eq hc
  exact op_lt pins s σ H x y v u Q I rx ry ⟨_, _, bx.int, by'.int, g.val fh (.bl _)⟩
theorem cmp_le : OpR X (compareOp .LtE) (r2D X.K .le) := by
  intro pins s σ H x y v u Q I rx ry ⟨F, d, e, c, fh, bx, by', hc, g⟩
  cases d <;> cases e <;> simp only [a2, reduceCtorEq] at hc
  cases b2_eq hc
  exact op_le pins s σ H x y v u Q I rx ry ⟨_, _, bx.int, by'.int, g.val fh (.bl _)⟩
theorem cmp_gt : OpR X (compareOp .Gt) (r2D X.K .gt) := by
  intro pins s σ H x y v u Q I rx ry ⟨F, d, e, c, fh, bx, by', hc, g⟩
  cases d <;> cases e <;> simp only [a2, reduceCtorEq] at hc
  cases b2_eq hc
  exact op_gt pins s σ H x y v u Q I rx ry ⟨_, _, bx.int, by'.int, g.val fh (.bl _)⟩
theorem cmp_ge : OpR X (compareOp .GtE) (r2D X.K .ge) := by
  intro pins s σ H x y v u Q I rx ry ⟨F, d, e, c, fh, bx, by', hc, g⟩
  cases d <;> cases e <;> simp only [a2, reduceCtorEq] at hc
  cases b2_eq hc
  exact op_ge pins s σ H x y v u Q I rx ry ⟨_, _, bx.int, by'.int, g.val fh (.bl _)⟩
theorem eqC_some {d e : D} {b : Bool} (h : eqC d e = some b) : dOk d = true ∧ dOk e = true ∧ b = PyData.eqv d e := by
  unfold eqC at h
  split at h
  · rename_i q
    rw [Bool.and_eq_true] at q
    exact ⟨q.1, q.2, (Option.some.inj h).symm⟩
  · cases h
theorem cmp_eq (hu : X.A.units + 64 < cLine) : OpR X (compareOp .Eq) (r2D X.K .eq) := by
  intro pins s σ H x y v u Q I rx ry ⟨F, d, e, c, fh, bx, by', hc, g⟩
  have hc : (eqC d e).bind b2 = some c := by simpa only [a2] using hc
  obtain ⟨b, e1, e2⟩ := Option.bind_eq_some_iff.mp hc
  obtain ⟨q1, q2, rfl⟩ := eqC_some e1
  cases b2_eq e2
  exact op_eqD hu pins s σ H x y v u Q I rx ry ⟨d, e, bx.dp fh, by'.dp fh, shaped_ok bx.ok q1, shaped_ok by'.ok q2, g.val fh (.bl _)⟩
theorem cmp_ne (hu : X.A.units + 64 < cLine) : OpR X (compareOp .NotEq) (r2D X.K .ne) := by
  intro pins s σ H x y v u Q I rx ry ⟨F, d, e, c, fh, bx, by', hc, g⟩
  have hc : ((eqC d e).bind fun b => b2 (!b)) = some c := by simpa only [a2] using hc
  obtain ⟨b, e1, e2⟩ := Option.bind_eq_some_iff.mp hc
  obtain ⟨q1, q2, rfl⟩ := eqC_some e1
  cases b2_eq e2
  exact op_neD hu pins s σ H x y v u Q I rx ry ⟨d, e, bx.dp fh, by'.dp fh, shaped_ok bx.ok q1, shaped_ok by'.ok q2, g.val fh (.bl _)⟩
theorem memC_cases {d e : D} {b : Bool} (h : memC d e = some b) : (∃ ds, e = .list ds ∧ dOk d = true ∧ dOk (.list ds) = true ∧ b = ds.any fun x => PyData.eqv x d) ∨
    (∃ (n : Nat) (y : Str), d = .str ⟨#[n]⟩ ∧ e = .str y ∧ b = decide (n ∈ y.cps.toList)) := by
  unfold memC at h
  split at h
  · rename_i ds
    split at h
    · rename_i q
      rw [Bool.and_eq_true] at q
      exact .inl ⟨ds, rfl, q.1, q.2, (Option.some.inj h).symm⟩
    · cases h
  · rename_i y
    split at h
    · rename_i x
      split at h
      · rename_i n q
        refine .inr ⟨n, y, ?_, rfl, (Option.some.inj h).symm⟩
        obtain ⟨cps⟩ := x
        obtain ⟨l⟩ := cps
        have q' : l = [n] := q
        subst q'
        rfl
      · cases h
    · cases h
  · cases h
theorem cmp_in (hu : X.A.units + 65 < cLine) : OpR X (compareOp .In) (r2D X.K .mem) := by
  intro pins s σ H x y v u Q I rx ry ⟨F, d, e, c, fh, bx, by', hc, g⟩
  have hc : (memC d e).bind b2 = some c := by simpa only [a2] using hc
  obtain ⟨b, e1, e2⟩ := Option.bind_eq_some_iff.mp hc
  cases b2_eq e2
  rcases memC_cases e1 with ⟨ds, rfl, q1, q2, rfl⟩ | ⟨n, z, rfl, rfl, rfl⟩
  · exact op_inD hu pins s σ H x y v u Q I rx ry ⟨d, ds, bx.dp fh, by'.dp fh, shaped_ok bx.ok q1, shaped_ok by'.ok q2, g.val fh (.bl _)⟩
  · exact op_in_sign pins s σ H x y v u Q I rx ry ⟨n, z, bx.str, by'.str, g.val fh (.bl _)⟩
theorem cmp_nin (hu : X.A.units + 65 < cLine) : OpR X (compareOp .NotIn) (r2D X.K .nmem) := by
  intro pins s σ H x y v u Q I rx ry ⟨F, d, e, c, fh, bx, by', hc, g⟩
  have hc : ((memC d e).bind fun b => b2 (!b)) = some c := by simpa only [a2] using hc
  obtain ⟨b, e1, e2⟩ := Option.bind_eq_some_iff.mp hc
  cases b2_eq e2
  rcases memC_cases e1 with ⟨ds, rfl, q1, q2, rfl⟩ | ⟨n, z, rfl, rfl, rfl⟩
  · exact op_notInD hu pins s σ H x y v u Q I rx ry ⟨d, ds, bx.dp fh, by'.dp fh, shaped_ok bx.ok q1, shaped_ok by'.ok q2, g.val fh (.bl _)⟩
  · exact op_notIn_sign pins s σ H x y v u Q I rx ry ⟨n, z, bx.str, by'.str, g.val fh (.bl _)⟩
theorem ix_all : IxR X (r2D X.K .ix) := by
  intro e1 e2 pins s σ H x y v u Q I rx ry ⟨F, d, e, c, fh, bx, by', hc, g⟩
  cases d <;> cases e <;> simp only [a2, reduceCtorEq, Option.map_eq_some_iff] at hc
  · obtain ⟨n, q1, rfl⟩ := hc
    obtain ⟨j, h1, h2, _⟩ := atI_get q1
    have hn := List.mem_of_getElem? h2
    exact ix_str e1 e2 pins s σ H x y v u Q I rx ry ⟨_, _, n, bx.str, by'.int, str_le bx.ok, q1, g.val fh (.str (ok_one (str_cps bx.ok n hn)))⟩
  · obtain ⟨d', q1, rfl⟩ := hc
    obtain ⟨a, vs, ex, hx, dx⟩ := bx.lst fh
    obtain ⟨w, q2, q3⟩ := dx.atI q1
    exact ix_list e1 e2 pins s σ H x y v u Q I rx ry ⟨a, vs, _, w, ex, by'.int, hx, q2, g.val fh q3⟩
  · obtain ⟨d', q1, rfl⟩ := hc
    obtain ⟨a, vs, ex, hx, dx⟩ := bx.tup fh
    obtain ⟨w, q2, q3⟩ := dx.atI q1
    exact ix_tup e1 e2 pins s σ H x y v u Q I rx ry ⟨a, vs, _, w, ex, by'.int, sqT_mono fh hx, q2, g.val fh q3⟩
theorem call_max (hc : X.calm = true) : CallR X (.builtin "max") (fun xs H Q => ∃ x y, xs = [x, y] ∧ r2D X.K .max x y H Q) := by
  intro pins s σ H xs us Q I r ⟨x, y, ex, F, d, e, c, fh, bx, by', hc', g⟩
  subst ex
  cases d <;> cases e <;> simp only [a2, reduceCtorEq] at hc'
  cases hc'
  exact call_max2 hc pins s σ H _ us Q I r ⟨_, _, by rw [bx.int, by'.int], g.val fh (.int _)⟩
theorem call_min (hc : X.calm = true) : CallR X (.builtin "min") (fun xs H Q => ∃ x y, xs = [x, y] ∧ r2D X.K .min x y H Q) := by
  intro pins s σ H xs us Q I r ⟨x, y, ex, F, d, e, c, fh, bx, by', hc', g⟩
  subst ex
  cases d <;> cases e <;> simp only [a2, reduceCtorEq] at hc'
  cases hc'
  exact call_min2 hc pins s σ H _ us Q I r ⟨_, _, by rw [bx.int, by'.int], g.val fh (.int _)⟩

/-! ### of one -/
theorem un_negD : UnR X (unaryOp .USub) (r1D X.K .neg) := by
  intro pins s σ H x v Q I rx ⟨F, d, c, fh, bx, hc, g⟩
  cases d <;> simp only [a1, reduceCtorEq] at hc
  cases hc
  exact un_neg pins s σ H x v Q I rx ⟨_, bx.int, g.val fh (.int _)⟩
def rC1 (K : PySem.W.Frag) (o : O1) : List V → Hp → VK → Prop := fun xs H Q => ∃ x, xs = [x] ∧ r1D K o x H Q
theorem call_lenD : CallR X (.builtin "len") (rC1 X.K .len) := by
  intro pins s σ H xs us Q I r ⟨x, ex, F, d, c, fh, bx, hc, g⟩
  subst ex
  cases d <;> simp only [a1, reduceCtorEq] at hc <;> cases hc
  · exact call_len_str pins s σ H _ us Q I r ⟨_, by rw [bx.str], str_le bx.ok, g.val fh (.int _)⟩
  · obtain ⟨a, vs, ex, hx, dx⟩ := bx.lst fh
    exact call_len_seq pins s σ H _ us Q I r ⟨a, vs, by rw [ex], .inl hx, by rw [dx.length]; exact g.val fh (.int _)⟩
  · obtain ⟨a, vs, ex, hx, dx⟩ := bx.tup fh
    exact call_len_seq pins s σ H _ us Q I r ⟨a, vs, by rw [ex], .inr (sqT_mono fh hx), by rw [dx.length]; exact g.val fh (.int _)⟩
theorem call_listD : CallR X (.type "list") (rC1 X.K .list) := by
  intro pins s σ H xs us Q I r ⟨x, ex, F, d, c, fh, bx, hc, g⟩
  subst ex
  cases d <;> simp only [a1, reduceCtorEq] at hc <;> cases hc
  · obtain ⟨a, vs, ex, hx, dx⟩ := bx.lst fh
    exact call_list_of pins s σ H _ us Q I r ⟨a, vs, by rw [ex], .inl hx, fun p hp => g.newL fh dx hp⟩
  · obtain ⟨a, vs, ex, hx, dx⟩ := bx.tup fh
    exact call_list_of pins s σ H _ us Q I r ⟨a, vs, by rw [ex], .inr (sqT_mono fh hx), fun p hp => g.newL fh dx hp⟩
theorem call_tupD : CallR X (.type "tuple") (rC1 X.K .tuple) := by
  intro pins s σ H xs us Q I r ⟨x, ex, F, d, c, fh, bx, hc, g⟩
  subst ex
  cases d <;> simp only [a1, reduceCtorEq] at hc <;> cases hc
  · obtain ⟨a, vs, ex, hx, dx⟩ := bx.lst fh
    exact call_tuple_of pins s σ H _ us Q I r ⟨a, vs, by rw [ex], .inl ⟨hx, fun p hp => g.newT fh dx hp⟩⟩
  · obtain ⟨a, vs, ex, hx, dx⟩ := bx.tup fh
    exact call_tuple_of pins s σ H _ us Q I r ⟨a, vs, by rw [ex], .inr ⟨sqT_mono fh hx, by rw [← ex]; exact g.val fh (bx.dr ne_list_tup)⟩⟩
theorem call_intD : CallR X (.type "int") (rC1 X.K .int) := by
  intro pins s σ H xs us Q I r ⟨x, ex, F, d, c, fh, bx, hc, g⟩
  subst ex
  cases d <;> simp only [a1, reduceCtorEq] at hc <;> cases hc
  · exact call_int1 pins s σ H _ us Q I r (.inr ⟨_, by rw [bx.bool], g.val fh (.int _)⟩)
  · exact call_int1 pins s σ H _ us Q I r (.inl ⟨_, by rw [bx.int], g.val fh (.int _)⟩)
theorem call_absD : CallR X (.builtin "abs") (rC1 X.K .abs) := by
  intro pins s σ H xs us Q I r ⟨x, ex, F, d, c, fh, bx, hc, g⟩
  subst ex
  cases d <;> simp only [a1, reduceCtorEq] at hc <;> cases hc
  exact call_abs pins s σ H _ us Q I r ⟨_, by rw [bx.int], g.val fh (.int _)⟩
theorem call_sumD (hc : X.calm = true) : CallR X (.builtin "sum") (rC1 X.K .sum) := by
  intro pins s σ H xs us Q I r ⟨x, ex, F, d, c, fh, bx, hc', g⟩
  subst ex
  cases d <;> simp only [a1, reduceCtorEq, Option.map_eq_some_iff] at hc'
  obtain ⟨ns, q1, rfl⟩ := hc'
  obtain ⟨a, vs, ex, hx, dx⟩ := bx.lst fh
  obtain ⟨rfl, rfl⟩ := ints_of dx q1
  exact cr_sum hc pins s σ H _ us Q I r ⟨a, ns, by rw [ex], hx, g.val fh (.int _)⟩
theorem minI_spec : ∀ (ns : List Int) (m : Int), minI m ns ∈ m :: ns ∧ ∀ y ∈ m :: ns, minI m ns ≤ y
  | [], m => by simp [minI]
  | x :: xs, m => by
    have h := minI_spec xs (if x < m then x else m)
    simp only [minI]
    refine ⟨?_, fun y hy => ?_⟩
    · rcases List.mem_cons.mp h.1 with e | e
      · rw [e]
        split <;> simp
      · exact List.mem_cons_of_mem _ (List.mem_cons_of_mem _ e)
    · have h0 := h.2 _ (List.mem_cons_self ..)
      rcases List.mem_cons.mp hy with e | hy
      · subst e
        by_cases q : x < y
        · rw [if_pos q] at h0 ⊢
          omega
        · rw [if_neg q] at h0 ⊢
          omega
      · rcases List.mem_cons.mp hy with e | hy
        · subst e
          by_cases q : y < m
          · rw [if_pos q] at h0 ⊢
            omega
          · rw [if_neg q] at h0 ⊢
            omega
        · exact h.2 y (List.mem_cons_of_mem _ hy)
theorem maxI_spec : ∀ (ns : List Int) (m : Int), maxI m ns ∈ m :: ns ∧ ∀ y ∈ m :: ns, y ≤ maxI m ns
  | [], m => by simp [maxI]
  | x :: xs, m => by
    have h := maxI_spec xs (if x > m then x else m)
    simp only [maxI]
    refine ⟨?_, fun y hy => ?_⟩
    · rcases List.mem_cons.mp h.1 with e | e
      · rw [e]
        split <;> simp
      · exact List.mem_cons_of_mem _ (List.mem_cons_of_mem _ e)
    · have h0 := h.2 _ (List.mem_cons_self ..)
      rcases List.mem_cons.mp hy with e | hy
      · subst e
        by_cases q : x > y
        · rw [if_pos q] at h0 ⊢
          omega
        · rw [if_neg q] at h0 ⊢
          omega
      · rcases List.mem_cons.mp hy with e | hy
        · subst e
          by_cases q : y > m
          · rw [if_pos q] at h0 ⊢
            omega
          · rw [if_neg q] at h0 ⊢
            omega
        · exact h.2 y (List.mem_cons_of_mem _ hy)
theorem ints_cons {m : Int} {ds : List D} {ns : List Int} (h : allInts ds = some ns) : allInts (.int m :: ds) = some (m :: ns) := by simp [allInts, h]
theorem call_minD (hc : X.calm = true) : CallR X (.builtin "min") (rC1 X.K .minL) := by
  intro pins s σ H xs us Q I r ⟨x, ex, F, d, c, fh, bx, hc', g⟩
  subst ex
  cases d <;> simp only [a1, reduceCtorEq, Option.bind_eq_some_iff, Option.map_eq_some_iff] at hc'
  obtain ⟨ns', q1, m', q2, rfl⟩ := hc'
  cases ns' with
  | nil => cases q2
  | cons m ns =>
  cases q2
  obtain ⟨a, vs, ex, hx, dx⟩ := bx.lst fh
  obtain ⟨rfl, _⟩ := ints_of dx q1
  refine cr_min hc pins s σ H _ us Q I r ⟨a, m :: ns, by rw [ex], hx, by simp, fun k hk hall => ?_⟩
  have sp := minI_spec ns m
  have e : k = minI m ns := by
    have h1 := hall _ sp.1
    have h2 := sp.2 _ hk
    omega
  rw [e]
  exact g.val fh (.int _)
theorem call_maxD (hc : X.calm = true) : CallR X (.builtin "max") (rC1 X.K .maxL) := by
  intro pins s σ H xs us Q I r ⟨x, ex, F, d, c, fh, bx, hc', g⟩
  subst ex
  cases d <;> simp only [a1, reduceCtorEq, Option.bind_eq_some_iff, Option.map_eq_some_iff] at hc'
  obtain ⟨ns', q1, m', q2, rfl⟩ := hc'
  cases ns' with
  | nil => cases q2
  | cons m ns =>
  cases q2
  obtain ⟨a, vs, ex, hx, dx⟩ := bx.lst fh
  obtain ⟨rfl, _⟩ := ints_of dx q1
  refine cr_max hc pins s σ H _ us Q I r ⟨a, m :: ns, by rw [ex], hx, by simp, fun k hk hall => ?_⟩
  have sp := maxI_spec ns m
  have e : k = maxI m ns := by
    have h1 := hall _ sp.1
    have h2 := sp.2 _ hk
    omega
  rw [e]
  exact g.val fh (.int _)
theorem insI_perm (x : Int) : ∀ ys : List Int, (insI x ys).Perm (x :: ys)
  | [] => List.Perm.refl _
  | y :: ys => by
    unfold insI
    split
    · exact List.Perm.refl _
    · exact ((insI_perm x ys).cons y).trans (List.Perm.swap x y ys)
theorem sortI_perm : ∀ xs : List Int, (sortI xs).Perm xs
  | [] => List.Perm.refl _
  | x :: xs => (insI_perm x (sortI xs)).trans ((sortI_perm xs).cons x)
theorem insI_sorted (x : Int) : ∀ ys : List Int, ys.Pairwise (· ≤ ·) → (insI x ys).Pairwise (· ≤ ·)
  | [], _ => by simp [insI]
  | y :: ys, h => by
    rw [List.pairwise_cons] at h
    unfold insI
    split
    · rename_i q
      rw [List.pairwise_cons]
      refine ⟨fun z hz => ?_, by rw [List.pairwise_cons]; exact h⟩
      rcases List.mem_cons.mp hz with e | hz
      · omega
      · have := h.1 z hz
        omega
    · rename_i q
      rw [List.pairwise_cons]
      refine ⟨fun z hz => ?_, insI_sorted x ys h.2⟩
      rcases List.mem_cons.mp ((insI_perm x ys).mem_iff.mp hz) with e | hz
      · omega
      · exact h.1 z hz
theorem sortI_sorted : ∀ xs : List Int, (sortI xs).Pairwise (· ≤ ·)
  | [] => List.Pairwise.nil
  | x :: xs => insI_sorted x _ (sortI_sorted xs)
theorem call_sortedD : CallR X (.builtin "sorted") (rC1 X.K .sorted) := by
  intro pins s σ H xs us Q I r ⟨x, ex, F, d, c, fh, bx, hc', g⟩
  subst ex
  cases d <;> simp only [a1, reduceCtorEq, Option.map_eq_some_iff] at hc'
  obtain ⟨ns, q1, rfl⟩ := hc'
  obtain ⟨a, vs, ex, hx, dx⟩ := bx.lst fh
  obtain ⟨rfl, rfl⟩ := ints_of dx q1
  refine cr_sortedI pins s σ H _ us Q I r ⟨a, ns, by rw [ex], hx, fun ns' p hp hs hn => ?_⟩
  have e : ns' = sortI ns := by
    refine List.Perm.eq_of_pairwise (le := (· ≤ ·)) (fun a b _ _ h1 h2 => ?_) hs (sortI_sorted ns) (hp.trans (sortI_perm ns).symm)
    omega
  rw [e]
  exact g.newL fh (DRs.ints _) hn
theorem op_isND : OpR X (compareOp .Is) (fun x y H Q => y = .non ∧ r1D X.K .isN x H Q) := by
  intro pins s σ H x y v u Q I rx ry ⟨ey, F, d, c, fh, bx, hc, g⟩
  refine op_isN pins s σ H x y v u Q I rx ry ⟨ey, ?_⟩
  cases b2_eq hc
  have e : (decide (x = .non)) = isNone d := by
    cases d with
    | none => rw [bx.non]; rfl
    | bool b => rw [bx.bool]; rfl
    | int b => rw [bx.int]; rfl
    | str b => rw [bx.str]; rfl
    | list b => obtain ⟨a, vs, ex, hx, dx⟩ := bx.lst fh; rw [ex]; rfl
    | tuple b => obtain ⟨a, vs, ex, hx, dx⟩ := bx.tup fh; rw [ex]; rfl
    | dict b => exact absurd bx.ok (by simp [okD])
  rw [e]
  exact g.val fh (.bl _)
theorem op_notND : OpR X (compareOp .IsNot) (fun x y H Q => y = .non ∧ r1D X.K .notN x H Q) := by
  intro pins s σ H x y v u Q I rx ry ⟨ey, F, d, c, fh, bx, hc, g⟩
  refine op_notN pins s σ H x y v u Q I rx ry ⟨ey, ?_⟩
  cases b2_eq hc
  have e : (!decide (x = .non)) = (!isNone d) := by
    cases d with
    | none => rw [bx.non]; rfl
    | bool b => rw [bx.bool]; rfl
    | int b => rw [bx.int]; rfl
    | str b => rw [bx.str]; rfl
    | list b => obtain ⟨a, vs, ex, hx, dx⟩ := bx.lst fh; rw [ex]; rfl
    | tuple b => obtain ⟨a, vs, ex, hx, dx⟩ := bx.tup fh; rw [ex]; rfl
    | dict b => exact absurd bx.ok (by simp [okD])
  rw [e]
  exact g.val fh (.bl _)
theorem isTy_kit (t : Ty) : ∀ {d : D} {T : String}, dTy d = some T → kitB T (tyN t) = some (isTyS t T) := by
  intro d T h
  have key : T = "NoneType" ∨ T = "bool" ∨ T = "int" ∨ T = "str" ∨ T = "list" ∨ T = "tuple" := by
    cases d <;> simp only [dTy, Option.some.injEq, reduceCtorEq] at h <;> subst h <;> simp
  rcases key with e | e | e | e | e | e <;> subst e <;> cases t <;> decide +kernel
/-- isinstance(x, T) -/
theorem call_isiD (t : Ty) : CallR X (.builtin "isinstance") (fun xs H Q => ∃ x, xs = [x, .ty (tyN t)] ∧ r1D X.K (.isi t) x H Q) := by
  intro pins s σ H xs us Q I r ⟨x, ex, F, d, c, fh, bx, hc, g⟩
  subst ex
  have hc : ((dTy d).bind fun T => b2 (isTyS t T)) = some c := by simpa only [a1] using hc
  obtain ⟨T, e1, e2⟩ := Option.bind_eq_some_iff.mp hc
  cases b2_eq e2
  have ty : TyX X.K H x (.type T) := by
    cases d <;> simp only [dTy, Option.some.injEq, reduceCtorEq] at e1 <;> subst e1
    · rw [bx.non]; exact .base .non
    · rw [bx.bool]; exact .base (.bl _)
    · rw [bx.int]; exact .base (.int _)
    · rw [bx.str]; exact .base (.str _)
    · obtain ⟨a, vs, ex, hx, dx⟩ := bx.lst fh
      rw [ex]
      rcases hx with (hx | ⟨o, hx⟩) | ⟨o, its, n, h1, h2, _⟩
      · exact .base (.lst hx)
      · exact .base (.frz hx)
      · exact .kList h1 h2
    · obtain ⟨a, vs, ex, hx, dx⟩ := bx.tup fh
      rw [ex]
      rcases sqT_mono fh hx with (hx | ⟨o, hx⟩) | ⟨o, its, n, h1, h2, _⟩
      · exact .base (.tup hx)
      · exact .fTuple hx
      · exact .kTuple h1 h2
  exact call_isi pins s σ H _ us Q I r ⟨x, .ty (tyN t), .type T, .type (tyN t), isTyS t T, rfl, .ty _, ty, kit_ty (isTy_kit t e1), g.val fh (.bl _)⟩
end
end PD

end

section
set_option Elab.async false
set_option linter.all false
set_option autoImplicit false
set_option maxRecDepth 100000
set_option maxHeartbeats 1000000
/-! list(reversed(xs)) of a list. Own work. -/
namespace PD
open PySem PySem.Spec PyProof.Rows L2
section
variable {P : Program} {w : World} {A : Around} {E : Value → Shared → Prop} {s : Shared}
theorem ext_rev {R : Result → Shared → Prop} {it l S : Addr} {its : Array Value} {c : Nat} (hh : A.handled = none) (hi : s.heap.IsRevIter it l ((its.size : Int) - 1)) (hl : s.heap.IsList l its) (ne : l ≠ it) (n1 : S ≠ it) (n2 : S ≠ l) (hn : its.size ≤ sizeLine)
    (hS : s.heap.get? S = some { cls := .type "list", data := .seq #[] c })
    (q : ∀ (h2 : Heap) (tk : Nat) (acc : Array Value) (c2 : Nat), (∀ b o, b ≠ it → b ≠ S → s.heap.get? b = some o → h2.get? b = some o) → h2.get? S = some { cls := .type "list", dict := none, data := .seq acc c2, slots := #[] } →
      ItemsOf (fun i v => its[its.size - 1 - i]? = some v) acc its.size → R (.ok (.ret .none)) { s with heap := h2, toks := tk }) :
    wpAny (model P w) A.in1 (Builtin.List.listExtendWith (.ref S) (.ref it) .none)
      (fun fin s2 => match fin with | .done f => R (.ok f) s2 | .again c3 => c3.quiet = true ∧ codeAny (model P w) A c3 R s2) (fun e s2 => R (.error e) s2) s := by
  have W := (Walks.listRev (prog := P) (w := w) (A := A.in1) hh it l ne its).toS
  have off : S ∉ [it, l] := by
    intro z
    rcases List.mem_cons.mp z with z | z
    · exact n1 z
    · exact n2 (List.mem_singleton.mp z)
  have ty : s.TypeIs (.ref it) "list_reverseiterator" := hi.typeIs
  have same : Builtin.List.listSameRef (.ref S) (.ref it) = false := by simp [Builtin.List.listSameRef, n1]
  unfold Builtin.List.listExtendWith
  refine wpAny_bind (wpAny_typeOf ty ?_)
  rw [if_neg (by rw [same]; decide)]
  refine wpAny_bind (wpAny_pyIter_revIter hi (wpAny_bind (wpAny_holding ?_)))
  unfold Builtin.List.listLengthHint
  refine wpAny_bind (wpAny_specialOf ty RT.nolen_lri ?_)
  show wpAny _ A.in1 (specialOf (Value.ref it) (Str.ofString "__length_hint__") >>= _) _ _ s
  refine wpAny_bind (wpAny_specialOf ty RT.hint_lri ?_)
  generalize hid : ("list_reverseiterator.__length_hint__" : String) = hint
  wp_delta
  rw [show splitId hint = some ("list_reverseiterator", "__length_hint__") from by subst hid; decide +kernel]
  subst hid
  refine wpAny_bind (wpAny_isInstance (b := true) ty (by rw [isSubtype_type]; kernel_rfl) (wpAny_pure ?_))
  rw [if_neg (by decide)]
  have e0 : ((its.size : Nat) : Int) - 1 - ((0 : Nat) : Int) = (its.size : Int) - 1 := by omega
  refine wpAny_pure ⟨plainId_quiet F.plain_extend_loop _, codeAny_extend_loopS W hn _ off _ its.size 0 _ _ _ rfl (Nat.zero_le _) ⟨Nat.zero_le _, by rw [e0]; exact hi, hl⟩ hS (ItemsOf.nil _) fun s2 acc c2 mv h2 items => ?_⟩
  rw [Moved.eq_with mv]
  refine q s2.heap s2.toks acc c2 (fun b o b1 b2 e => mv.heap b o (fun z => ?_) e) h2 items
  rcases List.mem_cons.mp z with z | z
  · exact b2 z
  · exact b1 (List.mem_singleton.mp z)
theorem call_list_rev {it l : Addr} {its : Array Value} {Q : Value → Shared → Prop} (hh : A.handled = none) (hi : s.heap.IsRevIter it l ((its.size : Int) - 1)) (hl : s.heap.IsList l its) (ne : l ≠ it) (hn : its.size ≤ sizeLine)
    (q : ∀ (h2 : Heap) (tk : Nat) (acc : Array Value) (c2 : Nat), (∀ b o, b ≠ it → s.heap.get? b = some o → h2.get? b = some o) → h2.get? s.heap.objs.size = some { cls := .type "list", dict := none, data := .seq acc c2, slots := #[] } →
      ItemsOf (fun i v => its[its.size - 1 - i]? = some v) acc its.size → Q (.ref s.heap.objs.size) { s with heap := h2, toks := tk }) :
    wpAny (model P w) A (call (.type "list") [.ref it]) Q E s := by
  obtain ⟨oi, hoi, _⟩ := id hi
  obtain ⟨ol, hol, _⟩ := id hl
  refine callType_codes (Q₁ := fun o1 s1 => o1 = .ref s.heap.objs.size ∧ s1 = { s with heap := s.heap.push { cls := .type "list", data := .seq #[] } }) F.called_list (F.typeCall_list_1 _) F.entry_list_init (code_list_new _ ⟨rfl, rfl⟩) fun o1 s1 h1 => ?_
  obtain ⟨rfl, rfl⟩ := h1
  have at0 : (s.heap.push { cls := .type "list", data := .seq #[] }).get? s.heap.objs.size = some { cls := .type "list", data := .seq #[] } := Heap.get?_push_size _ rfl
  refine ⟨⟨_, at0, rfl⟩, F.args_list_init_2 _ _, ?_⟩
  show wpAny _ A.in1.in1 (do
    let was ← Builtin.List.listItems (.ref s.heap.objs.size)
    Builtin.List.listUpdate (.ref s.heap.objs.size) (fun _ => #[])
    letGo was.toList.reverse
    Builtin.List.listExtendWith (.ref s.heap.objs.size) (.ref it) .none) _ _ _
  refine wpAny_bind ?_
  unfold Builtin.List.listItems
  refine wpAny_bind (wpAny_seqItems at0 rfl (wpAny_pure ?_))
  show wpAny _ A.in1.in1 (updateSeq s.heap.objs.size (fun _ => #[]) >>= fun _ => letGo (#[] : Array Value).toList.reverse >>= fun _ => _) _ _ _
  refine wpAny_bind (wpAny_updateSeq at0 rfl (wpAny_bind (wpAny_letGo ?_)))
  have at1 := Heap.get?_update_self (Obj.mapSeq (fun _ => (#[] : Array Value))) at0 rfl
  have ni : ∀ {b : Addr} {o : Obj}, s.heap.get? b = some o → b ≠ s.heap.objs.size := fun e => Nat.ne_of_lt (Heap.lt_size e)
  have kp : ∀ b o, s.heap.get? b = some o → ((s.heap.push { cls := .type "list", data := .seq #[] }).update s.heap.objs.size (Obj.mapSeq (fun _ => (#[] : Array Value)))).get? b = some o := fun b o e =>
    (Heap.get?_update_other _ _ (Ne.symm (ni e))).trans (Heap.get?_push_of_some _ e)
  refine ext_rev (A := A.in1) hh (hi.at fun o e => kp _ o e) (let ⟨o, e, r⟩ := hl; ⟨o, kp _ _ e, r⟩) ne (Ne.symm (ni hoi)) (Ne.symm (ni hol)) hn at1 fun h2 tk acc c2 k at2 items => ?_
  exact ⟨rfl, q h2 tk acc c2 (fun b o b1 e => k b o b1 (ni e) (kp b o e)) at2 items⟩
end
def tListRev (K : PySem.W.Frag) (te : TE) : TE := fun σ H Q => te σ H fun v H1 => ∃ (a : Addr) (xs : List V), v = .ref a ∧ SqL K H1 a xs ∧ ∀ p, H1 p = none → Q (.ref p) (upd H1 p (.lst xs.reverse))
theorem pe_listRev {X : Cx} {e : Expr} {te : TE} {p p2 pos pos2 : Pos} (hc : X.calm = true) (hg : Gl X "list") (hm : X.mg "list" = none) (hg2 : Gl X "reversed") (hm2 : X.mg "reversed" = none) (he : PE X e te) (hs : starEach [e] X.env = (false, eval e X.env) :: starEach [] X.env) :
    PE X (.Call (.Name "list" p) [.Call (.Name "reversed" p2) [e] [] pos2] [] pos) (tListRev X.K te) := by
  refine ⟨fun pins s σ H Q I h => ?_⟩
  have hs2 : starEach [.Call (.Name "reversed" p2) [e] [] pos2] X.env = (false, eval (.Call (.Name "reversed" p2) [e] [] pos2) X.env) :: starEach [] X.env := rfl
  refine Call_ (ld_blt I hg hm (show bootBuiltins "list" = some (.type "list") by decide +kernel) (PyProof.Rows.callWith_type1 (args_cons (Call_ (ld_blt I hg2 hm2 PyProof.Rows.boot_reversed (PyProof.Rows.callWith_type1 (args_cons (thn (he.run pins s σ H _ I h) fun u s1 ⟨v, H1, I1, r1, q1⟩ => args_nil ?_) hs) hs rfl))) hs2) hs2 rfl))
  obtain ⟨a, xs, rfl, hq, q⟩ := q1
  obtain rfl : u = Value.ref a := r1
  obtain ⟨its, rv, pl, hz⟩ := I1.list hq
  refine call_reversed_list pl.isList (args_nil ?_)
  have up : ∀ b o, s1.heap.get? b = some o → (s1.heap.push (revObj a ((its.toArray.size : Int) - 1))).get? b = some o := fun b o e => Heap.get?_push_of_some _ e
  have I2 : Inv X pins σ H1 { s1 with heap := s1.heap.push (revObj a ((its.toArray.size : Int) - 1)) } := I1.kept (t' := s1.toks) up
  have fr : H1 s1.heap.objs.size = none := I1.hok.fresh (Nat.le_refl _)
  obtain ⟨ol, hol, _⟩ := id pl.isList
  have sz : its.toArray.size ≤ sizeLine := by rw [List.size_toArray, ← rv.length]; exact hz
  refine call_list_rev (s := { s1 with heap := s1.heap.push (revObj a ((its.toArray.size : Int) - 1)) }) (I1.ok.hd hc) ⟨_, Heap.get?_push_size _ rfl, rfl, rfl⟩ (pl.isList.push _) (Nat.ne_of_lt (Heap.lt_size hol)) sz fun h2 tk acc c2 k at2 items => ?_
  have eS : (s1.heap.push (revObj a ((its.toArray.size : Int) - 1))).objs.size = s1.heap.objs.size + 1 := Heap.size_push _ _
  have nS : s1.heap.objs.size ≠ (s1.heap.push (revObj a ((its.toArray.size : Int) - 1))).objs.size := by omega
  have items2 := RT.vals_rev rv items
  have IA : Inv X pins σ (upd H1 (s1.heap.push (revObj a ((its.toArray.size : Int) - 1))).objs.size (.lst xs.reverse)) { s1 with heap := (s1.heap.push (revObj a ((its.toArray.size : Int) - 1))).push { cls := .type "list", dict := none, data := .seq acc c2, slots := #[] } } :=
    I2.laid (t' := s1.toks) (fun b o e => Heap.get?_push_of_some _ e) (Nat.le_refl _) (show ObjOk X.prog X.w _ _ _ (.lst xs.reverse) from ⟨by rw [List.length_reverse]; exact hz, acc.toList, c2, items2, by rw [Array.toArray_toList]; exact Heap.get?_push_size _ rfl⟩)
  obtain ⟨f0, f1, _, f3, f4, f5⟩ := I1.fpOk (H' := upd H1 (s1.heap.push (revObj a ((its.toArray.size : Int) - 1))).objs.size (.lst xs.reverse)) (b := s1.heap.objs.size) (Nat.le_refl _) (by rw [upd_ne nS]; exact fr)
  refine ⟨.ref _, _, IA.turned (t' := tk) (h' := h2) (fun b o hb e => ?_) f0 f1 f3 f4 f5, rfl, q _ (I2.hok.fresh (Nat.le_refl _))⟩
  rcases Heap.get?_push_cases e with ⟨rfl, rfl⟩ | e
  · exact at2
  · exact k b o hb e
end PD

end

section
set_option Elab.async false
set_option linter.all false
set_option autoImplicit false
set_option maxRecDepth 100000
/-! The readings of the small language. Own work. -/
namespace PD
open PySem PySem.Spec L2

/-- the heap's side at the body's entry; what is wanted of an exception -/
structure Gh where
  K : PySem.W.Frag
  F0 : Hp
  H0 : Hp
  E : Hp → Exc → Env → Prop
  em : ∀ F F' x env, Same F F' → E F x env → E F' x env
  XR : Exc → Value → Option Addr → Hp → Hp → Prop

/-- from one place of a body to a later one, no list of our own changed -/
structure Stp (F H : Hp) (own : Nat → List Addr) (F' H' : Hp) (own' : Nat → List Addr) : Prop where
  sF : Same F F'
  sH : Same H H'
  nf : ∀ a, F' a ≠ none → F a ≠ none ∨ H a = none ∨ ∃ i, a ∈ own i
  sub : ∀ i a, a ∈ own' i → a ∈ own i
section
variable {F H F1 H1 F2 H2 : Hp} {own own1 own2 : Nat → List Addr}
theorem Stp.refl : Stp F H own F H own := ⟨Same.refl _, Same.refl _, fun _ h => .inl h, fun _ _ h => h⟩
theorem Stp.trans (a : Stp F H own F1 H1 own1) (b : Stp F1 H1 own1 F2 H2 own2) : Stp F H own F2 H2 own2 :=
  ⟨a.sF.trans b.sF, a.sH.trans b.sH, fun c hc => by
    rcases b.nf c hc with h | h | ⟨i, h⟩
    · exact a.nf c h
    · exact .inr (.inl (Same.free a.sH h))
    · exact .inr (.inr ⟨i, a.sub i c h⟩), fun i c h => a.sub i c (b.sub i c h)⟩
theorem Grow.stp (g : Grow F H F1 H1) : Stp F H own F1 H1 own := ⟨g.sF, g.sH, fun a ha => by
  rcases g.nw a ha with h | h
  · exact .inl h
  · exact .inr (.inl h), fun _ _ h => h⟩
end

/-- Hs: the heap at the start -/
abbrev Rel (α β : Type) := Hp → Hp → Hp → (Nat → List Addr) → β → α → Prop
section
variable {α β : Type}
def At (G : Gh) (rel : Rel α β) (σ : L2.St) (F H : Hp) (own : Nat → List Addr) (r : Res α) (Q : β → Hp → Prop) : Prop := match r with
  | .ok a env => ∀ F' H' own' b, ER G.K G.F0 G.H0 F' H' σ env own' → Stp F H own F' H' own' → rel H F' H' own' b a → Q b H'
  | .exc x env => G.E F x env
  | .bad => False
def Lift (G : Gh) (rel : Rel α β) (r : Env → Res α) : L2.St → Hp → (β → Hp → Prop) → Prop := fun σ H Q => ∃ F own env, ER G.K G.F0 G.H0 F H σ env own ∧ At G rel σ F H own (r env) Q
/-- a later start tells more -/
def Rel.Mono (rel : Rel α β) : Prop := ∀ Hs Hs' F H own b a, Same Hs Hs' → rel Hs' F H own b a → rel Hs F H own b a
end
def relE (G : Gh) : Rel Cell V := fun Hs F H own v c => ∃ as, TR G.K G.H0 F H own v c as ∧ ∀ a ∈ as, Hs a = none
def relB (G : Gh) : Rel D V := fun _ F H _ v d => BR G.K F H v d
def relD (G : Gh) : Rel (List D) (List V) := fun _ F _ _ vs ds => DRs G.K F vs ds
def relT : Rel Bool Bool := fun _ _ _ _ b t => b = t
def relO : Rel (Option Int) (Option Int) := fun _ _ _ _ b t => b = t
theorem relE_mono {G : Gh} : (relE G).Mono := fun Hs Hs' F H own b a s ⟨as, t, h⟩ => ⟨as, t, fun x hx => Same.free s (h x hx)⟩
theorem relB_mono {G : Gh} : (relB G).Mono := fun _ _ _ _ _ _ _ _ h => h
theorem relD_mono {G : Gh} : (relD G).Mono := fun _ _ _ _ _ _ _ _ h => h
theorem relT_mono : relT.Mono := fun _ _ _ _ _ _ _ _ h => h
theorem relO_mono : relO.Mono := fun _ _ _ _ _ _ _ _ h => h

section
variable {α β γ δ : Type} {G : Gh} {σ : L2.St} {F H F' H' : Hp} {env env1 : Env} {own own' : Nat → List Addr}
theorem At.mono {rel : Rel α β} (rm : rel.Mono) {r : Res α} {Q : β → Hp → Prop} (h : At G rel σ F H own r Q) (st : Stp F H own F' H' own') : At G rel σ F' H' own' r Q := by
  cases r with
  | ok a env => exact fun F'' H'' own'' b er s1 rl => h F'' H'' own'' b er (st.trans s1) (rm _ _ _ _ _ _ _ st.sH rl)
  | exc x env => exact G.em _ _ _ _ st.sF h
  | bad => exact h
theorem At.imp {rel : Rel α β} {r : Res α} {Q Q' : β → Hp → Prop} (h : At G rel σ F H own r Q) (q : ∀ b H', Q b H' → Q' b H') : At G rel σ F H own r Q' := by
  cases r with
  | ok a env => exact fun F'' H'' own'' b er s1 rl => q _ _ (h F'' H'' own'' b er s1 rl)
  | exc x env => exact h
  | bad => exact h
/-- a first part, then the rest -/
theorem At.step {relA : Rel α β} {relC : Rel γ δ} {r : Res α} {f : α → Env → Res γ} {Q : δ → Hp → Prop} {Q' : β → Hp → Prop} (h : At G relC σ F H own (r.bind f) Q)
    (k : ∀ a env1, r = .ok a env1 → ∀ F1 H1 own1 b, ER G.K G.F0 G.H0 F1 H1 σ env1 own1 → Stp F H own F1 H1 own1 → relA H F1 H1 own1 b a → At G relC σ F H own (f a env1) Q → Q' b H1) : At G relA σ F H own r Q' := by
  cases r with
  | ok a env1 =>
    have h : At G relC σ F H own (f a env1) Q := h
    exact fun F1 H1 own1 b er s1 rl => k a env1 rfl F1 H1 own1 b er s1 rl h
  | exc x env1 => exact h
  | bad => exact h
/-- an answer by values is an answer here -/
theorem got_of {c : Cell} {Q : VK} (er : ER G.K G.F0 G.H0 F H σ env own) (h : At G (relE G) σ F H own (.ok c env) Q) : Got G.K F H c Q := by
  intro F' H' v as g cr fr
  refine h F' H' own v (er.grow g) g.stp ⟨as, ⟨cr, fun i a ha hb => ?_, fun a ha => none_of_same er.h0 (fr a ha)⟩, fr⟩
  exact (er.fr i a hb).2.2 (fr a ha)
theorem at_of {o : Option Cell} {Q : VK} (er : ER G.K G.F0 G.H0 F H σ env own) (h : At G (relE G) σ F H own (Res.of o env) Q) : ∃ c, o = some c ∧ Got G.K F H c Q := by
  cases o with
  | none => exact h.elim
  | some c => exact ⟨c, rfl, got_of er h⟩
/-- a cell at hand is fixed, if it is our own -/
theorem fix_of {Fs Hs : Hp} {owns : Nat → List Addr} {c : Cell} {v : V} (er : ER G.K G.F0 G.H0 F H σ env own) (st : Stp Fs Hs owns F H own) (h : relE G Hs F H own v c) :
    ∃ F', ER G.K G.F0 G.H0 F' H σ env own ∧ Stp Fs Hs owns F' H own ∧ Same F F' ∧ DR G.K F' v c.d := by
  obtain ⟨as, t, fr⟩ := h
  obtain ⟨e1, e2, e3⟩ := er.fixT t
  refine ⟨_, e1, ⟨st.sF.trans e2, st.sH, fun a ha => ?_, st.sub⟩, e2, e3⟩
  by_cases hm : a ∈ as
  · exact .inr (.inl (fr a hm))
  · rw [addF_out hm] at ha
    exact st.nf a ha
end

/-! ### rules and their readings -/
theorem PE.imp {X : Cx} {e : Expr} {t t' : TE} (h : PE X e t) (i : ∀ σ H Q, t' σ H Q → t σ H Q) : PE X e t' := ⟨fun pins s σ H Q I q => h.run pins s σ H Q I (i σ H Q q)⟩
theorem PT.imp {X : Cx} {e : Expr} {t t' : TT} (h : PT X e t) (i : ∀ σ H Q, t' σ H Q → t σ H Q) : PT X e t' := ⟨fun pins s σ H Q I q => h.run pins s σ H Q I (i σ H Q q)⟩
theorem PA.imp {X : Cx} {e : List Expr} {t t' : TA} (h : PA X e t) (i : ∀ σ H Q, t' σ H Q → t σ H Q) : PA X e t' := ⟨fun pos pins s σ H Q I q => h.run pos pins s σ H Q I (i σ H Q q)⟩
theorem PS.imp {X : Cx} {e : Stmt} {t t' : TS} (h : PS X e t) (i : ∀ D σ H, t' D σ H → t D σ H) : PS X e t' := ⟨fun pins s σ H D I q => h.run pins s σ H D I (i D σ H q)⟩
theorem PSs.imp {X : Cx} {e : List Stmt} {t t' : TS} (h : PSs X e t) (i : ∀ D σ H, t' D σ H → t D σ H) : PSs X e t' := ⟨fun pins s σ H D I q => h.run pins s σ H D I (i D σ H q)⟩

/-! ### the context of a body -/
/-- what the program's top has left, for the texts of C -/
structure Lk (P : Program) (w : World) (K : PySem.W.Frag) (mg : Str → Option Value) (C : Cfg) : Prop where
  blt : ∀ x : String, x ∈ (["len", "list", "tuple", "int", "sum", "min", "max", "sorted", "abs", "isinstance", "range", "enumerate", "zip", "reversed", "bool", "str", "set"] : List String) → mg (Str.ofString x) = none
  cons : ∀ (k : Nat) (p : Str × D), C.consts[k]? = some p → ∃ u v, mg p.1 = some u ∧ RelV v u ∧ ∀ F, DR K F v p.2

/-- what is promised of the defs, by levels -/
def spF (K : PySem.W.Frag) (r : List D → FR) (XR : Exc → Value → Option Addr → Hp → Hp → Prop) (np : Nat) : Sp := fun vs H Q E => ∃ F ds, ds.length = np ∧ Same F H ∧ DRs K F vs ds ∧ match r ds with
  | .ok c => Got K F H c Q
  | .exc x => ∀ F' H' cls d, Grow F H F' H' → XR x cls d F' H' → E cls d H'
  | .bad => False
end PD

end

section
set_option Elab.async false
set_option linter.all false
set_option autoImplicit false
set_option maxRecDepth 100000
/-! Each expression of the small language is read as its interpreter says. Own work. -/
namespace PD
open PySem PySem.Spec L2

/-- what is wished for an exception of a body -/
def liftW (G : Gh) : WX := fun cls d σ H => ∃ F own env x, ER G.K G.F0 G.H0 F H σ env own ∧ G.XR x cls d F H ∧ G.E F x env
/-- the exceptions' reading is carried along -/
def XGrow (XR : Exc → Value → Option Addr → Hp → Hp → Prop) : Prop := ∀ x cls d F H F' H', XR x cls d F H → Same F F' → Same H H' → XR x cls d F' H'
structure Good (C : Cfg) (R : RT) (sc : Scope) (N : List Str) (lv : Nat) (G : Gh) (X : Cx) : Prop where
  lk : Lk X.prog X.w X.K X.mg C
  calm : X.calm = true
  scope : X.env.scope = sc
  names : X.N = N
  nd : N.Nodup
  room : Room lv X.A
  gk : G.K = X.K
  tk : L2N.Takes X (liftW G)
  fns : ∀ (f : Nat) (fd : FD), C.funs[f]? = some fd → ∃ a fdt, X.mg fd.name = some (.ref a) ∧ PySem.W.keepIn X.K (.ref a) = true ∧ Binds X.K fdt fd.ps [] ∧
    FnOk X.prog X.w X.K X.mg X.base (L2N.CX X.prog X.w) lv a fdt fd.ps (spF X.K (R.call f) G.XR fd.ps.length)
  cons : R.consts = C.consts

section
variable {α β : Type} {G : Gh} {σ : L2.St} {F H : Hp} {env : Env} {own : Nat → List Addr}
theorem frz_stp {i : Nat} (sF : Same F (addF F H (own i))) : Stp F H own (addF F H (own i)) H (fun j => if j = i then [] else own j) :=
  ⟨sF, Same.refl _, fun a ha => by
    by_cases hm : a ∈ own i
    · exact .inr (.inr ⟨i, hm⟩)
    · rw [addF_out hm] at ha
      exact .inl ha, fun j a h => by
    by_cases hj : j = i
    · rw [if_pos hj] at h
      cases h
    · rw [if_neg hj] at h
      exact h⟩
/-- slot i is read -/
theorem lift_rd {i : Nat} {Q : VK} (h : Lift G (relE G) (fun env => rd env i) σ H Q) : tVar i σ H Q := by
  obtain ⟨F, own, env, er, h⟩ := h
  try dsimp only at h
  unfold rd at h
  split at h
  · rename_i c e
    obtain ⟨er', sF, v, ev, dr⟩ := er.freeze e
    exact ⟨v, ev, h _ _ _ v er' (frz_stp sF) ⟨[], TR.fz dr, fun _ z => absurd z (by simp)⟩⟩
  · exact h.elim
theorem lift_peek {i : Nat} {Q : VK} (h : Lift G (relB G) (fun env => peek env i) σ H Q) : tVar i σ H Q := by
  obtain ⟨F, own, env, er, h⟩ := h
  try dsimp only at h
  unfold peek at h
  split at h
  · rename_i d e
    obtain ⟨v, ev, q⟩ := er.sl i _ e
    generalize own i = as at q
    cases q with
    | fz dr => exact ⟨v, ev, h _ _ _ v er Stp.refl (.inl dr)⟩
  · rename_i ds e
    obtain ⟨v, ev, q⟩ := er.sl i _ e
    generalize own i = as at q
    cases q with
    | ow h1 h2 h3 => exact ⟨_, ev, h _ _ _ _ er Stp.refl (.inr ⟨_, _, _, rfl, rfl, h2, h3⟩)⟩
  · rename_i c _ _ e
    obtain ⟨er', sF, v, ev, dr⟩ := er.freeze e
    exact ⟨v, ev, h _ _ _ v er' (frz_stp sF) (.inl dr)⟩
  · exact h.elim
/-- an expression that is looked at -/
theorem lift_bor {a : Ex} {r : Env → Res Cell} {Q : VK} (hn : ∀ i, a ≠ .var i) (h : Lift G (relB G) (bor a r) σ H Q) : Lift G (relE G) r σ H Q := by
  obtain ⟨F, own, env, er, h⟩ := h
  refine ⟨F, own, env, er, ?_⟩
  have e : bor a r env = (r env).bind fun c env => .ok c.d env := by
    unfold bor
    split
    · exact absurd rfl (hn _)
    · rfl
  rw [e] at h
  refine h.step fun c env1 _ F1 H1 own1 v er1 s1 rl h1 => ?_
  obtain ⟨F2, er2, s2, _, dr⟩ := fix_of er1 s1 rl
  exact h1 F2 H1 own1 v er2 s2 (.inl dr)
theorem lift_lit {d : D} {v : V} {Q : VK} (hv : ∀ F, DR G.K F v d) (h : Lift G (relE G) (fun env => .ok (.fz d) env) σ H Q) : Q v H := by
  obtain ⟨F, own, env, er, h⟩ := h
  exact h _ _ _ v er Stp.refl ⟨[], TR.fz (hv F), fun _ z => absurd z (by simp)⟩
theorem lift_op1 {o : O1} {ra : Env → Res D} {Q : VK} (h : Lift G (relE G) (fun env => (ra env).bind fun x env => Res.of (a1 o x) env) σ H Q) :
    Lift G (relB G) ra σ H fun x H1 => r1D G.K o x H1 Q := by
  obtain ⟨F, own, env, er, h⟩ := h
  refine ⟨F, own, env, er, h.step fun d env1 _ F1 H1 own1 v er1 s1 br h1 => ?_⟩
  obtain ⟨c, e, g⟩ := at_of er1 (h1.mono relE_mono s1)
  exact ⟨F1, d, c, er1.fh, br, e, g⟩
theorem lift_op2 {o : O2} {ra rb : Env → Res D} {Q : VK} (h : Lift G (relE G) (fun env => (ra env).bind fun x env => (rb env).bind fun y env => Res.of (a2 o x y) env) σ H Q) :
    Lift G (relB G) ra σ H fun x H1 => Lift G (relB G) rb σ H1 fun y H2 => r2D G.K o x y H2 Q := by
  obtain ⟨F, own, env, er, h⟩ := h
  refine ⟨F, own, env, er, h.step fun d env1 _ F1 H1 own1 v er1 s1 br h1 => ?_⟩
  refine ⟨F1, own1, env1, er1, (h1.mono relE_mono s1).step fun d2 env2 _ F2 H2 own2 v2 er2 s2 br2 h2 => ?_⟩
  obtain ⟨c, e, g⟩ := at_of er2 (h2.mono relE_mono s2)
  exact ⟨F2, d, d2, c, er2.fh, br.mono s2.sF s2.sH, br2, e, g⟩
theorem lift_sl {ra : Env → Res D} {rl rh : Env → Res (Option Int)} {Q : VK} (h : Lift G (relE G) (fun env => (ra env).bind fun x env => (rl env).bind fun l env => (rh env).bind fun u env => Res.of (a3 x l u) env) σ H Q) :
    Lift G (relB G) ra σ H fun x H1 => Lift G relO rl σ H1 fun l H2 => Lift G relO rh σ H2 fun u H3 => r3D G.K x l u H3 Q := by
  obtain ⟨F, own, env, er, h⟩ := h
  refine ⟨F, own, env, er, h.step fun d env1 _ F1 H1 own1 v er1 s1 br h1 => ?_⟩
  refine ⟨F1, own1, env1, er1, (h1.mono relE_mono s1).step fun l env2 _ F2 H2 own2 v2 er2 s2 e2 h2 => ?_⟩
  refine ⟨F2, own2, env2, er2, (h2.mono relE_mono s2).step fun u env3 _ F3 H3 own3 v3 er3 s3 e3 h3 => ?_⟩
  have e2 : v2 = l := e2
  have e3 : v3 = u := e3
  subst e2 e3
  obtain ⟨c, e, g⟩ := at_of er3 (h3.mono relE_mono s3)
  exact ⟨F3, d, c, er3.fh, br.mono (s2.sF.trans s3.sF) (s2.sH.trans s3.sH), e, g⟩
theorem lift_opt {a : Ex} {r : Env → Res Cell} {Q : Option Int → Hp → Prop} (hn : a.isAbs = false) (h : Lift G relO (opt a r) σ H Q) : Lift G (relE G) r σ H fun x H1 => ∃ i, x = .int i ∧ Q (some i) H1 := by
  obtain ⟨F, own, env, er, h⟩ := h
  have e : opt a r env = (r env).bind fun c env => match c.d with
    | .int i => .ok (some i) env
    | _ => .bad := by
    unfold opt
    split
    · cases hn
    · rfl
  rw [e] at h
  refine ⟨F, own, env, er, h.step fun c env1 _ F1 H1 own1 v er1 s1 rl h1 => ?_⟩
  obtain ⟨F2, er2, s2, _, dr⟩ := fix_of er1 s1 rl
  try dsimp only at h1
  split at h1
  · rename_i i e
    rw [e] at dr
    exact ⟨i, dr.unI, h1 F2 H1 own1 _ er2 s2 rfl⟩
  · exact h1.elim
theorem lift_abs {r : Env → Res Cell} {Q : Option Int → Hp → Prop} (h : Lift G relO (opt .absent r) σ H Q) : Q none H := by
  obtain ⟨F, own, env, er, h⟩ := h
  exact h F H own none er Stp.refl rfl
theorem lift_cons {ra : Env → Res Cell} {rs : Env → Res (List D)} {Q : List V → Hp → Prop} (h : Lift G (relD G) (fun env => (ra env).bind fun c env => (rs env).bind fun ds env => .ok (c.d :: ds) env) σ H Q) :
    Lift G (relE G) ra σ H fun x H1 => Lift G (relD G) rs σ H1 fun xs H2 => Q (x :: xs) H2 := by
  obtain ⟨F, own, env, er, h⟩ := h
  refine ⟨F, own, env, er, h.step fun c env1 _ F1 H1 own1 v er1 s1 rl h1 => ?_⟩
  obtain ⟨F1', er1', s1', _, dr⟩ := fix_of er1 s1 rl
  refine ⟨F1', own1, env1, er1', (h1.mono relD_mono s1').step fun ds env2 _ F2 H2 own2 vs er2 s2 drs h2 => ?_⟩
  exact h2 F2 H2 own2 (v :: vs) er2 s2 (DRs.cons (dr.mono s2.sF) drs)
theorem lift_nil {Q : List V → Hp → Prop} (h : Lift G (relD G) (fun env => .ok [] env) σ H Q) : Q [] H := by
  obtain ⟨F, own, env, er, h⟩ := h
  exact h F H own [] er Stp.refl DRs.nil
theorem lift_tup {n : Nat} {rs : Env → Res (List D)} {Q : VK} (hl : ∀ env ds env1, rs env = .ok ds env1 → ds.length = n) (h : Lift G (relE G) (fun env => if n ≤ 1000 then (rs env).bind fun ds env => .ok (.fz (.tuple ds)) env else .bad) σ H Q) :
    Lift G (relD G) rs σ H fun xs H1 => xs.length ≤ sizeLine ∧ ∀ p, H1 p = none → Q (.ref p) (upd H1 p (.tup xs)) := by
  obtain ⟨F, own, env, er, h⟩ := h
  try dsimp only at h
  by_cases hn : n ≤ 1000
  · rw [if_pos hn] at h
    refine ⟨F, own, env, er, h.step fun ds env1 e F1 H1 own1 vs er1 s1 drs h1 => ⟨?_, fun p hp => ?_⟩⟩
    · rw [drs.length, hl _ _ _ e]
      exact Nat.le_of_lt (small1000 hn)
    · exact (got_of er1 (h1.mono relE_mono s1)).newT er1.fh drs hp
  · rw [if_neg hn] at h
    exact h.elim
theorem lift_lst {n : Nat} {rs : Env → Res (List D)} {Q : VK} (hl : ∀ env ds env1, rs env = .ok ds env1 → ds.length = n) (h : Lift G (relE G) (fun env => if n ≤ 1000 then (rs env).bind fun ds env => .ok (.ow ds) env else .bad) σ H Q) :
    Lift G (relD G) rs σ H fun xs H1 => xs.length ≤ sizeLine ∧ ∀ p, H1 p = none → Q (.ref p) (upd H1 p (.lst xs)) := by
  obtain ⟨F, own, env, er, h⟩ := h
  try dsimp only at h
  by_cases hn : n ≤ 1000
  · rw [if_pos hn] at h
    refine ⟨F, own, env, er, h.step fun ds env1 e F1 H1 own1 vs er1 s1 drs h1 => ⟨?_, fun p hp => ?_⟩⟩
    · rw [drs.length, hl _ _ _ e]
      exact Nat.le_of_lt (small1000 hn)
    · exact (got_of er1 (h1.mono relE_mono s1)).newL er1.fh drs hp
  · rw [if_neg hn] at h
    exact h.elim
theorem lift_ite {rt : Env → Res Bool} {ra rb : Env → Res α} {rel : PD.Rel α β} (rm : rel.Mono) {Q : β → Hp → Prop} (h : Lift G rel (fun env => (rt env).bind fun t env => if t then ra env else rb env) σ H Q) :
    Lift G relT rt σ H fun c H1 => if c = true then Lift G rel ra σ H1 Q else Lift G rel rb σ H1 Q := by
  obtain ⟨F, own, env, er, h⟩ := h
  refine ⟨F, own, env, er, h.step fun t env1 _ F1 H1 own1 b er1 s1 e h1 => ?_⟩
  have e : b = t := e
  subst e
  have h1 := h1.mono rm s1
  cases b with
  | true => exact ⟨F1, own1, env1, er1, h1⟩
  | false => exact ⟨F1, own1, env1, er1, h1⟩
/-- a def's call -/
theorem lift_call {f : Nat} {R : RT} {np : Nat} {rs : Env → Res (List D)} {Q : VK} {W : WX} (hW : ∀ cls d σ H, liftW G cls d σ H → W cls d σ H) (hl : ∀ env ds env1, rs env = .ok ds env1 → ds.length = np)
    (h : Lift G (relE G) (fun env => (rs env).bind fun ds env => match R.call f ds with
      | .ok c => .ok c env
      | .exc x => .exc x env
      | .bad => .bad) σ H Q) :
    Lift G (relD G) rs σ H fun vs H1 => spF G.K (R.call f) G.XR np vs H1 Q (fun cls d H' => W cls d σ H') := by
  obtain ⟨F, own, env, er, h⟩ := h
  refine ⟨F, own, env, er, h.step fun ds env1 e F1 H1 own1 vs er1 s1 drs h1 => ?_⟩
  have h1 := h1.mono relE_mono s1
  refine ⟨F1, ds, hl _ _ _ e, er1.fh, drs, ?_⟩
  cases hc : R.call f ds with
  | ok c =>
    rw [hc] at h1
    exact got_of er1 h1
  | exc x =>
    rw [hc] at h1
    exact fun F' H' cls d g xr => hW _ _ _ _ ⟨F', own1, env1, x, er1.grow g, xr, G.em _ _ _ _ g.sF h1⟩
  | bad =>
    rw [hc] at h1
    exact h1.elim
theorem lift_and {ra rb : Env → Res Cell} {Q : VK} (h : Lift G (relE G) (fun env => (ra env).bind fun x env => match x with
    | .fz (.bool true) => rb env
    | .fz (.bool false) => .ok (.fz (.bool false)) env
    | _ => .bad) σ H Q) : Lift G (relE G) ra σ H fun x H1 => ∃ c, x = .bl c ∧ if c = true then Lift G (relE G) rb σ H1 Q else Q (.bl false) H1 := by
  obtain ⟨F, own, env, er, h⟩ := h
  refine ⟨F, own, env, er, h.step fun c env1 _ F1 H1 own1 v er1 s1 rl h1 => ?_⟩
  have h1 := h1.mono relE_mono s1
  obtain ⟨as, t, _⟩ := rl
  try dsimp only at h1
  split at h1
  · cases t.cr with
    | fz dr => exact ⟨true, dr.unB, ⟨F1, own1, env1, er1, h1⟩⟩
  · cases t.cr with
    | fz dr => exact ⟨false, dr.unB, h1 F1 H1 own1 _ er1 Stp.refl ⟨[], TR.fz (.bl _), fun _ z => absurd z (by simp)⟩⟩
  · exact h1.elim
theorem lift_or {ra rb : Env → Res Cell} {Q : VK} (h : Lift G (relE G) (fun env => (ra env).bind fun x env => match x with
    | .fz (.bool true) => .ok (.fz (.bool true)) env
    | .fz (.bool false) => rb env
    | _ => .bad) σ H Q) : Lift G (relE G) ra σ H fun x H1 => ∃ c, x = .bl c ∧ if c = true then Q (.bl true) H1 else Lift G (relE G) rb σ H1 Q := by
  obtain ⟨F, own, env, er, h⟩ := h
  refine ⟨F, own, env, er, h.step fun c env1 _ F1 H1 own1 v er1 s1 rl h1 => ?_⟩
  have h1 := h1.mono relE_mono s1
  obtain ⟨as, t, _⟩ := rl
  try dsimp only at h1
  split at h1
  · cases t.cr with
    | fz dr => exact ⟨true, dr.unB, h1 F1 H1 own1 _ er1 Stp.refl ⟨[], TR.fz (.bl _), fun _ z => absurd z (by simp)⟩⟩
  · cases t.cr with
    | fz dr => exact ⟨false, dr.unB, ⟨F1, own1, env1, er1, h1⟩⟩
  · exact h1.elim
theorem lift_not {ra : Env → Res Cell} {Q : VK} (h : Lift G (relE G) (fun env => (ra env).bind fun x env => match x with
    | .fz (.bool b) => .ok (.fz (.bool (!b))) env
    | _ => .bad) σ H Q) : Lift G (relE G) ra σ H fun x H1 => ∃ c, x = .bl c ∧ Q (.bl (!c)) H1 := by
  obtain ⟨F, own, env, er, h⟩ := h
  refine ⟨F, own, env, er, h.step fun c env1 _ F1 H1 own1 v er1 s1 rl h1 => ?_⟩
  have h1 := h1.mono relE_mono s1
  obtain ⟨as, t, _⟩ := rl
  try dsimp only at h1
  split at h1
  · cases t.cr with
    | fz dr => exact ⟨_, dr.unB, h1 F1 H1 own1 _ er1 Stp.refl ⟨[], TR.fz (.bl _), fun _ z => absurd z (by simp)⟩⟩
  · exact h1.elim
/-- truth -/
theorem tru_of {K : PySem.W.Frag} {v : V} {d : D} {b : Bool} (fh : Same F H) (br : BR K F H v d) (h : truth d = some b) : TruV K v H b := by
  cases d with
  | none => cases h; rw [br.non]; rfl
  | bool c => cases h; rw [br.bool]; rfl
  | int i => cases h; rw [br.int]; rfl
  | str x => cases h; rw [br.str]; exact ⟨str_le br.ok, by cases h : x.length <;> simp <;> omega⟩
  | list ds =>
    cases h
    obtain ⟨a, vs, ex, hx, dx⟩ := br.lst fh
    rw [ex]
    refine .inl ⟨vs, hx, ?_⟩
    have e := dx.length
    cases vs <;> cases ds <;> first | rfl | (simp at e)
  | tuple ds =>
    cases h
    obtain ⟨a, vs, ex, hx, dx⟩ := br.tup fh
    rw [ex]
    refine .inr (.inl ⟨vs, sqT_mono fh hx, ?_⟩)
    have e := dx.length
    cases vs <;> cases ds <;> first | rfl | (simp at e)
  | dict _ => cases h
theorem lift_val {ra : Env → Res D} {Q : Bool → Hp → Prop} (h : Lift G relT (fun env => (ra env).bind fun x env => Res.of (truth x) env) σ H Q) :
    Lift G (relB G) ra σ H fun x H1 => ∃ k, TruV G.K x H1 k ∧ Q k H1 := by
  obtain ⟨F, own, env, er, h⟩ := h
  try dsimp only at h
  refine ⟨F, own, env, er, h.step fun d env1 _ F1 H1 own1 v er1 s1 br h1 => ?_⟩
  have h1 := h1.mono relT_mono s1
  cases e : truth d with
  | none => rw [e] at h1; exact h1.elim
  | some b =>
    rw [e] at h1
    exact ⟨b, tru_of er1.fh br e, h1 F1 H1 own1 b er1 Stp.refl rfl⟩
end
end PD

end

section
set_option Elab.async false
set_option linter.all false
set_option autoImplicit false
set_option maxRecDepth 100000
/-! Targets. Own work. -/
namespace PD
open PySem PySem.Spec L2

/-- the slots off s are as they were -/
def Agr (s : List Nat) (σ σ' : L2.St) : Prop := σ'.length = σ.length ∧ ∀ i, i ∉ s → σ'[i]? = σ[i]?
theorem Agr.refl {s : List Nat} {σ : L2.St} : Agr s σ σ := ⟨rfl, fun _ _ => rfl⟩
theorem Agr.trans {s t : List Nat} {σ σ1 σ2 : L2.St} (a : Agr s σ σ1) (b : Agr t σ1 σ2) : Agr (s ++ t) σ σ2 :=
  ⟨b.1.trans a.1, fun i hi => by
    rw [List.mem_append, not_or] at hi
    rw [b.2 i hi.2, a.2 i hi.1]⟩
theorem Agr.mono {s t : List Nat} {σ σ1 : L2.St} (a : Agr s σ σ1) (h : ∀ i ∈ s, i ∈ t) : Agr t σ σ1 := ⟨a.1, fun i hi => a.2 i fun hs => hi (h i hs)⟩
theorem wipe_agr {s : List Nat} {σ σ' : L2.St} (a : Agr s σ σ') : wipe σ' s = wipe σ s := by
  apply List.ext_getElem?
  intro i
  by_cases hi : i ∈ s
  · have key : ∀ {σ : L2.St}, (wipe σ s)[i]? = if i < σ.length then some none else none := by
      intro σ
      clear a
      induction s with
      | nil => cases hi
      | cons v vs ih =>
        unfold wipe
        by_cases hv : v = i
        · subst hv
          by_cases hl : v < σ.length
          · rw [if_pos hl, List.getElem?_set_self (by rw [wipe_length]; exact hl)]
          · rw [if_neg hl, List.getElem?_eq_none (by rw [List.length_set, wipe_length]; omega)]
        · rw [List.getElem?_set_ne hv]
          exact ih (by
            rcases List.mem_cons.mp hi with e | e
            · exact absurd e.symm hv
            · exact e)
    rw [key, key, a.1]
  · rw [wipe_out hi, wipe_out hi, a.2 i hi]

def gT (G : Gh) (t : Tg) : TG := fun v σ H Q => ∃ F own env c as env', ER G.K G.F0 G.H0 F H σ env own ∧ TR G.K G.H0 F H own v c as ∧ asgT t c env = some env' ∧
  ∀ σ' own', ER G.K G.F0 G.H0 F H σ' env' own' → Agr t.slots σ σ' → (∀ i a, a ∈ own' i → a ∈ own i ∨ a ∈ as) → Q σ' H
def gTs (G : Gh) (ts : Tgs) : TGs := fun vs σ H Q => ∃ F own env ds env', ER G.K G.F0 G.H0 F H σ env own ∧ DRs G.K F vs ds ∧ asgTs ts ds env = some env' ∧
  ∀ σ' own', ER G.K G.F0 G.H0 F H σ' env' own' → Agr ts.slots σ σ' → (∀ i a, a ∈ own' i → a ∈ own i) → Q σ' H

theorem asgEach_cons {e : Expr} {es : List Expr} {env : PySem.Env} (h : plainE e = true) : assignEach (e :: es) env = (false, assign e env) :: assignEach es env := by
  cases e <;> first | rfl | cases h
theorem PG.imp {X : Cx} {e : Expr} {t t' : TG} (h : PG X e t) (i : ∀ v σ H Q, t' v σ H Q → t v σ H Q) : PG X e t' := ⟨fun pins s σ H v u Q I r q => h.run pins s σ H v u Q I r (i v σ H Q q)⟩
theorem PGs.imp {X : Cx} {e : List Expr} {t t' : TGs} (h : PGs X e t) (i : ∀ v σ H Q, t' v σ H Q → t v σ H Q) : PGs X e t' := ⟨fun pins s σ H v u Q I r q => h.run pins s σ H v u Q I r (i v σ H Q q)⟩

theorem loc_of {sc : Scope} {N : List Str} {i : Nat} {x : Str} (h : locB sc N i x = true) : N[i]? = some x ∧ (sc.names.lookup x = some .local ∨ sc.names.lookup x = some .cell) ∧ nameOk x = true := by
  unfold locB at h
  simp only [Bool.and_eq_true, decide_eq_true_eq] at h
  refine ⟨h.1, ?_, h.2.2⟩
  have q := h.2.1
  split at q
  · rename_i e; exact .inl e
  · rename_i e; exact .inr e
  · cases q
theorem vis_of {sc : Scope} {N : List Str} {i : Nat} {x : Str} (h : visB sc N i x = true) : N[i]? = some x ∧ Vis sc x ∧ nameOk x = true := by
  unfold visB at h
  simp only [Bool.and_eq_true, decide_eq_true_eq] at h
  refine ⟨h.1, ?_, h.2.2⟩
  have q := h.2.1
  split at q
  · rename_i e; exact .inl e
  · rename_i e; exact .inr (.inl e)
  · rename_i e; exact .inr (.inr e)
  · cases q
theorem nameOk_of {x : Str} (h : nameOk x = true) : (x == ("__debug__" : Str)) = false ∧ (x == ("__classdict__" : Str)) = false ∧ x ≠ "__name__" := by
  unfold nameOk at h
  simp only [Bool.and_eq_true, Bool.not_eq_true', beq_eq_false_iff_ne] at h
  exact ⟨by simpa using h.1, by simpa using h.2.1, h.2.2⟩

/-- what a context must have for names to be stored -/
structure Nm (sc : Scope) (N : List Str) (X : Cx) : Prop where
  calm : X.calm = true
  names : X.N = N
  nd : N.Nodup
  loc : ∀ x, sc.names.lookup x = some .local → X.env.scope.names.lookup x = some .local
  cell : ∀ x, sc.names.lookup x = some .cell → X.env.scope.names.lookup x = some .cell ∧ X.fn x = true

section
variable {sc : Scope} {N : List Str} {X : Cx} {G : Gh}
mutual
theorem soundTg (nm : Nm sc N X) (hK : G.K = X.K) : ∀ (t : Tg) (e : Expr), chkTg sc N t e = true → PG X e (gT G t)
  | .var i, e, h => by
    unfold chkTg at h
    split at h
    · rename_i x p
      obtain ⟨h1, h2, h3⟩ := loc_of h
      refine PG.imp (pg_name (i := i) (by rw [nm.names]; exact nm.nd) (by rw [nm.names]; exact h1) ?_ ?_) fun v σ H Q q => ?_
      · rcases h2 with h2 | h2
        · exact .inl (nm.loc x h2)
        · exact .inr (nm.cell x h2).1
      · rcases h2 with h2 | h2
        · exact .inr (nm.loc x h2)
        · exact .inl (nm.cell x h2).2
      · obtain ⟨F, own, env, c, as, env', er, t, ea, k⟩ := q
        unfold asgT at ea
        split at ea
        · rename_i hi
          cases ea
          refine k _ _ (er.store t i hi) ⟨List.length_set .., fun j hj => ?_⟩ fun j a ha => ?_
          · exact List.getElem?_set_ne fun e => hj (by simp [Tg.slots, e])
          · by_cases hj : j = i
            · rw [if_pos hj] at ha
              exact .inr ha
            · rw [if_neg hj] at ha
              exact .inl ha
        · cases ea
    · cases h
  | .tup ts, e, h => by
    unfold chkTg at h
    split at h
    · rename_i l k p
      obtain ⟨hs, hp⟩ := soundTgs nm hK ts l h
      have hlen : (assignEach l X.env).length = l.length ∧ (assignEach l X.env).findIdx? (·.1) = none := by
        clear hs h
        induction l with
        | nil => exact ⟨rfl, rfl⟩
        | cons e es ih =>
          obtain ⟨q1, q2⟩ := ih fun x hx => hp x (List.mem_cons_of_mem _ hx)
          rw [asgEach_cons (hp e (List.mem_cons_self ..))]
          refine ⟨by simp [q1], ?_⟩
          rw [List.findIdx?_cons]
          simp [q2]
      refine PG.imp (pg_tup nm.calm hs hlen.1 hlen.2) fun v σ H Q q => ?_
      obtain ⟨F, own, env, c, as, env', er, t, ea, k⟩ := q
      unfold asgT at ea
      split at ea
      · rename_i ds
        obtain ⟨a, vs, ev, hv, dv⟩ : ∃ a vs, v = .ref a ∧ SqT G.K F a vs ∧ DRs G.K F vs ds := by
          cases t.cr with
          | fz dr => exact dr.unT
        have hl2 : vs.length = l.length := by
          rw [dv.length]
          exact lens ts l h ds env env' ea
        refine ⟨a, vs, ev, by rw [← hK]; exact sqT_mono er.fh hv, hl2, ⟨F, own, env, ds, env', er, dv, ea, fun σ' own' er' ag sub => ?_⟩⟩
        exact k σ' own' er' ag fun i a ha => .inl (sub i a ha)
      · cases ea
    · cases h
where
  lens (ts : Tgs) (l : List Expr) (h : chkTgs sc N ts l = true) (ds : List D) (env env' : Env) (ea : asgTs ts ds env = some env') : ds.length = l.length := by
    match ts, l, ds with
    | .n, [], [] => rfl
    | .n, _ :: _, _ => simp [chkTgs] at h
    | .n, [], _ :: _ => simp [asgTs] at ea
    | .c t ts, e :: es, d :: ds =>
      unfold chkTgs at h
      simp only [Bool.and_eq_true] at h
      unfold asgTs at ea
      obtain ⟨env1, _, e2⟩ := Option.bind_eq_some_iff.mp ea
      simp [lens ts es h.2.2 ds env1 env' e2]
    | .c t ts, [], _ => simp [chkTgs] at h
    | .c t ts, _ :: _, [] => simp [asgTs] at ea
theorem soundTgs (nm : Nm sc N X) (hK : G.K = X.K) : ∀ (ts : Tgs) (es : List Expr), chkTgs sc N ts es = true → PGs X es (gTs G ts) ∧ ∀ e ∈ es, plainE e = true
  | .n, es, h => by
    unfold chkTgs at h
    split at h
    · refine ⟨PGs.imp pgs_nil fun vs σ H Q q => ?_, fun e he => absurd he (by simp)⟩
      obtain ⟨F, own, env, ds, env', er, dv, ea, k⟩ := q
      cases ds with
      | nil =>
        simp only [asgTs, Option.some.injEq] at ea
        subst ea
        exact ⟨dv.nl, k σ own er Agr.refl fun _ _ h => h⟩
      | cons d ds => simp [asgTs] at ea
    · cases h
  | .c t ts, es, h => by
    unfold chkTgs at h
    split at h
    · rename_i e es
      simp only [Bool.and_eq_true] at h
      have h1 := soundTg nm hK t e h.2.1
      obtain ⟨h2, hp⟩ := soundTgs nm hK ts es h.2.2
      refine ⟨PGs.imp (pgs_cons h1 h2 (by rw [asgEach_cons h.1]; rfl)) fun vs σ H Q q => ?_, fun x hx => ?_⟩
      · obtain ⟨F, own, env, ds, env', er, dv, ea, k⟩ := q
        cases ds with
        | nil => simp [asgTs] at ea
        | cons d ds =>
          unfold asgTs at ea
          obtain ⟨env1, e1, e2⟩ := Option.bind_eq_some_iff.mp ea
          obtain ⟨v, vs', ev, dr, drs⟩ := dv.hd
          refine ⟨v, vs', ev, F, own, env, .fz d, [], env1, er, TR.fz dr, e1, fun σ1 own1 er1 ag1 sub1 => ?_⟩
          refine ⟨F, own1, env1, ds, env', er1, drs, e2, fun σ2 own2 er2 ag2 sub2 => ?_⟩
          refine k σ2 own2 er2 (ag1.trans ag2) fun i a ha => ?_
          rcases sub1 i a (sub2 i a ha) with z | z
          · exact z
          · cases z
      · rcases List.mem_cons.mp hx with e | hx
        · rw [e]; exact h.1
        · exact hp x hx
    · cases h
end
end
end PD

end

section
set_option Elab.async false
set_option linter.all false
set_option autoImplicit false
set_option maxRecDepth 100000
/-! What is walked. Own work. -/
namespace PD
open PySem PySem.Spec L2

def ItOk (K : PySem.W.Frag) (F : Hp) (J : L2.It) (ds : List D) : Prop := ∀ F1 H1, Same F F1 → Same F1 H1 →
  (∀ (i : Nat) (d : D), ds[i]? = some d → J.go i H1 ∧ ∀ x H2, J.yld i H1 x H2 → ∃ F2, Grow F1 H1 F2 H2 ∧ DR K F2 x d) ∧ J.stop ds.length H1
def relI (G : Gh) : Rel (List D) L2.It := fun _ F _ _ J ds => ItOk G.K F J ds
theorem relI_mono {G : Gh} : (relI G).Mono := fun _ _ _ _ _ _ _ _ h => h

section
variable {K : PySem.W.Frag} {F : Hp}
theorem itok_list {a : Addr} {vs : List V} {ds : List D} (h : SqL K F a vs) (dv : DRs K F vs ds) : ItOk K F (Itl K a) ds := by
  intro F1 H1 s1 s2
  have q : SqL K H1 a vs := sqL_mono (s1.trans s2) h
  refine ⟨fun i d e => ?_, ⟨vs, q, by rw [dv.length]; exact Nat.le_refl _⟩⟩
  obtain ⟨v, ev, dr⟩ := dv.get e
  refine ⟨⟨vs, v, q, ev⟩, fun x H2 y => ?_⟩
  obtain ⟨e2, y⟩ := y
  subst e2
  have := y vs q
  rw [ev] at this
  cases this
  exact ⟨F1, Grow.refl s2, dr.mono s1⟩
theorem itok_tup {a : Addr} {vs : List V} {ds : List D} (h : SqT K F a vs) (dv : DRs K F vs ds) : ItOk K F (Itt K a) ds := by
  intro F1 H1 s1 s2
  have q : SqT K H1 a vs := sqT_mono (s1.trans s2) h
  refine ⟨fun i d e => ?_, ⟨vs, q, by rw [dv.length]; exact Nat.le_refl _⟩⟩
  obtain ⟨v, ev, dr⟩ := dv.get e
  refine ⟨⟨vs, v, q, ev⟩, fun x H2 y => ?_⟩
  obtain ⟨e2, y⟩ := y
  subst e2
  have := y vs q
  rw [ev] at this
  cases this
  exact ⟨F1, Grow.refl s2, dr.mono s1⟩
theorem itok_str {x : Str} (hx : okD (.str x) = true) : ItOk K F (Its x) (strDs x) := by
  intro F1 H1 s1 s2
  refine ⟨fun i d e => ?_, ?_⟩
  · unfold strDs at e
    rw [List.getElem?_map] at e
    obtain ⟨c, e1, e2⟩ := Option.map_eq_some_iff.mp e
    subst e2
    have e1' : x.cps[i]? = some c := by rw [← Array.getElem?_toList]; exact e1
    have hi : i < x.cps.size := by
      obtain ⟨hi, _⟩ := Array.getElem?_eq_some_iff.mp e1'
      exact hi
    refine ⟨hi, fun v H2 y => ?_⟩
    obtain ⟨e2, c', e3, e4⟩ := y
    subst e2
    rw [e1'] at e3
    cases e3
    subst e4
    exact ⟨F1, Grow.refl s2, .str (ok_one (str_cps hx c (List.mem_of_getElem? e1)))⟩
  · show x.cps.size ≤ (strDs x).length
    unfold strDs
    rw [List.length_map, Array.length_toList]
    exact Nat.le_refl _
theorem itok_rng (lo : Int) (n : Nat) : ItOk K F (Itr lo n) (rngD lo n) := by
  intro F1 H1 s1 s2
  refine ⟨fun i d e => ?_, ?_⟩
  · unfold rngD at e
    rw [List.getElem?_map] at e
    obtain ⟨c, e1, e2⟩ := Option.map_eq_some_iff.mp e
    obtain ⟨hi, e3⟩ := List.getElem?_eq_some_iff.mp e1
    rw [List.length_range] at hi
    rw [List.getElem_range] at e3
    subst e3 e2
    refine ⟨hi, fun v H2 y => ?_⟩
    obtain ⟨e2, e4⟩ := y
    subst e2 e4
    exact ⟨F1, Grow.refl s2, .int _⟩
  · show n ≤ (rngD lo n).length
    unfold rngD
    rw [List.length_map, List.length_range]
    exact Nat.le_refl _
theorem enumD_get : ∀ (ds : List D) (n i : Nat), (enumD n ds)[i]? = (ds[i]?).map fun d => PyData.tuple [.int ((n + i : Nat) : Int), d]
  | [], n, i => by simp [enumD]
  | d :: ds, n, 0 => by simp [enumD]
  | d :: ds, n, i + 1 => by
    simp only [enumD, List.getElem?_cons_succ]
    rw [enumD_get ds (n + 1) i]
    have : n + 1 + i = n + (i + 1) := by omega
    rw [this]
theorem enumD_len (ds : List D) : ∀ n, (enumD n ds).length = ds.length := by
  induction ds with
  | nil => intro n; rfl
  | cons d ds ih => intro n; simp [enumD, ih]
theorem itok_enum {a : Addr} {vs : List V} {ds : List D} (h : SqL K F a vs) (dv : DRs K F vs ds) : ItOk K F (Ite K a) (enumD 0 ds) := by
  intro F1 H1 s1 s2
  have q : SqL K H1 a vs := sqL_mono (s1.trans s2) h
  refine ⟨fun i d e => ?_, ⟨vs, q, by rw [enumD_len, dv.length]; exact Nat.le_refl _⟩⟩
  rw [enumD_get] at e
  obtain ⟨d0, e1, e2⟩ := Option.map_eq_some_iff.mp e
  subst e2
  obtain ⟨v, ev, dr⟩ := dv.get e1
  refine ⟨⟨vs, v, q, ev⟩, fun x H2 y => ?_⟩
  obtain ⟨T, x', ex, hT, eH, y⟩ := y
  subst ex eH
  have := y vs q
  rw [ev] at this
  cases this
  have g := grow_fix (o := .tup [.int (i : Nat), v]) s2 hT
  refine ⟨_, g, .tup (.of upd_same) (.cons ?_ (.cons (dr.mono (s1.trans g.sF)) .nil))⟩
  rw [Nat.zero_add]
  exact .int _
theorem zipD_get : ∀ (ds es : List D) (i : Nat) (p : D), (zipD ds es)[i]? = some p → ∃ d e, ds[i]? = some d ∧ es[i]? = some e ∧ p = .tuple [d, e]
  | [], es, i, p, h => by simp [zipD] at h
  | d :: ds, [], i, p, h => by simp [zipD] at h
  | d :: ds, e :: es, 0, p, h => by
    simp only [zipD, List.getElem?_cons_zero, Option.some.injEq] at h
    exact ⟨d, e, rfl, rfl, h.symm⟩
  | d :: ds, e :: es, i + 1, p, h => by
    simp only [zipD, List.getElem?_cons_succ] at h
    exact zipD_get ds es i p h
theorem zipD_len : ∀ (ds es : List D), (zipD ds es).length = min ds.length es.length
  | [], es => by simp [zipD]
  | d :: ds, [] => by simp [zipD]
  | d :: ds, e :: es => by
    simp only [zipD, List.length_cons, zipD_len ds es]
    omega
theorem itok_zip {a b : Addr} {vs ws : List V} {ds es : List D} (h : SqL K F a vs) (dv : DRs K F vs ds) (h' : SqL K F b ws) (dw : DRs K F ws es) : ItOk K F (Itz K a b) (zipD ds es) := by
  intro F1 H1 s1 s2
  have q : SqL K H1 a vs := sqL_mono (s1.trans s2) h
  have q' : SqL K H1 b ws := sqL_mono (s1.trans s2) h'
  refine ⟨fun i d e => ?_, ⟨vs, ws, q, q', by rw [zipD_len, dv.length, dw.length]; omega⟩⟩
  obtain ⟨d1, d2, e1, e2, e3⟩ := zipD_get _ _ _ _ e
  subst e3
  obtain ⟨v, ev, dr⟩ := dv.get e1
  obtain ⟨w, ew, dr'⟩ := dw.get e2
  refine ⟨⟨vs, ws, v, w, q, q', ev, ew⟩, fun x H2 y => ?_⟩
  obtain ⟨T, x', y', ex, hT, eH, y1, y2⟩ := y
  subst ex eH
  have z1 := y1 vs q
  rw [ev] at z1
  cases z1
  have z2 := y2 ws q'
  rw [ew] at z2
  cases z2
  have g := grow_fix (o := .tup [v, w]) s2 hT
  exact ⟨_, g, .tup (.of upd_same) (.cons (dr.mono (s1.trans g.sF)) (.cons (dr'.mono (s1.trans g.sF)) .nil))⟩
theorem itok_rev {a : Addr} {vs : List V} {ds : List D} (h : SqL K F a vs) (dv : DRs K F vs ds) : ItOk K F (Itv K a vs.length) ds.reverse := by
  intro F1 H1 s1 s2
  have q : SqL K H1 a vs := sqL_mono (s1.trans s2) h
  refine ⟨fun i d e => ?_, ?_⟩
  · obtain ⟨hi, _⟩ := List.getElem?_eq_some_iff.mp e
    rw [List.length_reverse] at hi
    have hl := dv.length
    rw [List.getElem?_reverse hi] at e
    obtain ⟨v, ev, dr⟩ := dv.get e
    have e2 : vs.length - 1 - i = ds.length - 1 - i := by omega
    refine ⟨⟨by omega, vs, v, q, by rw [e2]; exact ev⟩, fun x H2 y => ?_⟩
    obtain ⟨e3, y⟩ := y
    subst e3
    have z := y vs q
    rw [e2, ev] at z
    cases z
    exact ⟨F1, Grow.refl s2, dr.mono s1⟩
  · show vs.length ≤ ds.reverse.length
    rw [List.length_reverse, dv.length]
    exact Nat.le_refl _
end

section
variable {X : Cx} {G : Gh} {tg e : Expr} {ra : Env → Res Cell}
theorem lift_rev (hK : G.K = X.K) {σ : L2.St} {H : Hp} {R : L2.It → Hp → Prop} (h : Lift G (relI G) (fun env => (ra env).bind fun c env => match c.d with
    | .list ds => .ok ds.reverse env
    | _ => .bad) σ H R) : iRev X.K (tCons (Lift G (relE G) ra) tNil) σ H R := by
  obtain ⟨F, own, env, er, h⟩ := h
  refine ⟨F, own, env, er, h.step fun c env1 _ F1 H1 own1 v er1 s1 rl h1 => ?_⟩
  obtain ⟨F2, er2, s2, _, dr⟩ := fix_of er1 s1 rl
  try dsimp only at h1
  split at h1
  · rename_i ds e
    rw [e] at dr
    obtain ⟨a, vs, ev, hv, dv⟩ := dr.unL
    refine ⟨a, vs, by rw [ev], by rw [← hK]; exact sqL_mono er2.fh hv, h1 F2 H1 own1 _ er2 s2 ?_⟩
    rw [← hK]
    exact itok_rev hv dv
  · exact h1.elim
theorem pi_seq (he : PE X e (Lift G (relE G) ra)) (hK : G.K = X.K) : PI X tg e (Lift G (relI G) (fun env => (ra env).bind fun c env => Res.of (seqD c.d) env)) := by
  refine ⟨fun pins s σ H Q I h => ?_⟩
  obtain ⟨F, own, env, er, h⟩ := h
  try dsimp only at h
  cases hr : ra env with
  | bad => rw [hr] at h; exact h.elim
  | exc x env1 =>
    refine (pi_list he).run pins s σ H Q I ⟨F, own, env, er, h.step fun c env1 e2 => ?_⟩
    rw [hr] at e2
    cases e2
  | ok c env1 =>
    have key : ∀ {Q' : V → Hp → Prop}, (∀ F' H1 own1 v, ER G.K G.F0 G.H0 F' H1 σ env1 own1 → Stp F H own F' H1 own1 → DR G.K F' v c.d → At G (relI G) σ F H own (Res.of (seqD c.d) env1) Q → Q' v H1) → Lift G (relE G) ra σ H Q' := by
      intro Q' k
      refine ⟨F, own, env, er, h.step fun c' env1' e2 F1 H1 own1 v er1 s1 rl h1 => ?_⟩
      rw [hr] at e2
      cases e2
      obtain ⟨F2, er2, s2, _, dr⟩ := fix_of er1 s1 rl
      exact k F2 H1 own1 v er2 s2 dr h1
    cases hd : c.d with
    | list ds =>
      refine (pi_list he).run pins s σ H Q I (key fun F' H1 own1 v er1 s1 dr h1 => ?_)
      rw [hd] at dr h1
      obtain ⟨a, vs, ev, hv, dv⟩ := dr.unL
      refine ⟨a, ev, ⟨vs, by rw [← hK]; exact sqL_mono er1.fh hv⟩, h1 F' H1 own1 _ er1 s1 ?_⟩
      rw [← hK]
      exact itok_list hv dv
    | tuple ds =>
      refine (pi_tup he).run pins s σ H Q I (key fun F' H1 own1 v er1 s1 dr h1 => ?_)
      rw [hd] at dr h1
      obtain ⟨a, vs, ev, hv, dv⟩ := dr.unT
      refine ⟨a, ev, ⟨vs, by rw [← hK]; exact sqT_mono er1.fh hv⟩, h1 F' H1 own1 _ er1 s1 ?_⟩
      rw [← hK]
      exact itok_tup hv dv
    | str x =>
      refine (pi_str he).run pins s σ H Q I (key fun F' H1 own1 v er1 s1 dr h1 => ?_)
      rw [hd] at dr h1
      exact ⟨x, dr.unS, h1 F' H1 own1 _ er1 s1 (itok_str dr.ok)⟩
    | none => rw [hr] at h; have h : At G (relI G) σ F H own (Res.of (seqD c.d) env1) Q := h; rw [hd] at h; exact h.elim
    | bool b => rw [hr] at h; have h : At G (relI G) σ F H own (Res.of (seqD c.d) env1) Q := h; rw [hd] at h; exact h.elim
    | int b => rw [hr] at h; have h : At G (relI G) σ F H own (Res.of (seqD c.d) env1) Q := h; rw [hd] at h; exact h.elim
    | dict b => rw [hr] at h; have h : At G (relI G) σ F H own (Res.of (seqD c.d) env1) Q := h; rw [hd] at h; exact h.elim

theorem pa_one {e : Expr} {t : TE} (h : PE X e t) (hp : plainE e = true) : PA X [e] (tCons t tNil) := pa_cons h pa_nil (by cases e <;> first | rfl | cases hp)
theorem star_cons {e : Expr} {es : List Expr} {env : PySem.Env} (hp : plainE e = true) : starEach (e :: es) env = (false, eval e env) :: starEach es env := by cases e <;> first | rfl | cases hp
theorem pa_two {e f : Expr} {t u : TE} (h : PE X e t) (hf : PE X f u) (hp : plainE e = true) (hq : plainE f = true) : PA X [e, f] (tCons t (tCons u tNil)) := pa_cons h (pa_one hf hq) (star_cons hp)

theorem small62_of {i : Int} (h : small62 i = true) : -(2 ^ 62) ≤ i ∧ i < 2 ^ 62 := by
  unfold small62 at h
  rw [decide_eq_true_eq] at h
  omega
theorem lift_rng1 {σ : L2.St} {H : Hp} {R : L2.It → Hp → Prop} (h : Lift G (relI G) (fun env => (ra env).bind fun c env => match c.d with
    | .int j => if small62 j then .ok (rngD 0 j.toNat) env else .bad
    | _ => .bad) σ H R) : iRng1 (tCons (Lift G (relE G) ra) tNil) σ H R := by
  obtain ⟨F, own, env, er, h⟩ := h
  refine ⟨F, own, env, er, h.step fun c env1 _ F1 H1 own1 v er1 s1 rl h1 => ?_⟩
  obtain ⟨F2, er2, s2, _, dr⟩ := fix_of er1 s1 rl
  try dsimp only at h1
  split at h1
  · rename_i j e
    rw [e] at dr
    split at h1
    · rename_i hs
      obtain ⟨b1, b2⟩ := small62_of hs
      exact ⟨j, by rw [dr.unI], b1, b2, h1 F2 H1 own1 _ er2 s2 (itok_rng 0 _)⟩
    · exact h1.elim
  · exact h1.elim
theorem lift_rng2 {rb : Env → Res Cell} {σ : L2.St} {H : Hp} {R : L2.It → Hp → Prop} (h : Lift G (relI G) (fun env => (ra env).bind fun c env => (rb env).bind fun c' env => match c.d, c'.d with
    | .int i, .int j => if small62 i && small62 j then .ok (rngD i (j - i).toNat) env else .bad
    | _, _ => .bad) σ H R) : iRng2 (tCons (Lift G (relE G) ra) (tCons (Lift G (relE G) rb) tNil)) σ H R := by
  obtain ⟨F, own, env, er, h⟩ := h
  refine ⟨F, own, env, er, h.step fun c env1 _ F1 H1 own1 v er1 s1 rl h1 => ?_⟩
  obtain ⟨F2, er2, s2, _, dr⟩ := fix_of er1 s1 rl
  refine ⟨F2, own1, env1, er2, (h1.mono relI_mono s2).step fun c' env2 _ F3 H3 own3 v' er3 s3 rl' h2 => ?_⟩
  obtain ⟨F4, er4, s4, _, dr'⟩ := fix_of er3 s3 rl'
  try dsimp only at h2
  split at h2
  · rename_i i j e1 e2
    rw [e1] at dr
    rw [e2] at dr'
    split at h2
    · rename_i hs
      rw [Bool.and_eq_true] at hs
      obtain ⟨b1, b2⟩ := small62_of hs.1
      obtain ⟨b3, b4⟩ := small62_of hs.2
      exact ⟨i, j, by rw [dr.unI, dr'.unI], ⟨b1, b2, b3, b4⟩, h2 F4 H3 own3 _ er4 s4 (itok_rng i _)⟩
    · exact h2.elim
  · exact h2.elim
theorem lift_enum (hK : G.K = X.K) {σ : L2.St} {H : Hp} {R : L2.It → Hp → Prop} (h : Lift G (relI G) (fun env => (ra env).bind fun c env => match c.d with
    | .list ds => .ok (enumD 0 ds) env
    | _ => .bad) σ H R) : iEnum X.K (tCons (Lift G (relE G) ra) tNil) σ H R := by
  obtain ⟨F, own, env, er, h⟩ := h
  refine ⟨F, own, env, er, h.step fun c env1 _ F1 H1 own1 v er1 s1 rl h1 => ?_⟩
  obtain ⟨F2, er2, s2, _, dr⟩ := fix_of er1 s1 rl
  try dsimp only at h1
  split at h1
  · rename_i ds e
    rw [e] at dr
    obtain ⟨a, vs, ev, hv, dv⟩ := dr.unL
    refine ⟨a, vs, by rw [ev], by rw [← hK]; exact sqL_mono er2.fh hv, h1 F2 H1 own1 _ er2 s2 ?_⟩
    rw [← hK]
    exact itok_enum hv dv
  · exact h1.elim
theorem lift_zip (hK : G.K = X.K) {rb : Env → Res Cell} {σ : L2.St} {H : Hp} {R : L2.It → Hp → Prop} (h : Lift G (relI G) (fun env => (ra env).bind fun c env => (rb env).bind fun c' env => match c.d, c'.d with
    | .list ds, .list es => .ok (zipD ds es) env
    | _, _ => .bad) σ H R) : iZip X.K (tCons (Lift G (relE G) ra) (tCons (Lift G (relE G) rb) tNil)) σ H R := by
  obtain ⟨F, own, env, er, h⟩ := h
  refine ⟨F, own, env, er, h.step fun c env1 _ F1 H1 own1 v er1 s1 rl h1 => ?_⟩
  obtain ⟨F2, er2, s2, _, dr⟩ := fix_of er1 s1 rl
  refine ⟨F2, own1, env1, er2, (h1.mono relI_mono s2).step fun c' env2 _ F3 H3 own3 v' er3 s3 rl' h2 => ?_⟩
  obtain ⟨F4, er4, s4, sF, dr'⟩ := fix_of er3 s3 rl'
  try dsimp only at h2
  split at h2
  · rename_i ds es e1 e2
    rw [e1] at dr
    rw [e2] at dr'
    obtain ⟨a, vs, ev, hv, dv⟩ := (dr.mono s4.sF).unL
    obtain ⟨b, ws, ew, hw, dw⟩ := dr'.unL
    refine ⟨a, b, vs, ws, by rw [ev, ew], by rw [← hK]; exact sqL_mono er4.fh hv, by rw [← hK]; exact sqL_mono er4.fh hw, h2 F4 H3 own3 _ er4 s4 ?_⟩
    rw [← hK]
    exact itok_zip hv dv hw dw
  · exact h2.elim
end
end PD

end

section
set_option Elab.async false
set_option linter.all false
set_option autoImplicit false
set_option maxRecDepth 100000
/-! A list comprehension. Own work. -/
namespace PD
open PySem PySem.Spec L2
section
variable {K : PySem.W.Frag} {F0 H0 F H : Hp} {σ : L2.St} {env : Env} {own : Nat → List Addr}
theorem ER.updOff (r : ER K F0 H0 F H σ env own) {a : Addr} {o : HO} (h1 : F a = none) (h2 : H0 a = none) (h3 : ∀ i, a ∉ own i) : ER K F0 H0 F (upd H a o) σ env own := by
  have ne : ∀ i b, b ∈ own i → b ≠ a := fun i b hb z => h3 i (z ▸ hb)
  refine { f0 := r.f0, fh := fun b u e => ?_, h0 := fun b u e => ?_, nw := r.nw, len := r.len, sl := fun j c h => ?_, ap := r.ap, fr := fun j b h => ?_ }
  · rw [upd_ne (fun z => by rw [z, h1] at e; cases e)]
    exact r.fh b u e
  · rw [upd_ne (fun z => by rw [z, h2] at e; cases e)]
    exact r.h0 b u e
  · obtain ⟨v, ev, q⟩ := r.sl j c h
    exact ⟨v, ev, q.mono (Same.refl _) (fun b hb => (r.fr j b hb).2.1) fun b hb => upd_ne (ne j b hb)⟩
  · rw [upd_ne (ne j b h)]
    exact r.fr j b h
theorem wipe_wipe (σ : L2.St) (vs : List Nat) : wipe (wipe σ vs) vs = wipe σ vs := wipe_agr ⟨wipe_length σ vs, fun i hi => wipe_out hi⟩
theorem ER.unwipe {vs : List Nat} (r : ER K F0 H0 F H (wipe σ vs) env own) : ER K F0 H0 F H σ env own :=
  r.slots (wipe_length σ vs).symm fun i c v _ e => (wipe_some e).1
theorem ER.wipes (r : ER K F0 H0 F H σ env own) (vs : List Nat) : ER K F0 H0 F H (wipe σ vs) (wipeE env vs) own :=
  (r.forgets vs).slots (wipe_length σ vs) fun i c v e1 e2 => by
    rw [wipe_out (wipeE_some e1).2]
    exact e2
end
def Gh.no (G : Gh) : Gh := { G with E := fun _ _ _ => False, em := fun _ _ _ _ _ z => z }
theorem nox_ok {α : Type} {r : Res α} {a : α} {env : Env} (h : r.nox = .ok a env) : r = .ok a env := by
  cases r with
  | ok b e => exact h
  | exc _ _ => cases h
  | bad => cases h
theorem bind_ok {α β : Type} {r : Res α} {f : α → Env → Res β} {b : β} {env : Env} (h : r.bind f = .ok b env) : ∃ a env1, r = .ok a env1 ∧ f a env1 = .ok b env := by
  cases r with
  | ok a e => exact ⟨a, e, rfl, h⟩
  | exc _ _ => cases h
  | bad => cases h
section
variable {G : Gh} {σ : L2.St} {H : Hp} {Q : VK} {rI : Env → Res (List D)} {t : Tg} {vs : List Nat} {rt : Env → Res Bool} {re : Env → Res Cell}
theorem lift_comp (hsl : ∀ i ∈ t.slots, i ∈ vs)
    (h : Lift G (relE G) (fun env => (rI env).bind fun ds env => (lcT vs (fun d env => asgT t (.fz d) env) rt re ds [] (wipeE env vs)).nox.bind fun out env => .ok (.ow out) env) σ H Q) :
    tLc (Lift G (relI G) rI) (gT G.no t) (Lift G.no relT rt) (Lift G.no (relE G.no) re) vs σ H Q := by
  obtain ⟨F, own, env, er, h⟩ := h
  refine ⟨F, own, env, er, h.step fun ds env1 _ F1 H1 own1 J er1 s1 it h1 => ?_⟩
  intro A hA
  cases e0 : (lcT vs (fun d env => asgT t (.fz d) env) rt re ds [] (wipeE env1 vs)).nox with
  | bad => rw [e0] at h1; exact h1.elim
  | exc x ee =>
    rw [e0] at h1
    cases e1 : lcT vs (fun d env => asgT t (.fz d) env) rt re ds [] (wipeE env1 vs) with
    | ok a b => rw [e1] at e0; cases e0
    | exc a b => rw [e1] at e0; cases e0
    | bad => rw [e1] at e0; cases e0
  | ok out env2 =>
  rw [e0] at h1
  have e0 := nox_ok e0
  have fA : F1 A = none := Same.free er1.fh hA
  have h0A : G.H0 A = none := none_of_same er1.h0 hA
  have oA : ∀ i, A ∉ own1 i := fun i hi => (er1.fr i A hi).2.2 hA
  refine ⟨fun i m Hc => m + i = ds.length ∧ ∃ F2 own2 env3 accv acc, ER G.K G.F0 G.H0 F2 Hc (wipe σ vs) env3 own2 ∧ Stp F1 H1 own1 F2 Hc own2 ∧ Hc A = some (.lst accv) ∧ DRs G.K F2 accv acc ∧ F2 A = none ∧ (∀ i, A ∉ own2 i) ∧
      lcT vs (fun d env => asgT t (.fz d) env) rt re (ds.drop i) acc env3 = .ok out env2, ⟨ds.length, rfl, F1, own1, wipeE env1 vs, [], [], ?_, ?_, upd_same, DRs.nil, fA, oA, e0⟩, ?_⟩
  · exact (er1.wipes vs).updOff fA h0A oA
  · exact (grow_new er1.fh hA).stp
  rintro i m Hc ⟨hm, F2, own2, env3, accv, acc, er2, st2, hHA, dacc, fA2, oA2, e2⟩
  obtain ⟨turn, stop⟩ := it F2 Hc st2.sF er2.fh
  by_cases hi : i < ds.length
  · have ei : ds[i]? = some ds[i] := List.getElem?_eq_getElem hi
    obtain ⟨go, yld⟩ := turn i _ ei
    refine .inr ⟨go, _, fun H' q => q, fun x H' y => ?_⟩
    obtain ⟨F3, g3, dr⟩ := yld x H' y
    rw [List.drop_eq_getElem_cons hi] at e2
    unfold lcT at e2
    split at e2
    · cases e2
    rename_i env4 e4
    have hHA3 : H' A = some (.lst accv) := g3.sH _ _ hHA
    have fA3 : F3 A = none := g3.off fA2 (by rw [hHA]; simp)
    refine ⟨F3, own2, env3, .fz ds[i], [], env4, er2.grow g3, TR.fz dr, e4, fun σ2 own3 er3 ag sub => ?_⟩
    have ag' := ag.mono hsl
    refine ⟨(wipe_agr ag').trans (wipe_wipe σ vs), ?_⟩
    have oA3 : ∀ i, A ∉ own3 i := fun j hj => by
      rcases sub j A hj with z | z
      · exact oA2 j z
      · cases z
    obtain ⟨b, env5, e5, e6⟩ := bind_ok e2
    have e5 := nox_ok e5
    refine ⟨F3, own3, env4, er3, ?_⟩
    rw [e5]
    intro F5 H5 own5 b' er5 s5 eb
    have eb : b' = b := eb
    subst eb
    have off : ∀ {Fx Hx : Hp} {ownx : Nat → List Addr} {Fy Hy : Hp} {owny : Nat → List Addr}, Stp Fx Hx ownx Fy Hy owny → Fx A = none → Hx A = some (.lst accv) → (∀ i, A ∉ ownx i) → Fy A = none ∧ Hy A = some (.lst accv) ∧ ∀ i, A ∉ owny i := by
      intro Fx Hx ownx Fy Hy owny st a1 a2 a3
      refine ⟨?_, st.sH _ _ a2, fun i hi => a3 i (st.sub i A hi)⟩
      cases z : Fy A with
      | none => rfl
      | some o =>
        rcases st.nf A (by rw [z]; simp) with q | q | ⟨j, q⟩
        · exact absurd a1 q
        · rw [a2] at q; cases q
        · exact absurd q (a3 j)
    obtain ⟨fA5, hA5, oA5⟩ := off s5 fA3 hHA3 oA3
    have sub3 : ∀ i a, a ∈ own3 i → a ∈ own2 i := fun j a ha => by
      rcases sub j a ha with z | z
      · exact z
      · cases z
    have st3 : Stp F1 H1 own1 F3 H' own3 := by
      have z := st2.trans (g3.stp (own := own2))
      exact ⟨z.sF, z.sH, z.nf, fun j a ha => z.sub j a (sub3 j a ha)⟩
    -- the turn's end
    have back : ∀ {F6 H6 : Hp} {own6 : Nat → List Addr} {env6 : Env}, ER G.K G.F0 G.H0 F6 H6 σ2 env6 own6 → ER G.K G.F0 G.H0 F6 H6 (wipe σ vs) (wipeE env6 vs) own6 := by
      intro F6 H6 own6 env6 er6
      refine (er6.forgets vs).slots ag'.1.symm fun j c v q1 q2 => ?_
      rw [← ag'.2 j (wipeE_some q1).2]
      exact q2
    cases b' with
    | false =>
      rw [if_neg Bool.false_ne_true]
      refine ⟨m - 1, by omega, by omega, F5, own5, wipeE env5 vs, accv, acc, back er5, st3.trans s5, hA5, dacc.mono (g3.sF.trans s5.sF), fA5, oA5, ?_⟩
      exact e6
    | true =>
      rw [if_pos rfl]
      have e6 : (re env5).nox.bind (fun c env => if acc.length < sizeLine then lcT vs (fun d env => asgT t (.fz d) env) rt re (ds.drop (i + 1)) (acc ++ [c.d]) (wipeE env vs) else .bad) = .ok out env2 := e6
      obtain ⟨c, env6, e7, e8⟩ := bind_ok e6
      have e7 := nox_ok e7
      refine ⟨F5, own5, env5, er5, ?_⟩
      rw [e7]
      intro F6 H6 own6 y er6 s6 rl
      obtain ⟨F7, er7, s7, _, dry⟩ := fix_of (G := G.no) er6 s6 rl
      obtain ⟨fA7, hA7, oA7⟩ := off s7 fA5 hA5 oA5
      by_cases hlen : acc.length < sizeLine
      · rw [if_pos hlen] at e8
        refine ⟨accv, hA7, by rw [dacc.length]; exact hlen, m - 1, by omega, by omega, F7, own6, wipeE env6 vs, accv ++ [y], acc ++ [c.d], ?_, ?_, upd_same, ?_, fA7, oA7, e8⟩
        · exact (back er7).updOff fA7 h0A oA7
        · have z := (st3.trans s5).trans s7
          exact ⟨z.sF, fun b o e => by
            rw [upd_ne (fun q => by rw [q, hA] at e; cases e)]
            exact z.sH b o e, z.nf, z.sub⟩
        · exact (dacc.mono ((g3.sF.trans s5.sF).trans s7.sF)).append (.cons dry .nil)
      · rw [if_neg hlen] at e8
        cases e8
  · have : i = ds.length := by omega
    subst this
    refine .inl ⟨stop, ?_⟩
    rw [List.drop_length] at e2
    unfold lcT at e2
    cases e2
    refine h1 F2 Hc own2 (.ref A) er2.unwipe (s1.trans st2) ⟨[A], ⟨.ow fA2 hHA dacc, fun j a ha => ?_, fun a ha => ?_⟩, fun a ha => ?_⟩
    · rw [List.mem_singleton.mp ha]; exact oA2 j
    · rw [List.mem_singleton.mp ha]; exact h0A
    · rw [List.mem_singleton.mp ha]; exact Same.free s1.sH hA
end
end PD

end

section
set_option Elab.async false
set_option linter.all false
set_option autoImplicit false
set_option maxRecDepth 100000
/-! Every checked expression is read as its interpreter says. Own work. -/
namespace PD
open PySem PySem.Spec L2

section
variable {X : Cx}
theorem opBin {o : O2} {op : Operator} (h : binF o = some op) : OpR X (binaryOp op) (r2D X.K o) := by
  cases o <;> simp only [binF, Option.some.injEq, reduceCtorEq] at h <;> subst h
  · exact bin_add
  · exact bin_sub
  · exact bin_mul
  · exact bin_fdiv
  · exact bin_mod
  · exact bin_pow
theorem opCmp (hu : X.A.units + 65 < cLine) {o : O2} {op : CmpOp} (h : cmpF o = some op) : OpR X (compareOp op) (r2D X.K o) := by
  cases o <;> simp only [cmpF, Option.some.injEq, reduceCtorEq] at h <;> subst h
  · exact cmp_lt
  · exact cmp_le
  · exact cmp_gt
  · exact cmp_ge
  · exact cmp_eq (by omega)
  · exact cmp_ne (by omega)
  · exact cmp_in hu
  · exact cmp_nin hu
theorem cmp_bool {o : O2} {op : CmpOp} (h : cmpF o = some op) {d e : D} {c : Cell} (hc : a2 o d e = some c) : ∃ b, c = .fz (.bool b) := by
  cases o <;> simp only [cmpF, Option.some.injEq, reduceCtorEq] at h
  case eq =>
    have hc : (eqC d e).bind b2 = some c := by simpa only [a2] using hc
    obtain ⟨b, _, e2⟩ := Option.bind_eq_some_iff.mp hc
    exact ⟨_, b2_eq e2⟩
  case ne =>
    have hc : ((eqC d e).bind fun b => b2 (!b)) = some c := by simpa only [a2] using hc
    obtain ⟨b, _, e2⟩ := Option.bind_eq_some_iff.mp hc
    exact ⟨_, b2_eq e2⟩
  case mem =>
    have hc : (memC d e).bind b2 = some c := by simpa only [a2] using hc
    obtain ⟨b, _, e2⟩ := Option.bind_eq_some_iff.mp hc
    exact ⟨_, b2_eq e2⟩
  case nmem =>
    have hc : ((memC d e).bind fun b => b2 (!b)) = some c := by simpa only [a2] using hc
    obtain ⟨b, _, e2⟩ := Option.bind_eq_some_iff.mp hc
    exact ⟨_, b2_eq e2⟩
  all_goals
    cases d <;> cases e <;> simp only [a2, reduceCtorEq] at hc
    exact ⟨_, b2_eq hc⟩
end

section
variable {C : Cfg} {R : RT} {sc : Scope} {N : List Str} {lv : Nat} {G : Gh} {X : Cx}
theorem bind_assoc {α β γ : Type} (r : Res α) (f : α → PD.Env → Res β) (g : β → PD.Env → Res γ) : (r.bind f).bind g = r.bind fun a env => (f a env).bind g := by
  cases r <;> rfl
theorem Good.nmB (g : Good C R sc N lv G X) (s : Shared) (H : Hp) (scope : Scope) (cl : List (Str × Addr)) (Ca : Addr) (fp : List Addr) :
    Nm scope N (X.blk s H scope (compEnvC scope cl Ca X.env) fp) where
  calm := g.calm
  names := g.names
  nd := g.nd
  loc := fun x h => lookup_relS_keep (sc := X.env.scope) (by decide) h
  cell := fun x h => ⟨lookup_relS_keep (sc := X.env.scope) (by decide) h, by
    show (scope.names.lookup x == some .cell) = true
    rw [h]
    rfl⟩
theorem Good.gl (g : Good C R sc N lv G X) {x : Str} (h : glB sc x = true) : Gl X x ∧ (x == ("__debug__" : Str)) = false ∧ x ≠ "__name__" := by
  unfold glB at h
  rw [Bool.and_eq_true, decide_eq_true_eq] at h
  obtain ⟨h1, _, h3⟩ := nameOk_of h.2
  refine ⟨?_, h1, h3⟩
  show X.env.scope.names.lookup x = _
  rw [g.scope]
  exact h.1
theorem Good.hu (g : Good C R sc N lv G X) : X.A.units + 65 < cLine := by have := g.room.un; omega
theorem no_takes {X : Cx} {G : Gh} : L2N.Takes X (liftW G.no) := fun u s' ⟨_, _, _, _, _, _, _, _, _, _, _, _, _, _, _, _, w⟩ => by
  obtain ⟨_, _, _, _, _, _, z⟩ := w
  exact False.elim z
theorem Good.blk (g : Good C R sc N lv G X) (s : Shared) (H : Hp) (scope : Scope) (cl : List (Str × Addr)) (Ca : Addr) (fp : List Addr) :
    Good C R (relS scope sc) N lv G.no (X.blk s H scope (compEnvC scope cl Ca X.env) fp) where
  lk := g.lk
  calm := g.calm
  scope := by
    rw [← g.scope]
    rfl
  names := g.names
  nd := g.nd
  room := g.room
  gk := g.gk
  tk := no_takes
  fns := g.fns
  cons := g.cons

theorem evEs_len {R : RT} : ∀ (es : Exs) (env : PD.Env) (ds : List D) (env1 : PD.Env), evEs R es env = .ok ds env1 → ds.length = es.len
  | .n, env, ds, env1, h => by
    unfold evEs at h
    cases h
    rfl
  | .c e es, env, ds, env1, h => by
    unfold evEs at h
    obtain ⟨c, env2, _, h2⟩ := bind_ok h
    obtain ⟨ds', env3, h3, h4⟩ := bind_ok h2
    cases h4
    simp [Exs.len, evEs_len es _ _ _ h3]

theorem soundBor (g : Good C R sc N lv G X) (a : Ex) (e : Expr) (h : chkE C N a sc e = true) (hE : PE X e (Lift G (relE G) (evE R a))) : PE X e (Lift G (relB G) (bor a (evE R a))) := by
  by_cases hv : ∃ i, a = .var i
  · obtain ⟨i, rfl⟩ := hv
    unfold chkE at h
    split at h
    · obtain ⟨h1, h2, h3⟩ := vis_of h
      obtain ⟨n1, n2, _⟩ := nameOk_of h3
      refine PE.imp (pe_var (i := i) (by rw [g.names]; exact h1) (by rw [g.scope]; exact h2) n1 n2) fun σ H Q q => lift_peek (G := G) (i := i) ?_
      exact q
    · cases h
  · exact PE.imp hE fun σ H Q q => lift_bor (fun i e => hv ⟨i, e⟩) q

theorem lift_cmpT {o : O2} {op : CmpOp} (ho : cmpF o = some op) {a b : Ex} {σ : L2.St} {H : Hp} {Q : Bool → Hp → Prop}
    (h : Lift G relT (fun env => (bor (.op2 o a b) (evE R (.op2 o a b)) env).bind fun x env => Res.of (truth x) env) σ H Q) :
    tTest (tOp (r2D G.K o) (Lift G (relB G) (bor a (evE R a))) (Lift G (relB G) (bor b (evE R b)))) σ H Q := by
  obtain ⟨F, own, env, er, h⟩ := h
  try dsimp only at h
  have e0 : bor (.op2 o a b) (evE R (.op2 o a b)) env = (bor a (evE R a) env).bind fun x env => (bor b (evE R b) env).bind fun y env => (Res.of (a2 o x y) env).bind fun c env => .ok c.d env := by
    have q : bor (.op2 o a b) (evE R (.op2 o a b)) env = ((bor a (evE R a) env).bind fun x env => (bor b (evE R b) env).bind fun y env => Res.of (a2 o x y) env).bind fun c env => .ok c.d env := by
      show (evE R (.op2 o a b) env).bind _ = _
      rw [evE]
    rw [q, bind_assoc]
    congr 1
    funext x env
    rw [bind_assoc]
  rw [e0] at h
  rw [bind_assoc] at h
  refine ⟨F, own, env, er, h.step fun d env1 _ F1 H1 own1 v er1 s1 br h1 => ?_⟩
  try dsimp only at h1
  rw [bind_assoc] at h1
  refine ⟨F1, own1, env1, er1, (h1.mono relT_mono s1).step fun d2 env2 _ F2 H2 own2 v2 er2 s2 br2 h2 => ?_⟩
  have h2 := h2.mono relT_mono s2
  cases hc : a2 o d d2 with
  | none => rw [hc] at h2; exact h2.elim
  | some c =>
    obtain ⟨b, rfl⟩ := cmp_bool ho hc
    rw [hc] at h2
    refine ⟨F2, d, d2, _, er2.fh, br.mono s2.sF s2.sH, br2, hc, fun F' H' w as gr cr fr => ?_⟩
    cases cr with
    | fz dr => exact ⟨b, dr.unB, h2 F' H' own2 b (er2.grow gr) gr.stp rfl⟩
theorem lift_isT {o : O1} (ho : o = .isN ∨ o = .notN) {a : Ex} {σ : L2.St} {H : Hp} {Q : Bool → Hp → Prop}
    (h : Lift G relT (fun env => (bor (.op1 o a) (evE R (.op1 o a)) env).bind fun x env => Res.of (truth x) env) σ H Q) :
    Lift G (relB G) (bor a (evE R a)) σ H fun x H1 => r1D G.K o x H1 fun x H' => ∃ k, x = .bl k ∧ Q k H' := by
  obtain ⟨F, own, env, er, h⟩ := h
  try dsimp only at h
  have e0 : bor (.op1 o a) (evE R (.op1 o a)) env = (bor a (evE R a) env).bind fun x env => (Res.of (a1 o x) env).bind fun c env => .ok c.d env := by
    have q : bor (.op1 o a) (evE R (.op1 o a)) env = ((bor a (evE R a) env).bind fun x env => Res.of (a1 o x) env).bind fun c env => .ok c.d env := by
      show (evE R (.op1 o a) env).bind _ = _
      rw [evE]
    rw [q, bind_assoc]
  rw [e0] at h
  rw [bind_assoc] at h
  refine ⟨F, own, env, er, h.step fun d env1 _ F1 H1 own1 v er1 s1 br h1 => ?_⟩
  have h1 := h1.mono relT_mono s1
  obtain ⟨b, hb⟩ : ∃ b, a1 o d = some (.fz (.bool b)) := by
    rcases ho with rfl | rfl
    · exact ⟨_, rfl⟩
    · exact ⟨_, rfl⟩
  try dsimp only at h1
  rw [hb] at h1
  refine ⟨F1, d, _, er1.fh, br, hb, fun F' H' w as gr cr fr => ?_⟩
  cases cr with
  | fz dr => exact ⟨b, dr.unB, h1 F' H' own1 b (er1.grow gr) gr.stp rfl⟩

open PyProof.Rows in
theorem pe_callSD0 {CX : CXT} {k : Nat} {f : Addr} {fd : FuncData} {ps : List Str} {sp : Sp} {x : Str} {p pos : Pos} {E : L2.St → XK} (F : FnOk X.prog X.w X.K X.mg X.base CX k f fd ps sp) (hr : Room k X.A) (hg : Gl X x) (hm : X.mg x = some (.ref f)) (hk : PySem.W.keepIn X.K (.ref f) = true)
    (hb : Binds X.K fd ps []) (hx : ∀ σ, PassesAt CX X σ (E σ)) (hdb : (x == ("__debug__" : Str)) = false) : PE X (.Call (.Name x p) [] [] pos) (tCallSD sp [] E tNil) := by
  refine ⟨fun pins s σ H Q I h => ?_⟩
  refine wpAny_Call_Name_kw (ld_glob I hg hm ?_ hdb)
  exact PySem.W.callWith_K0 I.kIn hk (run_fnSD (us := []) F hr hb .nil (hx σ) I .nil h)
end
end PD

end

section
set_option Elab.async false
set_option linter.all false
set_option autoImplicit false
set_option maxRecDepth 100000
/-! Every checked expression is read as its interpreter says: the induction. Own work. -/
namespace PD
open PySem PySem.Spec L2

theorem litB_of {d : D} {c : Const} {k : Nat} {pos : Pos} {X : Cx} {G : Gh} (h : litB d c = true) : PE X (.Constant c k pos) (Lift G (relE G) (fun env => .ok (.fz d) env)) := by
  cases d <;> cases c <;> simp only [litB, Bool.false_eq_true, Bool.and_eq_true, decide_eq_true_eq, beq_iff_eq] at h
  · exact PE.imp pe_non fun σ H Q q => lift_lit (fun F => .non) q
  · subst h
    exact PE.imp pe_bl fun σ H Q q => lift_lit (fun F => .bl _) q
  · subst h
    exact PE.imp pe_int fun σ H Q q => lift_lit (fun F => .int _) q
  · obtain ⟨rfl, h⟩ := h
    exact PE.imp pe_str fun σ H Q q => lift_lit (fun F => .str h) q

theorem plain_ix {e : Expr} (h : plainE e = true) : PlainIx e := by
  intro o i
  cases e <;> first | rfl | cases h
theorem plain_t {e : Expr} {env : PySem.Env} (h : plainT e = true) (whole : Sem Value) : isTrue e env whole = (do let v ← whole; standAt e.pos; holding [v] (truthy v)) := by
  cases e with
  | UnaryOp op x p => cases op <;> first | rfl | cases h
  | _ => first | rfl | cases h
theorem notSet_ok {e : Expr} {env : PySem.Env} (h : notSet e = true) (x : Value) : foldedSetIterable e env x = pure x := by
  cases e <;> first | rfl | cases h
theorem ownL_map (N : List Str) (own : List Nat) : (ownL N own).map (·.2) = own := by
  unfold ownL
  rw [List.map_map]
  show own.map (fun i => i) = own
  exact List.map_id' own
theorem plain_any {pos : Pos} {es : List Expr} {env : PySem.Env} (h : ∀ e ∈ es, plainE e = true) : (backTo pos (starEach es env)).any (·.1) = false := by
  cases es with
  | nil => rfl
  | cons e es =>
    have hs : ∀ {es : List Expr}, (∀ e ∈ es, plainE e = true) → (starEach es env).any (·.1) = false := by
      intro es
      induction es with
      | nil => intro _; rfl
      | cons e es ih =>
        intro h
        rw [star_cons (h e (List.mem_cons_self ..)), List.any_cons, ih fun x hx => h x (List.mem_cons_of_mem _ hx)]
        rfl
    have e1 := hs h
    show ((starEach (e :: es) env).map _).any _ = false
    rw [List.any_map]
    exact e1

theorem Lift.imp {α β : Type} {G : Gh} {rel : PD.Rel α β} {r : PD.Env → Res α} {σ : L2.St} {H : Hp} {Q Q' : β → Hp → Prop} (h : Lift G rel r σ H Q) (q : ∀ b H', Q b H' → Q' b H') : Lift G rel r σ H Q' := by
  obtain ⟨F, own, env, er, h⟩ := h
  exact ⟨F, own, env, er, h.imp q⟩
theorem lift_revL {G : Gh} {ra : PD.Env → Res Cell} {σ : L2.St} {H : Hp} {Q : VK} (h : Lift G (relE G) (fun env => (ra env).bind fun c env => match c.d with
    | .list ds => .ok (.ow ds.reverse) env
    | _ => .bad) σ H Q) : tListRev G.K (Lift G (relE G) ra) σ H Q := by
  obtain ⟨F, own, env, er, h⟩ := h
  refine ⟨F, own, env, er, h.step fun c env1 _ F1 H1 own1 v er1 s1 rl h1 => ?_⟩
  obtain ⟨F2, er2, s2, _, dr⟩ := fix_of er1 s1 rl
  try dsimp only at h1
  split at h1
  · rename_i ds e
    rw [e] at dr
    obtain ⟨a, vs, ev, hv, dv⟩ := dr.unL
    exact ⟨a, vs, ev, sqL_mono er2.fh hv, fun p hp => (got_of er2 (h1.mono relE_mono s2)).newL er2.fh dv.rev hp⟩
  · exact h1.elim
section
variable {C : Cfg} {R : RT} {sc : Scope} {N : List Str} {lv : Nat} {G : Gh} {X : Cx}
theorem PE_c1 {o : O1} {ra : PD.Env → Res D} {σ : L2.St} {H : Hp} {Q : VK} (q : Lift G (relB G) ra σ H fun v H1 => r1D X.K o v H1 Q) : tCB (rC1 X.K o) (tCons (Lift G (relB G) ra) tNil) σ H Q :=
  q.imp fun v H1 z => ⟨v, rfl, z⟩
theorem pe_o1 (g : Good C R sc N lv G X) {o : O1} {n : String} (h : o1F o = some n) {x : Expr} {ra : PD.Env → Res D} {p pos : Pos} (hg : glB sc (Str.ofString n) = true) (hp : plainE x = true) (ha : PE X x (Lift G (relB G) ra)) :
    PE X (.Call (.Name (Str.ofString n) p) [x] [] pos) (fun σ H Q => Lift G (relB G) ra σ H fun v H1 => r1D X.K o v H1 Q) := by
  obtain ⟨gl, nd, nn⟩ := g.gl hg
  cases o <;> simp only [o1F, Option.some.injEq, reduceCtorEq] at h <;> subst h
  · exact PE.imp (pe_callB call_lenD gl (g.lk.blt "len" (by decide)) (by decide +kernel) (pa_one ha hp) nn nd (star_cons hp) rfl) fun σ H Q q => PE_c1 q
  · exact PE.imp (pe_callTy call_listD gl (g.lk.blt "list" (by decide)) (by decide +kernel) (pa_one ha hp) nn nd (star_cons hp) rfl) fun σ H Q q => PE_c1 q
  · exact PE.imp (pe_callTy call_tupD gl (g.lk.blt "tuple" (by decide)) (by decide +kernel) (pa_one ha hp) nn nd (star_cons hp) rfl) fun σ H Q q => PE_c1 q
  · exact PE.imp (pe_callTy call_intD gl (g.lk.blt "int" (by decide)) (by decide +kernel) (pa_one ha hp) nn nd (star_cons hp) rfl) fun σ H Q q => PE_c1 q
  · exact PE.imp (pe_callB (call_sumD g.calm) gl (g.lk.blt "sum" (by decide)) (by decide +kernel) (pa_one ha hp) nn nd (star_cons hp) rfl) fun σ H Q q => PE_c1 q
  · exact PE.imp (pe_callB (call_minD g.calm) gl (g.lk.blt "min" (by decide)) (by decide +kernel) (pa_one ha hp) nn nd (star_cons hp) rfl) fun σ H Q q => PE_c1 q
  · exact PE.imp (pe_callB (call_maxD g.calm) gl (g.lk.blt "max" (by decide)) (by decide +kernel) (pa_one ha hp) nn nd (star_cons hp) rfl) fun σ H Q q => PE_c1 q
  · exact PE.imp (pe_callB call_sortedD gl (g.lk.blt "sorted" (by decide)) (by decide +kernel) (pa_one ha hp) nn nd (star_cons hp) rfl) fun σ H Q q => PE_c1 q
  · exact PE.imp (pe_callB call_absD gl (g.lk.blt "abs" (by decide)) (by decide +kernel) (pa_one ha hp) nn nd (star_cons hp) rfl) fun σ H Q q => PE_c1 q
theorem pe_o2 (g : Good C R sc N lv G X) {o : O2} {n : String} (h : o2F o = some n) {x y : Expr} {ra rb : PD.Env → Res D} {p pos : Pos} (hg : glB sc (Str.ofString n) = true) (hp : plainE x = true) (hq : plainE y = true) (ha : PE X x (Lift G (relB G) ra)) (hb : PE X y (Lift G (relB G) rb)) :
    PE X (.Call (.Name (Str.ofString n) p) [x, y] [] pos) (fun σ H Q => Lift G (relB G) ra σ H fun v H1 => Lift G (relB G) rb σ H1 fun w H2 => r2D X.K o v w H2 Q) := by
  obtain ⟨gl, nd, nn⟩ := g.gl hg
  have hpl : (backTo pos (starEach [y] X.env)).any (·.1) = false := plain_any fun e he => by
    rw [List.mem_singleton.mp he]
    exact hq
  cases o <;> simp only [o2F, Option.some.injEq, reduceCtorEq] at h <;> subst h
  · exact PE.imp (pe_callB (call_max g.calm) gl (g.lk.blt "max" (by decide)) (by decide +kernel) (pa_two ha hb hp hq) nn nd (star_cons hp) hpl) fun σ H Q q => q.imp fun v H1 z => z.imp fun w H2 u => ⟨v, w, rfl, u⟩
  · exact PE.imp (pe_callB (call_min g.calm) gl (g.lk.blt "min" (by decide)) (by decide +kernel) (pa_two ha hb hp hq) nn nd (star_cons hp) hpl) fun σ H Q q => q.imp fun v H1 z => z.imp fun w H2 u => ⟨v, w, rfl, u⟩
theorem pe_ty {t : Ty} (g : Good C R sc N lv G X) {p : Pos} (hg : glB sc (Str.ofString (tyN t)) = true) : PE X (.Name (Str.ofString (tyN t)) p) (tC (.ty (tyN t))) := by
  obtain ⟨gl, nd, nn⟩ := g.gl hg
  cases t
  · exact pe_bltn (v := .ty "int") (u := .type "int") gl (g.lk.blt "int" (by decide)) (by decide +kernel) rfl nn nd
  · exact pe_bltn (v := .ty "bool") (u := .type "bool") gl (g.lk.blt "bool" (by decide)) (by decide +kernel) rfl nn nd
  · exact pe_bltn (v := .ty "str") (u := .type "str") gl (g.lk.blt "str" (by decide)) (by decide +kernel) rfl nn nd
  · exact pe_bltn (v := .ty "list") (u := .type "list") gl (g.lk.blt "list" (by decide)) (by decide +kernel) rfl nn nd
  · exact pe_bltn (v := .ty "tuple") (u := .type "tuple") gl (g.lk.blt "tuple" (by decide)) (by decide +kernel) rfl nn nd
theorem pe_isi (g : Good C R sc N lv G X) {t : Ty} {x : Expr} {ra : PD.Env → Res D} {p p2 pos : Pos} (hg : glB sc (Str.ofString "isinstance") = true) (hg2 : glB sc (Str.ofString (tyN t)) = true) (hp : plainE x = true) (ha : PE X x (Lift G (relB G) ra)) :
    PE X (.Call (.Name (Str.ofString "isinstance") p) [x, .Name (Str.ofString (tyN t)) p2] [] pos) (fun σ H Q => Lift G (relB G) ra σ H fun v H1 => r1D X.K (.isi t) v H1 Q) := by
  obtain ⟨gl, nd, nn⟩ := g.gl hg
  exact PE.imp (pe_callB (call_isiD t) gl (g.lk.blt "isinstance" (by decide)) (by decide +kernel) (pa_two ha (pe_ty g hg2) hp rfl) nn nd (star_cons hp) rfl) fun σ H Q q => q.imp fun v H1 z => ⟨v, rfl, z⟩
/-- xs[lo:hi] -/
theorem sl_all : SlR X (r3D X.K) := by
  intro pins s σ H x v vl vu lo hi sl Q I rx hs pl pu ⟨F, d, c, fh, bx, hc, gt⟩
  cases d <;> simp only [a3, reduceCtorEq] at hc <;> cases hc
  · rename_i z
    have e : cutS z lo hi = ⟨(PD.cut z.cps.toList lo hi).toArray⟩ := by
      unfold cutS PD.cut
      rw [show z.cps.toList.length = z.length from Array.length_toList]
    refine sl_str pins s σ H x v vl vu lo hi sl Q I rx hs pl pu ⟨z, bx.str, str_le bx.ok, ?_⟩
    rw [e]
    refine gt.val fh (.str (ok_str ?_ fun c hc => str_cps bx.ok c (mem_cut (by simpa using hc))))
    show (PD.cut z.cps.toList lo hi).toArray.size ≤ sizeLine
    rw [List.size_toArray]
    refine Nat.le_trans (cut_len _ lo hi) ?_
    rw [Array.length_toList]
    exact str_le bx.ok
  · obtain ⟨a, vs, ex, hx, dx⟩ := bx.lst fh
    exact sl_list pins s σ H x v vl vu lo hi sl Q I rx hs pl pu ⟨a, vs, ex, hx, fun p hp => gt.newL fh (dx.cut lo hi) hp⟩
  · obtain ⟨a, vs, ex, hx, dx⟩ := bx.tup fh
    refine sl_tupA pins s σ H x v vl vu lo hi sl Q I rx hs pl pu ⟨a, vs, ex, sqT_mono fh hx, fun hw => ?_, fun _ p hp => gt.newT fh (dx.cut lo hi) hp⟩
    have e : ∀ {ds : List D}, DRs X.K F vs ds → PD.cut ds lo hi = ds := by
      intro ds dx
      unfold PD.cut
      rw [← dx.length, hw.1, hw.2]
      show ds.take (vs.length - 0) = ds
      rw [dx.length]
      exact List.take_length
    rw [e dx] at gt
    exact gt.val fh (.tup hx dx)
end
end PD

end

section
set_option Elab.async false
set_option linter.all false
set_option autoImplicit false
set_option maxRecDepth 100000
/-! Every checked expression is read as its interpreter says: the induction. Own work. -/
namespace PD
open PySem PySem.Spec L2

variable {C : Cfg} {R : RT} {N : List Str} {lv : Nat}
theorem pwT {X : Cx} {e : Expr} {t t' : TT} (h : PW X e t) (i : ∀ σ H Q, t' σ H Q → t σ H Q) : PW X e t' := ⟨fun wh pins s σ H Q I q => h.run wh pins s σ H Q I (i σ H Q q)⟩
theorem lift_andT {G : Gh} {ra rb : PD.Env → Res Bool} {σ : L2.St} {H : Hp} {Q : Bool → Hp → Prop} (h : Lift G relT (fun env => (ra env).bind fun t env => if t then rb env else .ok false env) σ H Q) :
    tAnd (Lift G relT ra) (Lift G relT rb) σ H Q := by
  obtain ⟨F, own, env, er, h⟩ := h
  refine ⟨F, own, env, er, h.step fun t env1 _ F1 H1 own1 b er1 s1 e h1 => ?_⟩
  have e : b = t := e
  subst e
  have h1 := h1.mono relT_mono s1
  cases b with
  | true => exact ⟨F1, own1, env1, er1, h1⟩
  | false => exact h1 F1 H1 own1 false er1 Stp.refl rfl
theorem lift_orT {G : Gh} {ra rb : PD.Env → Res Bool} {σ : L2.St} {H : Hp} {Q : Bool → Hp → Prop} (h : Lift G relT (fun env => (ra env).bind fun t env => if t then .ok true env else rb env) σ H Q) :
    tOr (Lift G relT ra) (Lift G relT rb) σ H Q := by
  obtain ⟨F, own, env, er, h⟩ := h
  refine ⟨F, own, env, er, h.step fun t env1 _ F1 H1 own1 b er1 s1 e h1 => ?_⟩
  have e : b = t := e
  subst e
  have h1 := h1.mono relT_mono s1
  cases b with
  | true => exact h1 F1 H1 own1 true er1 Stp.refl rfl
  | false => exact ⟨F1, own1, env1, er1, h1⟩
theorem lift_notT {G : Gh} {ra : PD.Env → Res Bool} {σ : L2.St} {H : Hp} {Q : Bool → Hp → Prop} (h : Lift G relT (fun env => (ra env).bind fun t env => .ok (!t) env) σ H Q) :
    tNot (Lift G relT ra) σ H Q := by
  obtain ⟨F, own, env, er, h⟩ := h
  refine ⟨F, own, env, er, h.step fun t env1 _ F1 H1 own1 b er1 s1 e h1 => ?_⟩
  have e : b = t := e
  subst e
  exact h1 F1 H1 own1 (!b) er1 s1 rfl

theorem soundVal {a : Ex} {sc : Scope} {e : Expr} {G : Gh} {X : Cx} (g : Good C R sc N lv G X) (h : chkT C N (.val a) sc e = true) (hn : ∀ l ops cs p, chkE C N a sc (.Compare l ops cs p) = false)
    (hE : chkE C N a sc e = true → PE X e (Lift G (relE G) (evE R a))) : PT X e (Lift G relT (evT R (.val a))) ∧ (∀ op l pos, e = .BoolOp op l pos → PW X e (Lift G relT (evT R (.val a)))) := by
  unfold chkT at h
  split at h
  · rw [hn] at h
    cases h
  · rw [Bool.and_eq_true] at h
    refine ⟨?_, fun op l pos z => by subst z; cases h.1⟩
    refine PT.imp (pt_truth (soundBor g _ e h.2 (hE h.2)) (plain_t h.1)) fun σ H Q q => ?_
    rw [← g.gk]
    exact lift_val (by simp only [evT] at q; exact q)

mutual
theorem soundE : ∀ (a : Ex) (sc : Scope) (e : Expr) (G : Gh) (X : Cx), Good C R sc N lv G X → chkE C N a sc e = true → PE X e (Lift G (relE G) (evE R a))
  | .var i, sc, e, G, X, g, h => by
    unfold chkE at h
    split at h
    · obtain ⟨h1, h2, h3⟩ := vis_of h
      obtain ⟨n1, n2, _⟩ := nameOk_of h3
      refine PE.imp (pe_var (i := i) (by rw [g.names]; exact h1) (by rw [g.scope]; exact h2) n1 n2) fun σ H Q q => lift_rd (G := G) (i := i) ?_
      simpa only [evE] using q
    · cases h
  | .lit d, sc, e, G, X, g, h => by
    unfold chkE at h
    split at h
    · simpa only [evE] using litB_of h
    · cases h
  | .glob k, sc, e, G, X, g, h => by
    unfold chkE at h
    split at h
    · rename_i x p
      rw [Bool.and_eq_true] at h
      obtain ⟨gl, nd, nn⟩ := g.gl h.2
      have h1 := h.1
      split at h1
      · rename_i pr hk
        rw [decide_eq_true_eq] at h1
        subst h1
        obtain ⟨u, v, hm, r, dr⟩ := g.lk.cons k pr hk
        refine PE.imp (pe_glob gl hm r nd) fun σ H Q q => ?_
        obtain ⟨F, own, env, er, q⟩ := q
        rw [evE, g.cons, hk] at q
        exact q F H own v er Stp.refl ⟨[], TR.fz (by rw [g.gk]; exact dr F), fun _ z => absurd z (by simp)⟩
      · cases h1
    · cases h
  | .op1 o a, sc, e, G, X, g, h => by
    unfold chkE at h
    split at h
    · rename_i op x p
      simp only [Bool.and_eq_true, decide_eq_true_eq] at h
      obtain ⟨rfl, rfl, h⟩ := h
      have hb := soundBor g a x h (soundE a sc x G X g h)
      refine PE.imp (pe_un un_negD hb) fun σ H Q q => ?_
      rw [← g.gk]
      exact lift_op1 (by simp only [evE] at q; exact q)
    · rename_i f p x p2
      simp only [Bool.and_eq_true] at h
      obtain ⟨h1, h2, h3, h4⟩ := h
      split at h1
      · rename_i n hn
        rw [decide_eq_true_eq] at h1
        subst h1
        have hb := soundBor g a x h4 (soundE a sc x G X g h4)
        refine PE.imp (pe_o1 g hn h2 h3 hb) fun σ H Q q => ?_
        rw [← g.gk]
        exact lift_op1 (by simp only [evE] at q; exact q)
      · cases h1
    · rename_i f p x t p2 p3
      simp only [Bool.and_eq_true] at h
      obtain ⟨h1, h2, h3, h4, h5⟩ := h
      split at h1
      · rename_i ty
        simp only [Bool.and_eq_true, decide_eq_true_eq] at h1
        obtain ⟨rfl, rfl⟩ := h1
        have hb := soundBor g a x h5 (soundE a sc x G X g h5)
        refine PE.imp (pe_isi g h2 h3 h4 hb) fun σ H Q q => ?_
        rw [← g.gk]
        exact lift_op1 (by simp only [evE] at q; exact q)
      · cases h1
    · rename_i x op k p p2
      simp only [Bool.and_eq_true, Bool.or_eq_true, decide_eq_true_eq] at h
      obtain ⟨h1, h⟩ := h
      have hb := soundBor g a x h (soundE a sc x G X g h)
      rcases h1 with ⟨rfl, rfl⟩ | ⟨rfl, rfl⟩
      · refine PE.imp (pe_cmpR op_isND hb pe_non (nomark _)) fun σ H Q q => ?_
        have q := lift_op1 (o := .isN) (ra := bor a (evE R a)) (by simp only [evE] at q; exact q)
        rw [g.gk] at q
        exact q.imp fun v H1 z => ⟨rfl, z⟩
      · refine PE.imp (pe_cmpR op_notND hb pe_non (nomark _)) fun σ H Q q => ?_
        have q := lift_op1 (o := .notN) (ra := bor a (evE R a)) (by simp only [evE] at q; exact q)
        rw [g.gk] at q
        exact q.imp fun v H1 z => ⟨rfl, z⟩
    · cases h
  | .op2 o a b, sc, e, G, X, g, h => by
    unfold chkE at h
    split at h
    · rename_i x op y p
      simp only [Bool.and_eq_true, decide_eq_true_eq] at h
      obtain ⟨h1, h2, h3⟩ := h
      have ha := soundBor g a x h2 (soundE a sc x G X g h2)
      have hb := soundBor g b y h3 (soundE b sc y G X g h3)
      refine PE.imp (pe_op (opBin h1) ha hb) fun σ H Q q => ?_
      rw [← g.gk]
      exact lift_op2 (by simp only [evE] at q; exact q)
    · rename_i x op y p
      simp only [Bool.and_eq_true, decide_eq_true_eq, Bool.not_eq_true'] at h
      obtain ⟨h1, h0, h2, h3⟩ := h
      have ha := soundBor g a x h2 (soundE a sc x G X g h2)
      have hb := soundBor g b y h3 (soundE b sc y G X g h3)
      refine PE.imp (pe_cmpR (opCmp g.hu h1) ha hb h0) fun σ H Q q => ?_
      rw [← g.gk]
      exact lift_op2 (by simp only [evE] at q; exact q)
    · rename_i x y p
      simp only [Bool.and_eq_true, decide_eq_true_eq] at h
      obtain ⟨rfl, h0, h2, h3⟩ := h
      have ha := soundBor g a x h2 (soundE a sc x G X g h2)
      have hb := soundBor g b y h3 (soundE b sc y G X g h3)
      refine PE.imp (pe_ix ix_all ha hb (plain_ix h0)) fun σ H Q q => ?_
      rw [← g.gk]
      exact lift_op2 (by simp only [evE] at q; exact q)
    · rename_i f p x y p2
      simp only [Bool.and_eq_true] at h
      obtain ⟨h1, h2, h3, h4, h5, h6⟩ := h
      split at h1
      · rename_i n hn
        rw [decide_eq_true_eq] at h1
        subst h1
        have ha := soundBor g a x h5 (soundE a sc x G X g h5)
        have hb := soundBor g b y h6 (soundE b sc y G X g h6)
        refine PE.imp (pe_o2 g hn h2 h3 h4 ha hb) fun σ H Q q => ?_
        rw [← g.gk]
        exact lift_op2 (by simp only [evE] at q; exact q)
      · cases h1
    · cases h
  | .sl a lo hi, sc, e, G, X, g, h => by
    unfold chkE at h
    split at h
    · rename_i x l hh p p2
      simp only [Bool.and_eq_true] at h
      obtain ⟨h1, h2, h3⟩ := h
      have ha := soundBor g a x h1 (soundE a sc x G X g h1)
      have pl : PO X l (Lift G relO (opt lo (evE R lo))) := by
        cases l with
        | none =>
          cases lo <;> simp only [Ex.isAbs, Bool.false_eq_true] at h2
          exact ⟨fun pins s σ H Q I q => po_none.run pins s σ H Q I (lift_abs q)⟩
        | some l =>
          simp only [Bool.and_eq_true, Bool.not_eq_true'] at h2
          exact ⟨fun pins s σ H Q I q => (po_some (soundE lo sc l G X g h2.2)).run pins s σ H Q I (lift_opt h2.1 q)⟩
      have ph : PO X hh (Lift G relO (opt hi (evE R hi))) := by
        cases hh with
        | none =>
          cases hi <;> simp only [Ex.isAbs, Bool.false_eq_true] at h3
          exact ⟨fun pins s σ H Q I q => po_none.run pins s σ H Q I (lift_abs q)⟩
        | some l =>
          simp only [Bool.and_eq_true, Bool.not_eq_true'] at h3
          exact ⟨fun pins s σ H Q I q => (po_some (soundE hi sc l G X g h3.2)).run pins s σ H Q I (lift_opt h3.1 q)⟩
      refine PE.imp (pe_slice sl_all ha pl ph) fun σ H Q q => ?_
      rw [← g.gk]
      exact lift_sl (by simp only [evE] at q; exact q)
    · cases h
  | .absent, _, _, _, _, _, h => by
    unfold chkE at h
    cases h
  | .tup es, sc, e, G, X, g, h => by
    unfold chkE at h
    split at h
    · rename_i l k p
      obtain ⟨hs, _, _⟩ := soundEs es sc l G X g h
      refine PE.imp (pe_tup hs) fun σ H Q q => ?_
      exact lift_tup (n := es.len) (evEs_len es) (by simp only [evE] at q; exact q)
    · cases h
  | .lst es, sc, e, G, X, g, h => by
    unfold chkE at h
    split at h
    · rename_i l p
      obtain ⟨hs, _, _⟩ := soundEs es sc l G X g h
      refine PE.imp (pe_lst hs) fun σ H Q q => ?_
      exact lift_lst (n := es.len) (evEs_len es) (by simp only [evE] at q; exact q)
    · cases h
  | .call f es, sc, e, G, X, g, h => by
    unfold chkE at h
    split at h
    · rename_i x p l p2
      simp only [Bool.and_eq_true] at h
      obtain ⟨h1, h2, h3⟩ := h
      obtain ⟨gl, nd, nn⟩ := g.gl h2
      obtain ⟨hs, hp, hl⟩ := soundEs es sc l G X g h3
      split at h1
      · rename_i fd hf
        simp only [Bool.and_eq_true, decide_eq_true_eq] at h1
        obtain ⟨rfl, hn⟩ := h1
        obtain ⟨a, fdt, hm, hk, hb, F⟩ := g.fns f fd hf
        have key : ∀ σ H Q, Lift G (relE G) (evE R (.call f es)) σ H Q → tCallSD (spF X.K (R.call f) G.XR fd.ps.length) [] (WE (liftW G)) (Lift G (relD G) (evEs R es)) σ H Q := by
          intro σ H Q q
          have z := lift_call (G := G) (f := f) (R := R) (np := fd.ps.length) (rs := evEs R es) (W := liftW G) (fun _ _ _ _ h => h) (fun env ds env1 e => by rw [evEs_len es _ _ _ e, hn]) (by simp only [evE] at q; exact q)
          rw [g.gk] at z
          refine z.imp fun vs H1 z => ?_
          rw [List.append_nil]
          exact z
        cases l with
        | nil =>
          cases es with
          | n =>
            refine PE.imp (pe_callSD0 F g.room gl hm hk hb (fun σ => L2N.passAt g.tk σ) nd) fun σ H Q q => ?_
            obtain ⟨F', own, env, er, z⟩ := key σ H Q q
            simp only [evEs] at z
            exact z F' H own [] er Stp.refl DRs.nil
          | c e es => simp [Exs.len] at hl
        | cons e l =>
          have he := hp e (List.mem_cons_self ..)
          exact PE.imp (pe_callSD F g.room gl hm hk hb .nil (fun σ => L2N.passAt g.tk σ) hs nd (star_cons he) (plain_any fun x hx => hp x (List.mem_cons_of_mem _ hx))) key
      · cases h1
    · cases h
  | .ite c a b, sc, e, G, X, g, h => by
    unfold chkE at h
    split at h
    · rename_i t x y p
      simp only [Bool.and_eq_true] at h
      obtain ⟨h1, h2, h3⟩ := h
      refine PE.imp (pe_ifExp (soundT c sc t G X g h1).1 (soundE a sc x G X g h2) (soundE b sc y G X g h3)) fun σ H Q q => ?_
      exact lift_ite relE_mono (by simp only [evE] at q; exact q)
    · cases h
  | .andV a b, sc, e, G, X, g, h => by
    unfold chkE at h
    split at h
    · rename_i x y r pos
      rw [Bool.and_eq_true] at h
      obtain ⟨h1, h2⟩ := h
      have ha := soundE a sc x G X g h1
      have hb : PE X (.BoolOp .And (y :: r) pos) (Lift G (relE G) (evE R b)) := by
        cases r with
        | nil => exact pe_one (soundE b sc y G X g h2)
        | cons z r => exact soundE b sc _ G X g h2
      exact PE.imp (pe_and ha hb) fun σ H Q q => lift_and (by simp only [evE] at q; exact q)
    · cases h
  | .orV a b, sc, e, G, X, g, h => by
    unfold chkE at h
    split at h
    · rename_i x y r pos
      rw [Bool.and_eq_true] at h
      obtain ⟨h1, h2⟩ := h
      have ha := soundE a sc x G X g h1
      have hb : PE X (.BoolOp .Or (y :: r) pos) (Lift G (relE G) (evE R b)) := by
        cases r with
        | nil => exact pe_one (soundE b sc y G X g h2)
        | cons z r => exact soundE b sc _ G X g h2
      exact PE.imp (pe_or ha hb) fun σ H Q q => lift_or (by simp only [evE] at q; exact q)
    · cases h
  | .notV a, sc, e, G, X, g, h => by
    unfold chkE at h
    split at h
    · rename_i x p
      exact PE.imp (pe_not (soundE a sc x G X g h)) fun σ H Q q => lift_not (by simp only [evE] at q; exact q)
    · cases h
  | .revL a, sc, e, G, X, g, h => by
    unfold chkE at h
    split at h
    · rename_i f pf r pr x p1 p2
      simp only [Bool.and_eq_true, decide_eq_true_eq] at h
      obtain ⟨rfl, rfl, h1, h2, h3, h4⟩ := h
      obtain ⟨g1, _, _⟩ := g.gl h1
      obtain ⟨g2, _, _⟩ := g.gl h2
      refine PE.imp (pe_listRev g.calm g1 (g.lk.blt "list" (by decide)) g2 (g.lk.blt "reversed" (by decide)) (soundE a sc x G X g h4) (star_cons h3)) fun σ H Q q => ?_
      rw [← g.gk]
      exact lift_revL (by simp only [evE] at q; exact q)
    · cases h
  | .comp elt own t it c, sc, e, G, X, g, h => by
    unfold chkE at h
    split at h
    · rename_i x tg iter ifs z scope p
      simp only [Bool.and_eq_true, decide_eq_true_eq] at h
      obtain ⟨rfl, ⟨h1, h2⟩, h3, h4, h5, h6, h7⟩ := h
      have hsl : ∀ i ∈ t.slots, i ∈ own := fun i hi => by
        have q := List.all_eq_true.mp h1 i hi
        simpa using q
      have ok : BlkOk X.N X.env.scope scope (ownL N own) := blkOk_by (by rw [g.names, g.scope]; exact h2)
      have hi := soundI it sc iter tg G X g h3
      have hg := fun s H Ca cl fp => soundTg (G := G.no) (g.nmB s H scope cl Ca fp) g.gk t tg h4
      have he := fun s H Ca cl fp => soundE elt (relS scope sc) x G.no _ (g.blk s H scope cl Ca fp) h6
      have ht : ∀ (s : Shared) (H : Hp) (Ca : Addr) (cl : List (Str × Addr)) (fp : List Addr), PTs (X.blk s H scope (compEnvC scope cl Ca X.env) fp) ifs (Lift G.no relT (evT R c)) := by
        intro s H Ca cl fp
        split at h5
        · cases c <;> simp only [Te.isYes, Bool.false_eq_true] at h5
          refine ⟨fun pins s σ H Q I q => pts_nil.run pins s σ H Q I ?_⟩
          obtain ⟨F, own, env, er, q⟩ := q
          rw [evT] at q
          exact q F H own true er Stp.refl rfl
        · rw [Bool.and_eq_true] at h5
          exact pts_one (soundT c (relS scope sc) _ G.no _ (g.blk s H scope cl Ca fp) h5.2).1
        · cases h5
      refine PE.imp (pe_lc g.calm (by rw [g.names]; exact g.nd) hi ok hg ht he (notSet_ok h7)) fun σ H Q q => ?_
      rw [ownL_map]
      exact lift_comp hsl (by simp only [evE] at q; exact q)
    · cases h
theorem soundEs : ∀ (es : Exs) (sc : Scope) (l : List Expr) (G : Gh) (X : Cx), Good C R sc N lv G X → chkEs C N es sc l = true → PA X l (Lift G (relD G) (evEs R es)) ∧ (∀ e ∈ l, plainE e = true) ∧ l.length = es.len
  | .n, sc, l, G, X, g, h => by
    unfold chkEs at h
    split at h
    · exact ⟨PA.imp pa_nil fun σ H Q q => lift_nil (by simp only [evEs] at q; exact q), fun e he => absurd he (by simp), rfl⟩
    · cases h
  | .c e es, sc, l, G, X, g, h => by
    unfold chkEs at h
    split at h
    · rename_i x xs
      simp only [Bool.and_eq_true] at h
      obtain ⟨h1, h2, h3⟩ := h
      obtain ⟨q1, q2, q3⟩ := soundEs es sc xs G X g h3
      refine ⟨PA.imp (pa_cons (soundE e sc x G X g h2) q1 (star_cons h1)) fun σ H Q q => lift_cons (by simp only [evEs] at q; exact q), fun y hy => ?_, by simp [Exs.len, q3]⟩
      rcases List.mem_cons.mp hy with e | hy
      · rw [e]; exact h1
      · exact q2 y hy
    · cases h
theorem soundT : ∀ (c : Te) (sc : Scope) (e : Expr) (G : Gh) (X : Cx), Good C R sc N lv G X → chkT C N c sc e = true → PT X e (Lift G relT (evT R c)) ∧ (∀ op l pos, e = .BoolOp op l pos → PW X e (Lift G relT (evT R c)))
  | .val (.op2 o a b), sc, e, G, X, g, h => by
    unfold chkT at h
    split at h
    · rename_i x ops ys p
      refine ⟨?_, fun _ _ _ z => by cases z⟩
      unfold chkE at h
      split at h
      · rename_i z; cases z
      · rename_i x op y p z
        cases z
        simp only [Bool.and_eq_true, decide_eq_true_eq, Bool.not_eq_true'] at h
        obtain ⟨h1, h0, h2, h3⟩ := h
        have ha := soundBor g a x h2 (soundE a sc x G X g h2)
        have hb := soundBor g b y h3 (soundE b sc y G X g h3)
        refine PT.imp (pt_cmpR (opCmp g.hu h1) ha hb h0) fun σ H Q q => ?_
        rw [← g.gk]
        exact lift_cmpT h1 (by simp only [evT] at q; exact q)
      · rename_i z; cases z
      · rename_i z; cases z
      · cases h
    · rw [Bool.and_eq_true] at h
      refine ⟨?_, fun op l pos z => by subst z; cases h.1⟩
      refine PT.imp (pt_truth (soundBor g _ e h.2 (soundE (.op2 o a b) sc e G X g h.2)) (plain_t h.1)) fun σ H Q q => ?_
      rw [← g.gk]
      exact lift_val (by simp only [evT] at q; exact q)
  | .val (.op1 o a), sc, e, G, X, g, h => by
    unfold chkT at h
    split at h
    · rename_i x ops ys p
      refine ⟨?_, fun _ _ _ z => by cases z⟩
      unfold chkE at h
      split at h
      · rename_i z; cases z
      · rename_i z; cases z
      · rename_i z; cases z
      · rename_i x op k p p2 z
        cases z
        simp only [Bool.and_eq_true, Bool.or_eq_true, decide_eq_true_eq] at h
        obtain ⟨h1, h⟩ := h
        have hb := soundBor g a x h (soundE a sc x G X g h)
        rcases h1 with ⟨rfl, rfl⟩ | ⟨rfl, rfl⟩
        · refine PT.imp (pt_cmpR op_isND hb pe_non (nomark _)) fun σ H Q q => ?_
          have q := lift_isT (.inl rfl) (by simp only [evT] at q; exact q)
          rw [g.gk] at q
          exact q.imp fun v H1 z => ⟨rfl, z⟩
        · refine PT.imp (pt_cmpR op_notND hb pe_non (nomark _)) fun σ H Q q => ?_
          have q := lift_isT (.inr rfl) (by simp only [evT] at q; exact q)
          rw [g.gk] at q
          exact q.imp fun v H1 z => ⟨rfl, z⟩
      · cases h
    · rw [Bool.and_eq_true] at h
      refine ⟨?_, fun op l pos z => by subst z; cases h.1⟩
      refine PT.imp (pt_truth (soundBor g _ e h.2 (soundE (.op1 o a) sc e G X g h.2)) (plain_t h.1)) fun σ H Q q => ?_
      rw [← g.gk]
      exact lift_val (by simp only [evT] at q; exact q)
  | .val (.var i), sc, e, G, X, g, h => soundVal g h (fun _ _ _ _ => by simp [chkE]) (soundE (.var i) sc e G X g)
  | .val (.lit d), sc, e, G, X, g, h => soundVal g h (fun _ _ _ _ => by simp [chkE]) (soundE (.lit d) sc e G X g)
  | .val (.glob k), sc, e, G, X, g, h => soundVal g h (fun _ _ _ _ => by simp [chkE]) (soundE (.glob k) sc e G X g)
  | .val (.sl a lo hi), sc, e, G, X, g, h => soundVal g h (fun _ _ _ _ => by simp [chkE]) (soundE (.sl a lo hi) sc e G X g)
  | .val (.absent), sc, e, G, X, g, h => soundVal g h (fun _ _ _ _ => by simp [chkE]) (soundE (.absent) sc e G X g)
  | .val (.tup es), sc, e, G, X, g, h => soundVal g h (fun _ _ _ _ => by simp [chkE]) (soundE (.tup es) sc e G X g)
  | .val (.lst es), sc, e, G, X, g, h => soundVal g h (fun _ _ _ _ => by simp [chkE]) (soundE (.lst es) sc e G X g)
  | .val (.call f es), sc, e, G, X, g, h => soundVal g h (fun _ _ _ _ => by simp [chkE]) (soundE (.call f es) sc e G X g)
  | .val (.ite c a b), sc, e, G, X, g, h => soundVal g h (fun _ _ _ _ => by simp [chkE]) (soundE (.ite c a b) sc e G X g)
  | .val (.andV a b), sc, e, G, X, g, h => soundVal g h (fun _ _ _ _ => by simp [chkE]) (soundE (.andV a b) sc e G X g)
  | .val (.orV a b), sc, e, G, X, g, h => soundVal g h (fun _ _ _ _ => by simp [chkE]) (soundE (.orV a b) sc e G X g)
  | .val (.notV a), sc, e, G, X, g, h => soundVal g h (fun _ _ _ _ => by simp [chkE]) (soundE (.notV a) sc e G X g)
  | .val (.revL a), sc, e, G, X, g, h => soundVal g h (fun _ _ _ _ => by simp [chkE]) (soundE (.revL a) sc e G X g)
  | .val (.comp elt own t it c), sc, e, G, X, g, h => soundVal g h (fun _ _ _ _ => by simp [chkE]) (soundE (.comp elt own t it c) sc e G X g)
  | .and a b, sc, e, G, X, g, h => by
    unfold chkT at h
    split at h
    · rename_i x y r pos
      rw [Bool.and_eq_true] at h
      obtain ⟨h1, h2⟩ := h
      have ha := (soundT a sc x G X g h1).1
      have hb : PW X (.BoolOp .And (y :: r) pos) (Lift G relT (evT R b)) := by
        cases r with
        | nil => exact pw_and1 (soundT b sc y G X g h2).1
        | cons z r => exact (soundT b sc _ G X g h2).2 _ _ _ rfl
      have hw : PW X (.BoolOp .And (x :: y :: r) pos) (Lift G relT (evT R (.and a b))) := pwT (pw_and ha hb) fun σ H Q q => lift_andT (by simp only [evT] at q; exact q)
      exact ⟨hw.pt, fun _ _ _ _ => hw⟩
    · cases h
  | .or a b, sc, e, G, X, g, h => by
    unfold chkT at h
    split at h
    · rename_i x y r pos
      rw [Bool.and_eq_true] at h
      obtain ⟨h1, h2⟩ := h
      have ha := (soundT a sc x G X g h1).1
      have hb : PW X (.BoolOp .Or (y :: r) pos) (Lift G relT (evT R b)) := by
        cases r with
        | nil => exact pw_or1 (soundT b sc y G X g h2).1
        | cons z r => exact (soundT b sc _ G X g h2).2 _ _ _ rfl
      have hw : PW X (.BoolOp .Or (x :: y :: r) pos) (Lift G relT (evT R (.or a b))) := pwT (pw_or ha hb) fun σ H Q q => lift_orT (by simp only [evT] at q; exact q)
      exact ⟨hw.pt, fun _ _ _ _ => hw⟩
    · cases h
  | .not a, sc, e, G, X, g, h => by
    unfold chkT at h
    split at h
    · rename_i x p
      refine ⟨PT.imp (pt_not (soundT a sc x G X g h).1) fun σ H Q q => lift_notT (by simp only [evT] at q; exact q), fun _ _ _ z => by cases z⟩
    · cases h
  | .yes, _, _, _, _, _, h => by
    unfold chkT at h
    cases h
theorem soundI : ∀ (it : It) (sc : Scope) (e tg : Expr) (G : Gh) (X : Cx), Good C R sc N lv G X → chkI C N it sc e tg = true → PI X tg e (Lift G (relI G) (evI R it))
  | .seq a, sc, e, tg, G, X, g, h => by
    unfold chkI at h
    have q := pi_seq (tg := tg) (soundE a sc e G X g h) g.gk
    exact ⟨fun pins s σ H Q I z => q.run pins s σ H Q I (by simp only [evI] at z; exact z)⟩
  | .rng1 a, sc, e, tg, G, X, g, h => by
    unfold chkI at h
    split at h
    · rename_i f p x p2
      simp only [Bool.and_eq_true, decide_eq_true_eq] at h
      obtain ⟨rfl, h1, h2, h3⟩ := h
      obtain ⟨gl, nd, nn⟩ := g.gl h1
      have q := pi_range1 (X := X) (tg := tg) (p := p) (pos := p2) gl (g.lk.blt "range" (by decide)) (pa_one (soundE a sc x G X g h3) h2) (star_cons h2)
      exact ⟨fun pins s σ H Q I z => q.run pins s σ H Q I (lift_rng1 (by simp only [evI] at z; exact z))⟩
    · cases h
  | .rng2 a b, sc, e, tg, G, X, g, h => by
    unfold chkI at h
    split at h
    · rename_i f p x y p2
      simp only [Bool.and_eq_true, decide_eq_true_eq] at h
      obtain ⟨rfl, h1, h2, h3, h4, h5⟩ := h
      obtain ⟨gl, nd, nn⟩ := g.gl h1
      have q := pi_range2 (X := X) (tg := tg) (p := p) (pos := p2) gl (g.lk.blt "range" (by decide)) (pa_two (soundE a sc x G X g h4) (soundE b sc y G X g h5) h2 h3) (by rw [star_cons h2, star_cons h3]; rfl) (by rw [star_cons h3]; rfl)
      exact ⟨fun pins s σ H Q I z => q.run pins s σ H Q I (lift_rng2 (by simp only [evI] at z; exact z))⟩
    · cases h
  | .rng3 _ _ _, _, _, _, _, _, _, h => by
    unfold chkI at h
    cases h
  | .enum a, sc, e, tg, G, X, g, h => by
    unfold chkI at h
    split at h
    · rename_i f p x p2
      simp only [Bool.and_eq_true, decide_eq_true_eq] at h
      obtain ⟨rfl, h0, h1, h2, h3⟩ := h
      obtain ⟨gl, nd, nn⟩ := g.gl h1
      cases tg <;> simp only [isTupE, Bool.false_eq_true] at h0
      rename_i elts kk tp
      have q := pi_enum (X := X) (elts := elts) (kk := kk) (tpos := tp) (p := p) (pos := p2) gl (g.lk.blt "enumerate" (by decide)) (pa_one (soundE a sc x G X g h3) h2) (star_cons h2)
      exact ⟨fun pins s σ H Q I z => q.run pins s σ H Q I (lift_enum g.gk (by simp only [evI] at z; exact z))⟩
    · cases h
  | .zip a b, sc, e, tg, G, X, g, h => by
    unfold chkI at h
    split at h
    · rename_i f p x y p2
      simp only [Bool.and_eq_true, decide_eq_true_eq] at h
      obtain ⟨rfl, h0, h1, h2, h3, h4, h5⟩ := h
      obtain ⟨gl, nd, nn⟩ := g.gl h1
      cases tg <;> simp only [isTupE, Bool.false_eq_true] at h0
      rename_i elts kk tp
      have q := pi_zip (X := X) (elts := elts) (kk := kk) (tpos := tp) (p := p) (pos := p2) gl (g.lk.blt "zip" (by decide)) (pa_two (soundE a sc x G X g h4) (soundE b sc y G X g h5) h2 h3) (star_cons h2) (plain_any fun e he => by rw [List.mem_singleton.mp he]; exact h3)
      exact ⟨fun pins s σ H Q I z => q.run pins s σ H Q I (lift_zip g.gk (by simp only [evI] at z; exact z))⟩
    · cases h
  | .rev a, sc, e, tg, G, X, g, h => by
    unfold chkI at h
    split at h
    · rename_i f p x p2
      simp only [Bool.and_eq_true, decide_eq_true_eq] at h
      obtain ⟨rfl, h1, h2, h3⟩ := h
      obtain ⟨gl, nd, nn⟩ := g.gl h1
      have q := pi_reversed (X := X) (tg := tg) (p := p) (pos := p2) gl (g.lk.blt "reversed" (by decide)) (pa_one (soundE a sc x G X g h3) h2) (star_cons h2)
      exact ⟨fun pins s σ H Q I z => q.run pins s σ H Q I (lift_rev g.gk (by simp only [evI] at z; exact z))⟩
    · cases h
end
end PD

end

section
set_option Elab.async false
set_option linter.all false
set_option autoImplicit false
set_option maxRecDepth 100000
/-! Statements. Own work. -/
namespace PD
open PySem PySem.Spec L2

def AtO (G : Gh) (F : Hp) (o : Out) (D : Ends) : Prop := match o with
  | .nx env => ∀ σ' F' H' own, ER G.K G.F0 G.H0 F' H' σ' env own → Same F F' → D.nx σ' H'
  | .bk env => ∀ σ' F' H' own, ER G.K G.F0 G.H0 F' H' σ' env own → Same F F' → D.bk σ' H'
  | .ct env => ∀ σ' F' H' own, ER G.K G.F0 G.H0 F' H' σ' env own → Same F F' → D.ct σ' H'
  | .rt c => ∀ F' H' v as, HR G.F0 G.H0 F' H' → Same F F' → CR G.K F' H' v c as → (∀ a ∈ as, G.H0 a = none) → D.rt v H'
  | .exc x env => G.E F x env
  | .bad => False
def LS (G : Gh) (r : PD.Env → Out) : TS := fun D σ H => ∃ F own env, ER G.K G.F0 G.H0 F H σ env own ∧ AtO G F (r env) D
section
variable {G : Gh} {F F' : Hp} {o : Out} {D : Ends} {σ : L2.St} {H : Hp} {own : Nat → List Addr} {env : PD.Env}
theorem AtO.mono (h : AtO G F o D) (s : Same F F') : AtO G F' o D := by
  cases o with
  | nx env => exact fun σ' F2 H2 own er s2 => h σ' F2 H2 own er (s.trans s2)
  | bk env => exact fun σ' F2 H2 own er s2 => h σ' F2 H2 own er (s.trans s2)
  | ct env => exact fun σ' F2 H2 own er s2 => h σ' F2 H2 own er (s.trans s2)
  | rt c => exact fun F2 H2 v as hr s2 => h F2 H2 v as hr (s.trans s2)
  | exc x env => exact G.em _ _ _ _ s h
  | bad => exact h
theorem AtO.step {α β : Type} {relA : PD.Rel α β} {r : Res α} {f : α → PD.Env → Out} {Q' : β → Hp → Prop} (h : AtO G F (r.out f) D)
    (k : ∀ a env1, r = .ok a env1 → ∀ F1 H1 own1 b, ER G.K G.F0 G.H0 F1 H1 σ env1 own1 → Stp F H own F1 H1 own1 → relA H F1 H1 own1 b a → AtO G F (f a env1) D → Q' b H1) : At G relA σ F H own r Q' := by
  cases r with
  | ok a env1 => exact fun F1 H1 own1 b er s1 rl => k a env1 rfl F1 H1 own1 b er s1 rl h
  | exc x env1 => exact h
  | bad => exact h
theorem ls_asg {re : PD.Env → Res Cell} {t : Tg} (h : LS G (fun env => (re env).out fun c env => Out.of (asgT t c env)) D σ H) :
    tAsg (Lift G (relE G) re) (gT G t) D σ H := by
  obtain ⟨F, own, env, er, h⟩ := h
  refine ⟨F, own, env, er, h.step fun c env1 _ F1 H1 own1 v er1 s1 rl h1 => ?_⟩
  obtain ⟨as, t1, _⟩ := rl
  cases e : asgT t c env1 with
  | none => rw [e] at h1; exact h1.elim
  | some env2 =>
    rw [e] at h1
    exact ⟨F1, own1, env1, c, as, env2, er1, t1, e, fun σ' own' er' _ _ => h1 σ' F1 H1 own' er' s1.sF⟩
theorem getO_of {i : Nat} {ds : List PD.D} (h : getO env i = some ds) : env[i]? = some (some (.ow ds)) := by
  unfold getO at h
  split at h
  · rename_i e
    cases h
    exact e
  · cases h
theorem slot_ow (er : ER G.K G.F0 G.H0 F H σ env own) {i : Nat} {ds : List PD.D} (h : env[i]? = some (some (.ow ds))) : ∃ a vs, σ[i]? = some (some (.ref a)) ∧ H a = some (.lst vs) ∧ DRs G.K F vs ds := by
  obtain ⟨a, vs, e1, e2, e3, _⟩ := er.chg h
  exact ⟨a, vs, e1, e2, e3⟩
theorem ls_app {re : PD.Env → Res Cell} {i : Nat} (h : LS G (fun env => match getO env i with
    | none => .bad
    | some _ => (re env).out fun c env => match getO env i with
      | some ds => if ds.length < sizeLine then .nx (env.set i (some (.ow (ds ++ [c.d])))) else .bad
      | none => .bad) D σ H) : tDrop (tBM G.K "list" rAppend (tVar i) (tCons (Lift G (relE G) re) tNil)) D σ H := by
  obtain ⟨F, own, env, er, h⟩ := h
  try dsimp only at h
  split at h
  · exact h.elim
  rename_i ds0 e0
  obtain ⟨a, vs0, e1, e2, _⟩ := slot_ow er (getO_of e0)
  refine ⟨.ref a, e1, .inl ⟨rfl, vs0, .inl (.inl e2)⟩, F, own, env, er, h.step fun c env1 _ F1 H1 own1 v er1 s1 rl h1 => ?_⟩
  obtain ⟨F2, er2, s2, _, dr⟩ := fix_of er1 s1 rl
  try dsimp only at h1
  split at h1
  · rename_i ds e3
    obtain ⟨a', vs, q1, q2, q3, q4⟩ := er2.chg (getO_of e3)
    rw [e1] at q1
    cases q1
    split at h1
    · rename_i hl
      exact ⟨a, vs, v, rfl, rfl, q2, by rw [q3.length]; exact hl, h1 σ F2 _ own1 (q4 _ _ (q3.append (.cons dr .nil))) s2.sF⟩
    · exact h1.elim
  · exact h1.elim
theorem ls_setI {re : PD.Env → Res Cell} {rj : PD.Env → Res PD.D} {i : Nat} (h : LS G (fun env => match getO env i with
    | none => .bad
    | some _ => (re env).out fun c env => (rj env).out fun y env => match getO env i, y with
      | some ds, .int k => (match L2.ixN ds.length k with
        | some m => .nx (env.set i (some (.ow (ds.set m c.d))))
        | none => .bad)
      | _, _ => .bad) D σ H) : tAsg (Lift G (relE G) re) (gSub (tVar i) (Lift G (relB G) rj) rSetL) D σ H := by
  obtain ⟨F, own, env, er, h⟩ := h
  try dsimp only at h
  split at h
  · exact h.elim
  rename_i ds0 e0
  obtain ⟨a, vs0, e1, e2, _⟩ := slot_ow er (getO_of e0)
  refine ⟨F, own, env, er, h.step fun c env1 _ F1 H1 own1 v er1 s1 rl h1 => ?_⟩
  obtain ⟨F2, er2, s2, _, dr⟩ := fix_of er1 s1 rl
  refine ⟨.ref a, e1, F2, own1, env1, er2, (h1.mono s2.sF).step fun y env2 _ F3 H3 own3 w er3 s3 br h2 => ?_⟩
  have br : BR G.K F3 H3 w y := br
  try dsimp only at h2
  split at h2
  · have e3 := ‹getO env2 i = some _›
    obtain ⟨a', vs, q1, q2, q3, q4⟩ := er3.chg (getO_of e3)
    rw [e1] at q1
    cases q1
    split at h2
    · rename_i m hm
      exact ⟨a, vs, _, m, rfl, br.int, q2, by rw [q3.length]; exact hm, h2 σ F3 _ own3 (q4 _ _ (q3.set (dr.mono s3.sF) m)) s3.sF⟩
    · exact h2.elim
  · exact h2.elim
theorem ls_aug {re : PD.Env → Res Cell} {i : Nat} {o : O2} (h : LS G (fun env => match env[i]? with
    | some (some (.fz x)) => (re env).out fun c env => match aI o x c.d with
      | some d => .nx (env.set i (some (.fz d)))
      | none => .bad
    | _ => .bad) D σ H) : tAug i (Lift G (relE G) re) (fun x y H Q => ∃ F d e z, Same F H ∧ DR G.K F x d ∧ DR G.K F y e ∧ aI o d e = some z ∧ ∀ v, DR G.K F v z → Q v H) D σ H := by
  obtain ⟨F, own, env, er, h⟩ := h
  try dsimp only at h
  split at h
  · rename_i x e0
    obtain ⟨v, ev, q⟩ := er.sl i _ e0
    generalize own i = as at q
    cases q with
    | fz drx =>
      refine ⟨v, ev, F, own, env, er, h.step fun c env1 _ F1 H1 own1 w er1 s1 rl h1 => ?_⟩
      obtain ⟨F2, er2, s2, _, dr⟩ := fix_of er1 s1 rl
      try dsimp only at h1
      split at h1
      · rename_i d ed
        refine ⟨F2, x, c.d, d, er2.fh, drx.mono s2.sF, dr, ed, fun z dz => ?_⟩
        by_cases hi : i < env1.length
        · exact h1 _ F2 H1 _ (er2.store (TR.fz dz) i hi) s2.sF
        · have e1 : env1.set i (some (.fz d)) = env1 := List.set_eq_of_length_le (by omega)
          have e2 : σ.set i (some z) = σ := List.set_eq_of_length_le (by rw [← er2.len]; omega)
          rw [e1] at h1
          show D.nx (σ.set i (some z)) H1
          rw [e2]
          exact h1 _ F2 H1 _ er2 s2.sF
      · exact h1.elim
  · exact h.elim
theorem ls_expr {re : PD.Env → Res Cell} (h : LS G (fun env => (re env).out fun _ env => .nx env) D σ H) : tDrop (Lift G (relE G) re) D σ H := by
  obtain ⟨F, own, env, er, h⟩ := h
  exact ⟨F, own, env, er, h.step fun c env1 _ F1 H1 own1 v er1 s1 rl h1 => h1 σ F1 H1 own1 er1 s1.sF⟩
theorem ls_ite {rt : PD.Env → Res Bool} {ra rb : PD.Env → Out} (h : LS G (fun env => (rt env).out fun t env => if t then ra env else rb env) D σ H) : tIfS (Lift G relT rt) (LS G ra) (LS G rb) D σ H := by
  obtain ⟨F, own, env, er, h⟩ := h
  refine ⟨F, own, env, er, h.step fun t env1 _ F1 H1 own1 b er1 s1 e h1 => ?_⟩
  have e : b = t := e
  subst e
  have h1 := h1.mono s1.sF
  cases b with
  | true => exact ⟨F1, own1, env1, er1, h1⟩
  | false => exact ⟨F1, own1, env1, er1, h1⟩
theorem ls_seq {ra rb : PD.Env → Out} (h : LS G (fun env => (ra env).seq rb) D σ H) : tSeq (LS G ra) (LS G rb) D σ H := by
  obtain ⟨F, own, env, er, h⟩ := h
  refine ⟨F, own, env, er, ?_⟩
  try dsimp only at h
  cases e : ra env with
  | nx env1 =>
    rw [e] at h
    exact fun σ' F' H' own' er' s => ⟨F', own', env1, er', h.mono s⟩
  | bk env1 => rw [e] at h; exact h
  | ct env1 => rw [e] at h; exact h
  | rt c => rw [e] at h; exact h
  | exc x env1 => rw [e] at h; exact h
  | bad => rw [e] at h; exact h
theorem ls_nx (h : LS G (fun env => .nx env) D σ H) : D.nx σ H := by
  obtain ⟨F, own, env, er, h⟩ := h
  exact h σ F H own er (Same.refl _)
theorem ls_ret {re : PD.Env → Res Cell} (h : LS G (fun env => (re env).out fun c _ => .rt c) D σ H) : tRet (Lift G (relE G) re) D σ H := by
  obtain ⟨F, own, env, er, h⟩ := h
  refine ⟨F, own, env, er, h.step fun c env1 _ F1 H1 own1 v er1 s1 rl h1 => ?_⟩
  obtain ⟨as, t, _⟩ := rl
  exact h1 F1 H1 v as er1.toHR s1.sF t.cr t.fr
theorem ls_retV {i : Nat} (h : LS G (fun env => match env[i]? with
    | some (some c) => .rt c
    | _ => .bad) D σ H) : tRet (tVar i) D σ H := by
  obtain ⟨F, own, env, er, h⟩ := h
  try dsimp only at h
  split at h
  · rename_i c e
    obtain ⟨v, ev, q⟩ := er.sl i c e
    exact ⟨v, ev, h F H v (own i) er.toHR (Same.refl _) q fun a ha => (er.fr i a ha).1⟩
  · exact h.elim
theorem ls_whl {rt : PD.Env → Res Bool} {rb : PD.Env → Out} {n : Nat} (h : LS G (fun env => whl rt rb n env) D σ H) : tWhile (Lift G relT rt) (LS G rb) D σ H := by
  obtain ⟨F, own, env, er, h⟩ := h
  refine ⟨fun m σ H => ∃ F' own env', ER G.K G.F0 G.H0 F' H σ env' own ∧ Same F F' ∧ AtO G F (whl rt rb m env') D, ⟨n, F, own, env, er, Same.refl _, h⟩, ?_⟩
  rintro m σ H ⟨F', own', env', er', sF, h⟩
  cases m with
  | zero => exact h.elim
  | succ m =>
    unfold whl at h
    refine ⟨F', own', env', er', ?_⟩
    cases e : rt env' with
    | bad => rw [e] at h; exact h
    | exc x env1 => rw [e] at h; exact G.em _ _ _ _ sF h
    | ok b env1 =>
      rw [e] at h
      intro F1 H1 own1 b' er1 s1 eb
      have eb : b' = b := eb
      subst eb
      cases b' with
      | false => exact h σ F1 H1 own1 er1 (sF.trans s1.sF)
      | true =>
        rw [if_pos rfl]
        refine ⟨_, fun σ' H' q => ⟨m, Nat.lt_succ_self m, q⟩, F1, own1, env1, er1, ?_⟩
        try dsimp only at h
        cases e2 : rb env1 with
        | nx env2 =>
          rw [e2] at h
          exact fun σ' F2 H2 own2 er2 s2 => ⟨F2, own2, env2, er2, (sF.trans s1.sF).trans s2, h⟩
        | ct env2 =>
          rw [e2] at h
          exact fun σ' F2 H2 own2 er2 s2 => ⟨F2, own2, env2, er2, (sF.trans s1.sF).trans s2, h⟩
        | bk env2 =>
          rw [e2] at h
          exact fun σ' F2 H2 own2 er2 s2 => h σ' F2 H2 own2 er2 ((sF.trans s1.sF).trans s2)
        | rt c =>
          rw [e2] at h
          exact fun F2 H2 v as hr s2 => h F2 H2 v as hr ((sF.trans s1.sF).trans s2)
        | exc x env2 => rw [e2] at h; exact G.em _ _ _ _ (sF.trans s1.sF) h
        | bad => rw [e2] at h; exact h
theorem ls_for {rI : PD.Env → Res (List PD.D)} {t : Tg} {rb : PD.Env → Out} (h : LS G (fun env => (rI env).out fun ds env => forL t rb ds env) D σ H) : tFor (Lift G (relI G) rI) (gT G t) (LS G rb) D σ H := by
  obtain ⟨F, own, env, er, h⟩ := h
  refine ⟨F, own, env, er, h.step fun ds env1 _ F1 H1 own1 J er1 s1 it h1 => ?_⟩
  have it : ItOk G.K F1 J ds := it
  refine ⟨fun i m σ H => m + i = ds.length ∧ ∃ F2 own2 env2, ER G.K G.F0 G.H0 F2 H σ env2 own2 ∧ Same F1 F2 ∧ AtO G F (forL t rb (ds.drop i) env2) D, ⟨ds.length, rfl, F1, own1, env1, er1, Same.refl _, h1⟩, ?_⟩
  rintro i m σ H ⟨hm, F2, own2, env2, er2, sF2, h2⟩
  obtain ⟨turn, stop⟩ := it F2 H sF2 er2.fh
  by_cases hi : i < ds.length
  · have ei : ds[i]? = some ds[i] := List.getElem?_eq_getElem hi
    obtain ⟨go, yld⟩ := turn i _ ei
    refine .inr ⟨go, _, fun σ' H' q => q, fun x H' y => ?_⟩
    obtain ⟨F3, g3, dr⟩ := yld x H' y
    rw [List.drop_eq_getElem_cons hi] at h2
    unfold forL at h2
    split at h2
    · exact h2.elim
    rename_i env3 e3
    have base : Same F F3 := (s1.sF.trans sF2).trans g3.sF
    refine ⟨F3, own2, env2, .fz ds[i], [], env3, er2.grow g3, TR.fz dr, e3, fun σ2 own3 er3 _ _ => ⟨F3, own3, env3, er3, ?_⟩⟩
    cases e4 : rb env3 with
    | nx env4 =>
      rw [e4] at h2
      exact fun σ' F4 H4 own4 er4 s4 => ⟨m - 1, by omega, by omega, F4, own4, env4, er4, (sF2.trans g3.sF).trans s4, h2⟩
    | ct env4 =>
      rw [e4] at h2
      exact fun σ' F4 H4 own4 er4 s4 => ⟨m - 1, by omega, by omega, F4, own4, env4, er4, (sF2.trans g3.sF).trans s4, h2⟩
    | bk env4 =>
      rw [e4] at h2
      exact fun σ' F4 H4 own4 er4 s4 => h2 σ' F4 H4 own4 er4 (base.trans s4)
    | rt c =>
      rw [e4] at h2
      exact fun F4 H4 v as hr s4 => h2 F4 H4 v as hr (base.trans s4)
    | exc x env4 => rw [e4] at h2; exact G.em _ _ _ _ base h2
    | bad => rw [e4] at h2; exact h2
  · have : i = ds.length := by omega
    subst this
    refine .inl ⟨stop, ?_⟩
    rw [List.drop_length] at h2
    unfold forL at h2
    exact h2 σ F2 H own2 er2 (s1.sF.trans sF2)
end
end PD

end

section
set_option Elab.async false
set_option linter.all false
set_option autoImplicit false
set_option maxRecDepth 100000
set_option maxHeartbeats 1000000
/-! A class of the program over its own base over ValueError, its __init__ with super().__init__(text). Own work. -/
namespace PD
open PySem PySem.W PySem.Calls PyProof.Rows PySem.HandSPX

def selfN : Str := Str.ofString "self"
/-- self.f = f, for each field -/
def asgB : List Str → List Stmt → Bool
  | [], b => (match b with
    | [] => true
    | _ => false)
  | f :: fs, b => (match b with
    | .Assign [.Attribute (.Name s _) g _] (.Name x _) _ :: r => decide (s = selfN) && (decide (g = f) && (decide (x = f) && ((f == ("__debug__" : Str)) == false && asgB fs r)))
    | _ => false)
def supB (body : List Stmt) : Bool := match body with
  | .Expr (.Call (.Attribute (.Call (.Name n _) [] [] _) m ap) [.Constant (.str x) _ _] [] cp) _ :: _ => decide (n = Str.ofString "super") && (decide (m = Str.ofString "__init__") && ap.endLine == cp.line)
  | _ => false
def noCell (sc : Scope) : Bool := sc.names.all fun x => decide (x.2 ≠ .cell)
def scB (fs : List Str) (sc : Scope) : Bool := decide (sc.kind = .function) && (sc.isCoroutine == false && (sc.isGenerator == false && (noCell sc && (decide (sc.names.lookup (Str.ofString "super") = some .globalImplicit) && (decide (sc.names.lookup (Str.ofString "__class__") = some .free) &&
  (selfN :: fs).all fun x => decide (sc.names.lookup x = some .local))))))

/-- what the written part says of a class of the program and of its __init__ -/
structure XTxt (P : Program) (K : PySem.W.Frag) (C fI : Addr) (fs : List Str) : Prop where
  T : L2.OexC K C
  iC : findIn K (.ref C) "__init__" = some (some (.ref fI))
  tI : typeIn K (.ref fI) = some (.type "function")
  noF : ∀ f ∈ fs, findIn K (.ref C) f = some none
  sub : mroIn K C (.ref C) = some true
  sup : ks_superIn K C C "__init__" = some (some (.builtin "ValueError.__init__"))
  ve : subIn K (.ref C) (.type "ValueError") = some true
  opq : nsIn K cStatics "thirdparty.any" = some none
  htop : (P.main.scope.names.lookup ("super" : Str)).isSome = false
  nd : (selfN :: fs).Nodup
  few : fs.length ≤ 100
  fn : ∃ (oc : Value) (od : Option Addr) (name qual : Str) (params : Arguments) (body : List Stmt) (scope : Scope) (dV kV doc pm ct : Value) (an : Option Addr) (cda cc : Addr) (osl : Array (Option Value)),
    K.lookup fI = some ⟨oc, od, .func (ksFn name qual params body scope dV kV doc pm an (.ref cda) ct cc), osl⟩ ∧ codeIn K (.ref cda) qual = true ∧
    (∃ (ccl : Value) (cdd : Option Addr) (vs : Array Value) (ccs : Array (Option Value)) (file : Str) (tf : Tok), K.lookup cda = some ⟨ccl, cdd, .fields vs, ccs⟩ ∧ vs[2]? = some (.str file tf) ∧ ((P.main.file : Str) == file) = true) ∧
    (∃ (cl : Value) (cld : Option Addr) (csl : Array (Option Value)), K.lookup cc = some ⟨cl, cld, .cell (some (.ref C)), csl⟩) ∧
    (∃ ar, (params.posonlyargs ++ params.args).head? = some ar ∧ ar.arg = selfN) ∧
    (∀ us : List Value, us.length = fs.length + 1 → bindArgs (ksFn name qual params body scope dV kV doc pm an (.ref cda) ct cc) ⟨us, []⟩ = pure ((selfN :: fs).zip us)) ∧
    supB body = true ∧ asgB fs (body.drop 1) = true ∧ scB fs scope = true

/-! ### lists of named values -/
theorem look_mem {β : Type} {k : Str} {v : β} : ∀ {l : List (Str × β)}, (l.map (·.1)).Nodup → (k, v) ∈ l → l.lookup k = some v
  | [], _, h => by cases h
  | (a, b) :: l, hn, h => by
    rw [List.map_cons, List.nodup_cons] at hn
    rcases List.mem_cons.mp h with e | h2
    · cases e
      simp [List.lookup]
    · have : (k == a) = false := by
        rw [beq_eq_false_iff_ne]
        rintro rfl
        exact hn.1 (List.mem_map.mpr ⟨_, h2, rfl⟩)
      rw [List.lookup, this]
      exact look_mem hn.2 h2
theorem zip_fst {β : Type} : ∀ (xs : List Str) (ys : List β), xs.length = ys.length → (xs.zip ys).map (·.1) = xs
  | [], _, _ => rfl
  | x :: xs, y :: ys, h => by simp [zip_fst xs ys (by simpa using h)]
  | x :: xs, [], h => by simp at h
theorem rlook {β : Type} {ns : List Str} {us : List β} (hn : ns.Nodup) (hl : ns.length = us.length) {k : Str} {v : β} (h : (k, v) ∈ ns.zip us) : (ns.zip us).reverse.lookup k = some v :=
  look_mem (by rw [List.map_reverse, zip_fst _ _ hl]; exact (List.reverse_perm ns).nodup_iff.mpr hn) (List.mem_reverse.mpr h)


/-- what __init__ leaves of a fresh exception at x -/
structure XEnd (h h' : Heap) (x C dx : Addr) (l : List (Str × Value)) : Prop where
  keep : ∀ b o, b ≠ x → h.get? b = some o → h'.get? b = some o
  obj : ∃ t1 : Addr, h'.get? x = some { cls := .ref C, dict := some dx, data := .fields #[.ref t1, .none, .none, .none, .bool false, .none] }
  dbig : h.objs.size ≤ dx
  dne : dx ≠ x
  ns : ∃ mA, h'.Ns1 dx mA ∧ ∀ y, mA y = l.lookup y

section
variable {P : Program} {w : World} {A : Around} {E : Value → Shared → Prop} {s : Shared} {K : Frag} {C fI : Addr} {fs : List Str} {env : PySem.Env}
theorem within_look : ∀ {l : List (Str × Value)} {mA : Str → Option Value}, (∀ y, mA y = l.lookup y) → Within mA (l.map (·.1)) := fun {l mA} r y hy => by
  have key : ∀ {l : List (Str × Value)} {v : Value}, l.lookup y = some v → y ∈ l.map (·.1) := by
    intro l
    induction l with
    | nil => intro v h; cases h
    | cons p l ih =>
      intro v h
      obtain ⟨f, z⟩ := p
      by_cases e : y = f
      · rw [e]; exact List.mem_cons_self ..
      · have : (y == f) = false := by rw [beq_eq_false_iff_ne]; exact e
        rw [List.lookup, this] at h
        exact List.mem_cons_of_mem _ (ih h)
  cases hm : mA y with
  | none => exact absurd hm hy
  | some v => exact key ((r y).symm.trans hm)
theorem look_put {l : List (Str × Value)} {mA : Str → Option Value} (r : ∀ y, mA y = l.lookup y) (f : Str) (v : Value) (y : Str) : (if y = f then some v else mA y) = ((f, v) :: l).lookup y := by
  by_cases e : y = f
  · subst e; simp [List.lookup]
  · have : (y == f) = false := by rw [beq_eq_false_iff_ne]; exact e
    rw [if_neg e, List.lookup, this, r]

theorem ldM {M : Model} {L : Addr} {m : Str → Option Value} {x : Str} {pos : Pos} {v : Value} {Q : Value → Shared → Prop} (hn : s.heap.Ns env.locals m) (hv : m x = some v) (h : Q v s)
    (hk : env.scope.kind = .function) (hl : env.kindOf x = some .local) (hd : (x == ("__debug__" : Str)) = false) : wpAny M A (eval (.Name x pos) env) Q E s := wpAny_Name (wpAny_loadName_local hk hl hn hv h) hd

/-- the further fields -/
theorem asgs_old (T : L2.OexC K C) {x dx : Addr} {m : Str → Option Value} (hk : env.scope.kind = .function) (hself : m selfN = some (.ref x)) (lself : env.kindOf selfN = some .local) :
    ∀ (fs : List Str) (vs : List Value) (body : List Stmt) (l : List (Str × Value)) (s : Shared) (Q : Shared → Prop), asgB fs body = true → fs.length = vs.length → l.length + fs.length ≤ 900 →
      (∀ f ∈ fs, findIn K (.ref C) f = some none) → (∀ p ∈ fs.zip vs, m p.1 = some p.2) → (∀ f ∈ fs, env.kindOf f = some .local) → K.In s.heap → s.heap.Ns env.locals m → env.locals ≠ dx →
      K.lookup dx = none → (∃ t1 : Addr, s.heap.get? x = some { cls := .ref C, dict := some dx, data := .fields #[.ref t1, .none, .none, .none, .bool false, .none] }) → x ≠ dx →
      (∃ mA, s.heap.Ns1 dx mA ∧ ∀ y, mA y = l.lookup y) →
      (∀ h' tk', (∀ b o, b ≠ dx → s.heap.get? b = some o → h'.get? b = some o) → (∃ mA, h'.Ns1 dx mA ∧ ∀ y, mA y = ((fs.zip vs).reverse ++ l).lookup y) → Q { s with heap := h', toks := tk' }) →
      wpAny (model P w) A (execs body env) (fun fl s' => fl = .next ∧ Q s') E s
  | [], vs, body, l, s, Q, hb, _, _, _, _, _, _, _, _, _, _, _, hm, q => by
    cases body with
    | nil => exact wpAny_execs_nil ⟨rfl, q s.heap s.toks (fun _ _ _ e => e) (by simpa using hm)⟩
    | cons a b => simp [asgB] at hb
  | f :: fs, v :: vs, body, l, s, Q, hb, hlen, hsz, hno, hmm, hloc, X, hns, hL, hdK, ⟨t1, hx⟩, hxd, ⟨mA, hmA, rA⟩, q => by
    unfold asgB at hb
    split at hb
    · rename_i r
      simp only [Bool.and_eq_true, decide_eq_true_eq, beq_iff_eq] at hb
      obtain ⟨rfl, h2, h3, hdb, hr⟩ := hb
      subst h2 h3
      obtain ⟨nm, q0, N, bs, bm, sn, sub, ab, col, dd, k0, k1, k2, k3, k5, hC, hbm⟩ := T.cls
      have hcl : clsIn K C = some { name := nm, bases := bs, mro := .ref C :: bm, ns := N, qualname := q0, hasDict := true, slotNames := sn, subclasses := sub, abstract := ab, collection := col, hasDel := false } := by unfold clsIn; rw [hC] <;> rfl
      refine wpAny_execs_cons (plainObj_wpAny_Assign_Attribute ?_ rfl)
      refine ldM (L := x) hns (hmm (_, v) (by simp)) (ldM (L := x) hns hself ?_ hk lself rfl) hk (hloc _ (List.mem_cons_self ..)) hdb
      obtain ⟨hp, g, dr, tk, os⟩ := s
      obtain ⟨oD, _, _, hoD, _, _⟩ := hmA.count (within_look rA)
      refine set_plain X (ox := { cls := .ref C, dict := some dx, data := .fields #[.ref t1, .none, .none, .none, .bool false, .none] }) (od := some oD) ⟨hx, rfl, rfl, hoD⟩ T.sa ?_
      refine PySem.OEX.osa_old X hx hmA (within_look rA) (by rw [List.length_map]; simp at hsz; omega) hcl (show refsVE (.ref C :: bm) = true from hbm) rfl (hno _ (List.mem_cons_self ..)) (fun h2 tk2 k hn => ?_)
      show wpAny _ _ (execs r env) _ _ _
      refine asgs_old T hk hself lself fs vs r ((_, v) :: l) ⟨h2, g, dr, tk2, os⟩ Q hr (by simpa using hlen) (by simp at hsz ⊢; omega) (fun f hf => hno f (List.mem_cons_of_mem _ hf)) (fun p hp => hmm p (List.mem_cons_of_mem _ hp)) (fun f hf => hloc f (List.mem_cons_of_mem _ hf))
        (fun a o e => k a o (fun z => by rw [z, hdK] at e; cases e) (X a o e)) (hns.at fun o e => k _ o hL e) hL hdK ⟨t1, k _ _ hxd hx⟩ hxd ⟨_, hn, look_put rA _ v⟩ fun h3 tk3 k3 r3 => ?_
      refine q h3 tk3 (fun b o hb e => k3 b o hb (k b o hb e)) ?_
      simpa [List.append_assoc] using r3
    · cases hb
  | f :: fs, [], body, l, s, Q, hb, hlen, _, _, _, _, _, _, _, _, _, _, _, _ => by simp at hlen

/-- the fields of an exception that has no dict as yet -/
theorem asgs_new (T : L2.OexC K C) {x : Addr} {m : Str → Option Value} (hk : env.scope.kind = .function) (hself : m selfN = some (.ref x)) (lself : env.kindOf selfN = some .local)
    {f : Str} {fs : List Str} {v : Value} {vs : List Value} {body : List Stmt} {s : Shared} {Q : Shared → Prop} (hb : asgB (f :: fs) body = true) (hlen : fs.length = vs.length) (hsz : fs.length ≤ 800)
    (hno : ∀ g ∈ f :: fs, findIn K (.ref C) g = some none) (hmm : ∀ p ∈ (f :: fs).zip (v :: vs), m p.1 = some p.2) (hloc : ∀ g ∈ f :: fs, env.kindOf g = some .local) (X : K.In s.heap) (hns : s.heap.Ns env.locals m) (hLx : env.locals ≠ x)
    (hxK : K.lookup x = none) {t1 : Addr} (hx : s.heap.get? x = some (excO C t1))
    (q : ∀ h' tk' dx, XEnd s.heap h' x C dx ((f :: fs).zip (v :: vs)).reverse → Q { s with heap := h', toks := tk' }) :
    wpAny (model P w) A (execs body env) (fun fl s' => fl = .next ∧ Q s') E s := by
  unfold asgB at hb
  split at hb
  · rename_i r
    simp only [Bool.and_eq_true, decide_eq_true_eq, beq_iff_eq] at hb
    obtain ⟨rfl, h2, h3, hdb, hr⟩ := hb
    subst h2 h3
    obtain ⟨nm, q0, N, bs, bm, sn, sub, ab, col, dd, k0, k1, k2, k3, k5, hC, hbm⟩ := T.cls
    have hcl : clsIn K C = some { name := nm, bases := bs, mro := .ref C :: bm, ns := N, qualname := q0, hasDict := true, slotNames := sn, subclasses := sub, abstract := ab, collection := col, hasDel := false } := by unfold clsIn; rw [hC] <;> rfl
    refine wpAny_execs_cons (plainObj_wpAny_Assign_Attribute ?_ rfl)
    refine ldM (L := x) hns (hmm (_, v) (by simp)) (ldM (L := x) hns hself ?_ hk lself rfl) hk (hloc _ (List.mem_cons_self ..)) hdb
    obtain ⟨hp, g, dr, tk, os⟩ := s
    refine set_plain X (ox := excO C t1) (od := none) ⟨hx, rfl, rfl, trivial⟩ T.sa ?_
    refine exc_osa X hx hcl (show refsVE (.ref C :: bm) = true from hbm) rfl (hno _ (List.mem_cons_self ..)) (fun h2 tk2 dx k dn dne hx2 hn => ?_)
    show wpAny _ _ (execs r env) _ _ _
    have lt : ∀ {b : Addr} {o : Obj}, hp.get? b = some o → b ≠ dx := fun e => Nat.ne_of_lt (Nat.lt_of_lt_of_le (Heap.lt_size e) dn)
    have hdK : K.lookup dx = none := by
      cases e : K.lookup dx with
      | none => rfl
      | some o => exact absurd rfl (lt (X _ _ e))
    have X2 : K.In h2 := fun a o e => k a o (fun z => by rw [z, hxK] at e; cases e) (X a o e)
    obtain ⟨oL, _, _, hoL, _⟩ := hns
    have hLd : env.locals ≠ dx := lt hoL
    refine asgs_old T hk hself lself fs vs r [(_, v)] ⟨h2, g, dr, tk2, os⟩ Q hr hlen (by simp; omega) (fun f hf => hno f (List.mem_cons_of_mem _ hf)) (fun p hp => hmm p (List.mem_cons_of_mem _ hp)) (fun f hf => hloc f (List.mem_cons_of_mem _ hf))
      X2 (Heap.Ns.at ⟨oL, _, _, hoL, by assumption⟩ fun o e => k _ o hLx e) hLd hdK ⟨t1, hx2⟩ (Ne.symm dne) ⟨_, hn, fun y => by
        exact look_put (l := []) (mA := fun _ => none) (fun _ => rfl) _ v y⟩ fun h3 tk3 k3 r3 => ?_
    refine q h3 tk3 dx ⟨fun b o hb e => k3 b o (lt e) (k b o hb e), ⟨t1, k3 _ _ (Ne.symm dne) hx2⟩, dn, dne, ?_⟩
    simpa using r3
  · cases hb

/-! ### super().__init__(text) -/
theorem call_bwV {h : Heap} {g : Array GenState} {d : Drawn} {t : Nat} {os : OsState} {nm q : Str} {N : Addr} {bs bm : List Value} {hdct : Bool} {sn : List Str} {sub : List Value} {ab : Bool} {col : Option Bool} {dd : Option Addr} {k0 k1 k2 k3 k5 : Option Value}
    {u e t0 : Addr} {rest : List Value} {Q : Value → Shared → Prop}
    (hC : h.get? C = some (excClassObj nm q C N bs bm hdct sn sub ab col dd k0 k1 k2 k3 k5 "ValueError.__new__")) (he : h.get? e = some (excO C t0)) (hu : h.get? u = some (kxs_mw "ValueError.__init__" e)) (hrest : rest.length ≤ sizeLine)
    (hq : ∀ h' t1, (∀ b o, b ≠ e → h.get? b = some o → h'.get? b = some o) → h'.get? e = some (excO C t1) → Q .none ⟨h', g, d, t, os⟩) :
    wpAny (model P w) A (call (.ref u) rest) Q E ⟨h, g, d, t, os⟩ := by
  refine wpAny_call (codeAny_of_tree ?_)
  show wpAny _ A.in1 (callAny (.ref u) ⟨rest, []⟩) _ _ _
  simp only [callAny]
  refine wpAny_bind (wpAny_load hu ?_)
  simp only [kxs_mw, show (Value.type "method-wrapper" == Value.type "method" || Value.type "method-wrapper" == Value.type "builtin_function_or_method" || Value.type "method-wrapper" == Value.type "method-wrapper") = true by decide, if_true]
  refine KFB.if_so (by decide) ?_
  refine wpAny_bind (check_bound_init PySem.F.excBase_ValueError.toExcCallFacts hC he rfl ?_)
  refine wpAny_bind (wpAny_pure (wpAny_pure ?_))
  refine ⟨plainId_quiet PySem.F.excBase_ValueError.init.plain _, codeAny_builtin PySem.F.excBase_ValueError.initEntry ?_⟩
  rw [Around.under_plainId PySem.F.excBase_ValueError.init.plain _]
  wp_walk
  refine hq _ h.objs.size (fun b o hb ho => ?_) ?_
  · rw [Heap.get?_update_other _ _ (Ne.symm hb)]
    exact Heap.get?_push_of_some _ ho
  · rw [Heap.get?_update_self _ (Heap.get?_push_of_some _ he) rfl]
    rfl
theorem he_of {o : Expr} {name : Str} {apos pos p : Pos} {c : Const} {k : Nat} (hline : (apos.endLine == pos.line) = true) :
    eval (.Call (.Attribute o name apos) [.Constant c k p] [] pos) env = (do
      let ov ← attributeBase o name env (eval o env)
      standAt apos.atName
      let (f, first) ← holding [ov] (getMethod ov name (do return (← importBound o env).getD true))
      callWith pos f first (backTo pos (starEach [.Constant c k p] env)) []) := by
  have hpos : methodCallPos true o env apos pos = pure pos := by unfold methodCallPos; simp [hline]
  have hform : methodCallForm (([.Constant c k p] : List Expr).length + ([] : List Keyword).length) (backTo pos (starEach [.Constant c k p] env)) (backToKw pos (keywordEach [] env)) = true := rfl
  rw [arm_eval_Call]
  unfold methodCall
  rw [hform, hpos]
  rfl
end
end PD

end

section
set_option Elab.async false
set_option linter.all false
set_option autoImplicit false
set_option maxRecDepth 100000
set_option maxHeartbeats 1000000
/-! __init__ walked; C(e, ..) as a rule. Own work. -/
namespace PD
open PySem PySem.W PySem.Calls PyProof.Rows PySem.HandSPX
section
variable {P : Program} {w : World} {A : Around} {E : Value → Shared → Prop} {R : Result → Shared → Prop} {s : Shared} {K : Frag} {C fI : Addr} {fs : List Str} {mg : Str → Option Value} {base : Heap}
theorem x_init (T : XTxt P K C fI fs) (M : L2.Mod K mg base) (hsu : mg "super" = none) (bk : ∀ b o, base.get? b = some o → s.heap.get? b = some o) {x t0 : Addr} {vs : List Value} (hlen : fs.length = vs.length) (hne : fs ≠ [])
    (hlim : s.heap.NoLimit) (hx : s.heap.get? x = some (excO C t0)) (hnx : K.lookup x = none) (hroom : A.depth < recursionLimit)
    (hq : ∀ h' tk dx, XEnd s.heap h' x C dx (fs.zip vs).reverse → R (.ok (.ret .none)) { s with heap := h', toks := tk }) :
    codeAny (model P w) A (.call (.ref fI) ⟨.ref x :: vs, []⟩) R s := by
  obtain ⟨oc, od, name, qual, params, body, scope, dV, kV, doc, pm, ct, an, cda, cc, osl, ho, hcd, ⟨ccl, cdd, cvs, ccs, file, tf, hcode, hvs, hfile⟩, ⟨cl, cld, csl, hcell⟩, ⟨ar, hp, har⟩, hbind, hsup, hasg, hsc⟩ := T.fn
  obtain ⟨nm, q, N, bs, bm, sn, sub, ab, col, dd, k0, k1, k2, k3, k5, hC, hbm⟩ := T.T.cls
  have hcl : clsIn K C = some { name := nm, bases := bs, mro := .ref C :: bm, ns := N, qualname := q, hasDict := true, slotNames := sn, subclasses := sub, abstract := ab, collection := col, hasDel := false } := by unfold clsIn; rw [hC] <;> rfl
  have X : K.In s.heap := M.kin.keeps bk
  unfold scB at hsc
  simp only [Bool.and_eq_true, decide_eq_true_eq, beq_iff_eq, List.all_eq_true] at hsc
  obtain ⟨hk, hco, hgen, hnc, hks, hkc, hloc⟩ := hsc
  have hz : (selfN :: fs).length = (Value.ref x :: vs).length := by simp [hlen]
  have hnc' : ∀ y ∈ scope.names, y.2 ≠ .cell := fun y hy => by
    unfold noCell at hnc
    simpa using List.all_eq_true.mp hnc y hy
  refine ks_codeAny_call_defAt (fd := ksFn name qual params body scope dV kV doc pm an (.ref cda) ct cc) (body := body) (binds := (selfN :: fs).zip (Value.ref x :: vs)) hroom (X _ _ ho) rfl hlim (codeRec_of X hcd) rfl
    (BindsTo.of_eq (hbind _ (by simp [hlen]))) hnc' (fun y hy => hloc _ (List.of_mem_zip (a := y.1) (b := y.2) hy).1) (fun h₁ hns k => ?_) hco hgen hk
  have ns : ∀ p ∈ (selfN :: fs).zip (Value.ref x :: vs), ((selfN :: fs).zip (Value.ref x :: vs)).reverse.lookup p.1 = some p.2 := fun p hp => rlook T.nd hz hp
  have hself : ((selfN :: fs).zip (Value.ref x :: vs)).reverse.lookup selfN = some (.ref x) := ns (selfN, .ref x) (by simp)
  have X₁ : K.In h₁ := X.keeps k
  have hx₁ := k _ _ hx
  have hCx : x ≠ C := fun z => by
    rw [z] at hnx
    rw [hnx] at hC
    cases hC
  -- super().__init__(text)
  unfold supB at hsup
  split at hsup
  · rename_i n p0 p1 m ap tx k9 p9 cp p10 rest
    simp only [Bool.and_eq_true, decide_eq_true_eq] at hsup
    obtain ⟨rfl, rfl, hline⟩ := hsup
    refine ks_wpAt_execs_cons (ks_wpAt_Expr_any (ks_wpAt_MethodCall ?_ (he_of hline)) (by
      show interactive _ = false
      simp [interactive, callEnv, newEnv, hk]) rfl)
    refine ks_wpAt_super_base (env := callEnv (ksFn name qual params _ scope dV kV doc pm an (.ref cda) ct cc) s.heap.objs.size fI) hks hkc (by decide) rfl (X₁ _ _ ho) rfl hp rfl (X₁ _ _ hcode) rfl hvs hfile T.htop ?_
    obtain ⟨mb, hb1, hb2⟩ := M.blt
    have bk₁ : ∀ b o, base.get? b = some o → h₁.get? b = some o := fun b o e => k b o (bk b o e)
    refine ks_loadName_global hk hks (loadGlobal_builtin (mg := mg) (M.glob.keeps bk₁) hsu (hb1.keeps bk₁) ((hb2 _ (by decide)).trans (by decide +kernel : bootBuiltins "super" = some (.type "super"))) ⟨rfl, ?_⟩)
    refine wpAny_loadName_free hk hkc rfl ⟨_, X₁ _ _ hcell, rfl⟩ ?_
    rw [har]
    refine wpAny_loadName_local hk (hloc _ (List.mem_cons_self ..)) hns hself ?_
    have hC₁ := X₁ _ _ hC
    refine ks_wpAny_isType_cls hC₁ rfl ⟨rfl, ?_⟩
    refine ks_wpAny_call_super hC₁ rfl hx₁ rfl (fun c e => by cases e) (looks_mroIn X₁ T.sub) (fun h₂ hso k2 => ?_)
    have X₂ : K.In h₂ := X₁.keeps k2
    have hm := T.sup
    unfold ks_superIn at hm
    rw [hcl] at hm
    have I₂ : InstAt h₂ x (excO C t0) C none := ⟨k2 _ _ hx₁, rfl, rfl, trivial⟩
    refine kxs_getMethod kxs_ValueError hso (looks_opaque X₂ T.opq) (l₀ := .ref C :: bm) ?_ rfl X₂ hm (I₂.type.andThen (looks_subIn X₂ T.ve)) hCx (by decide) ?_
    · exact fun A Q E s k q => wpAny_bind ((looks_clsIn X₂ hcl) A _ E s k (wpAny_pure q))
    have hns2 := hns.keeps k2
    have hu : (h₂.push (kxs_mw "ValueError.__init__" x)).get? h₂.objs.size = some (kxs_mw "ValueError.__init__" x) := Heap.get?_push_at rfl rfl
    have k3 : ∀ b o, h₂.get? b = some o → (h₂.push (kxs_mw "ValueError.__init__" x)).get? b = some o := fun b o e => Heap.get?_push_of_some _ e
    refine kxs_callWith (i := "ValueError.__init__") (x := x) (by rfl) (evalArgs_plain (spliced_cons (Constant_str (pos := p9) (k := k9) (spliced_nil ⟨hu, ?_⟩))))
    refine call_bwV (k3 _ _ (k2 _ _ hC₁)) (k3 _ _ (k2 _ _ hx₁)) hu (by show 1 ≤ sizeLine; decide) fun h₃ t1 k4 hx₃ => ?_
    have old : ∀ b o, b ≠ x → h₁.get? b = some o → h₃.get? b = some o := fun b o hb e => k4 b o hb (k3 b o (k2 b o e))
    have X₃ : K.In h₃ := fun a o e => old a o (fun z => by rw [z, hnx] at e; cases e) (X₁ a o e)
    have hLx : s.heap.objs.size ≠ x := Nat.ne_of_gt (Heap.lt_size hx)
    have hns3 : h₃.Ns s.heap.objs.size (fun y => ((selfN :: fs).zip (Value.ref x :: vs)).reverse.lookup y) := hns.at fun o e => old _ o hLx e
    -- the fields
    cases fs with
    | nil => exact absurd rfl hne
    | cons f fs =>
      cases vs with
      | nil => simp at hlen
      | cons v vs =>
        refine wpAt_of_wpAny (wpAny_mono (asgs_new (Q := fun s' => R (.ok (.ret .none)) s') (env := callEnv (ksFn name qual params _ scope dV kV doc pm an (.ref cda) ct cc) s.heap.objs.size fI) (m := fun y => ((selfN :: f :: fs).zip (Value.ref x :: v :: vs)).reverse.lookup y) T.T hk hself (hloc _ (List.mem_cons_self ..)) hasg (by simpa using hlen) (by have := T.few; simp at this; omega) T.noF
          (fun p hp => ns p (by rw [List.zip_cons_cons]; exact List.mem_cons_of_mem _ hp)) (fun g hg => hloc g (List.mem_cons_of_mem _ hg)) X₃ hns3 hLx hnx hx₃ fun h' tk' dx e => ?_) (fun fl s' hh => ?_) fun _ _ z => z)
        · have sz : s.heap.objs.size ≤ h₃.objs.size := Nat.le_of_lt hns3.lt
          refine hq h' tk' dx ⟨fun b o hb ee => e.keep b o hb (old b o hb (k b o ee)), e.obj, Nat.le_trans sz e.dbig, e.dne, ?_⟩
          exact e.ns
        · obtain ⟨rfl, hh⟩ := hh
          exact hh
  · cases hsup

theorem relO_rev : ∀ {fs : List Str} {vs : List L2.V} {us : List Value}, L2.Vals vs us → ∀ (l : List (Str × L2.V)) (l' : List (Str × Value)), (∀ y, L2.RelO (l.lookup y) (l'.lookup y)) → ∀ y, L2.RelO (((fs.zip vs).reverse ++ l).lookup y) (((fs.zip us).reverse ++ l').lookup y)
  | [], _, _, _, l, l', h, y => by simpa using h y
  | f :: fs, _, _, .nil, l, l', h, y => by simpa using h y
  | f :: fs, v :: vs, u :: us, .cons r t, l, l', h, y => by
    have := relO_rev (fs := fs) t ((f, v) :: l) ((f, u) :: l') (fun z => by
      by_cases e : z = f
      · subst e; simp [List.lookup]; exact r
      · have : (z == f) = false := by rw [beq_eq_false_iff_ne]; exact e
        simp only [List.lookup, this]
        exact h z) y
    simpa [List.append_assoc] using this
end
end PD

namespace PD
open PySem PySem.Spec L2
/-- C(e, ..): a new exception of that class, its fields the arguments -/
def tMkX (Ca : Addr) (fs : List Str) (ta : TA) : L2.St → Hp → XK → Prop := fun σ H Q => ta σ H fun vs H1 => vs.length = fs.length ∧ ∀ d, H1 d = none → Q (.ref Ca) (some d) (upd H1 d (.xd (fs.zip vs).reverse))
theorem pmk_x {X : Cx} {C fI : Addr} {fs : List Str} {k : Nat} {x : Str} {p pos : Pos} {e : Expr} {es : List Expr} {ta : TA} (T : XTxt X.prog X.K C fI fs) (hne : fs ≠ []) (hsu : X.mg "super" = none) (hr : Room k X.A) (hg : Gl X x) (hm : X.mg x = some (.ref C))
    (ha : PA X (e :: es) ta) (hdb : (x == ("__debug__" : Str)) = false) (he : starEach (e :: es) X.env = (false, eval e X.env) :: starEach es X.env) (hpl : (backTo pos (starEach es X.env)).any (·.1) = false) :
    L2N.PMk X (.Call (.Name x p) (e :: es) [] pos) (tMkX C fs ta) := by
  intro pins s σ H Q I h
  obtain ⟨nm, q, N, bs, bm, sn, sub, ab, col, dd, k0, k1, k2, k3, k5, hC, hbm⟩ := T.T.cls
  refine wpAny_Call_Name_kw (ld_glob I hg hm ?_ hdb)
  refine PySem.W.callWith_K (h₀ := X.base) I.ok.mod.kin T.T.kC (thn (ha.run pos pins s σ H _ I h) fun us s1 ⟨vs, H1, I1, r1, hz, q1⟩ => ⟨I1.kIn, ?_⟩) he hpl
  show wpAny _ _ (call (.ref C) us) _ _ _
  have hlim := I1.nolimit
  have bk := I1.bk
  have hnX : X.K.lookup (s1.heap.objs.size + 1) = none := by
    cases e : X.K.lookup (s1.heap.objs.size + 1) with
    | none => rfl
    | some o => exact absurd (Nat.lt_of_succ_lt (Heap.lt_size (I1.kIn _ _ e))) (Nat.lt_irrefl _)
  obtain ⟨hp, g, dr, tk, os⟩ := s1
  have lenU : us.length = fs.length := by rw [← Paired.length r1]; exact hz
  have few := T.few
  have kk : ∀ b o, hp.get? b = some o → ((hp.push (PySem.W.kdv_tup us)).push (PySem.HandSPX.excO C hp.objs.size)).get? b = some o := fun b o e => Heap.get?_push_of_some _ (Heap.get?_push_of_some _ e)
  have hget : ((hp.push (PySem.W.kdv_tup us)).push (PySem.HandSPX.excO C hp.objs.size)).get? (hp.objs.size + 1) = some (PySem.HandSPX.excO C hp.objs.size) := by heap_get
  refine wpAny_call (PySem.HandSPX.call_own PySem.F.excBase_ValueError (fun Y => PySem.HandSPX.refsVE_contains Y bm hbm) (I1.kIn _ _ hC) (PySem.W.looks_findIn I1.kIn T.iC) (fun self => PySem.W.bind_fn I1.kIn self T.tI) (by rw [lenU, sizeLine_eq]; omega) ?_)
  refine x_init (s := ⟨(hp.push (PySem.W.kdv_tup us)).push (PySem.HandSPX.excO C hp.objs.size), g, dr, tk, os⟩) T I.ok.mod hsu (fun b o e => kk b o (bk b o e)) lenU.symm hne (hlim.keeps kk) hget hnX ?_ fun h' tk' dx M => ?_
  · have := hr.dp
    show X.A.depth + 1 < recursionLimit
    have : recursionLimit = 1000 := rfl
    omega
  · refine ⟨rfl, ?_⟩
    show L2N.MkP X pins σ Q (.ref (hp.objs.size + 1)) ⟨h', g, dr, tk', os⟩
    obtain ⟨t1, hobj⟩ := M.obj
    obtain ⟨mA, hns, rA⟩ := M.ns
    have new : hp.objs.size ≤ hp.objs.size + 1 := Nat.le_succ _
    have M_keep : ∀ b o, hp.get? b = some o → h'.get? b = some o := fun b o e => M.keep b o (Nat.ne_of_lt (Nat.lt_succ_of_lt (Heap.lt_size e))) (kk b o e)
    have dbig : hp.objs.size ≤ dx := by
      have z := M.dbig
      have z : ((hp.push (PySem.W.kdv_tup us)).push (PySem.HandSPX.excO C hp.objs.size)).objs.size ≤ dx := z
      rw [Heap.size_push, Heap.size_push] at z
      omega
    obtain ⟨G', g1, g2⟩ := restrict h' fun b => decide (b ≠ hp.objs.size + 1)
    have gk : ∀ b, b ≠ hp.objs.size + 1 → G'.get? b = h'.get? b := fun b hb => g1 b (decide_eq_true hb)
    have ge : G'.get? (hp.objs.size + 1) = none := g2 _ (by simp)
    have old : ∀ b o, hp.get? b = some o → G'.get? b = some o := fun b o q => (gk b (Nat.ne_of_lt (Nat.lt_of_lt_of_le (Heap.lt_size q) new))).trans (M_keep b o q)
    have rel : ∀ y, RelO ((fs.zip vs).reverse.lookup y) (mA y) := fun y => by
      rw [rA y]
      simpa using relO_rev (fs := fs) r1 [] [] (fun _ => trivial) y
    have ob : ObjOk X.prog X.w (upd H1 dx (.xd (fs.zip vs).reverse)) G' dx (.xd (fs.zip vs).reverse) := ⟨mA, hns.at (fun o q => (gk dx M.dne).trans q), rel⟩
    have J : Inv X pins σ (upd H1 dx (.xd (fs.zip vs).reverse)) ⟨G', g, dr, tk', os⟩ := I1.laid (t' := tk') old dbig ob
    refine ⟨hp.objs.size + 1, _, _, ⟨G', g, dr, tk', os⟩, _, .ref C, some dx, rfl, J, fun b o q => ?_, ge, hobj, ⟨rfl, rfl, fun vs e => by cases e; rfl⟩, rfl, rfl, ?_, rfl, I1.bare, raises_own T.T.exC T.T.tyC, q1 dx (I1.hok.fresh dbig)⟩
    · by_cases hb : b = hp.objs.size + 1
      · have q' : G'.get? b = some o := q
        rw [hb, ge] at q'; cases q'
      · exact (gk b hb).symm.trans q
    · rw [upd_ne (Ne.symm M.dne)]
      exact I1.hok.fresh new
end PD

end

section
set_option Elab.async false
set_option linter.all false
set_option autoImplicit false
set_option maxRecDepth 100000
set_option maxHeartbeats 1000000
/-! try with any number of clauses, each with a name for the exception or without one. Own work. -/
namespace PD
open PySem PySem.Spec PyProof.Rows L2

/-- a clause: the class, the slot of its name, what its suite does -/
structure HdT where
  c : Value
  sl : Option Nat
  ts : Addr → Value → Option Addr → TS
def putS (sl : Option Nat) (x : Addr) (σ : L2.St) : L2.St := match sl with
  | none => σ
  | some i => σ.set i (some (.ref x))
def goneS (sl : Option Nat) (σ : L2.St) : L2.St := match sl with
  | none => σ
  | some i => σ.set i none
def dropE (sl : Option Nat) (D : Ends) : Ends := ⟨fun σ H => D.nx (goneS sl σ) H, D.rt, fun σ H => D.bk (goneS sl σ) H, fun σ H => D.ct (goneS sl σ) H⟩
/-- what the clauses wish -/
def wHds (K : PySem.W.Frag) (n : Nat) (Wo : WX) (D : Ends) : List HdT → WX
  | [] => Wo
  | h :: r => fun T dd σ H => ∃ b, PySem.W.exmOne K T h.c = some b ∧ (b = true → ∀ x, H x = none → σ.length = n → h.ts x T dd (dropE h.sl D) (putS h.sl x σ) H) ∧ (b = false → wHds K n Wo D r T dd σ H)
inductive HdR (X : Cx) : ExceptHandler → HdT → Prop
  | plain {x : Str} {np q : Pos} {st : Stmt} {r : List Stmt} {h : HdT} (hn : h.sl = none) (nm : Names X x h.c)
      (su : ∀ (e : Addr) (o : Obj) (T : Value) (dd : Option Addr) (pl : List (Addr × Obj)), L2N.Zn T dd o → (∃ vs, o.data = .fields vs) → PSs (X.suite e ((e, o) :: pl)) (st :: r) (h.ts e T dd)) :
      HdR X (.ExceptHandler (some (.Name x np)) none (st :: r) q) h
  | named {x n : Str} {i : Nat} {np q : Pos} {st : Stmt} {r : List Stmt} {h : HdT} (hn : h.sl = some i) (hi : X.N[i]? = some n) (hl : X.env.kindOf n = some .local) (nm : Names X x h.c)
      (su : ∀ (e : Addr) (o : Obj) (T : Value) (dd : Option Addr) (pl : List (Addr × Obj)), L2N.Zn T dd o → (∃ vs, o.data = .fields vs) → PSs (X.suite e ((e, o) :: pl)) (st :: r) (h.ts e T dd)) :
      HdR X (.ExceptHandler (some (.Name x np)) (some n) (st :: r) q) h
inductive HdsR (X : Cx) : List ExceptHandler → List HdT → Prop
  | nil : HdsR X [] []
  | cons {eh : ExceptHandler} {h : HdT} {ehs : List ExceptHandler} {hs : List HdT} : HdR X eh h → HdsR X ehs hs → HdsR X (eh :: ehs) (h :: hs)

/-- an exception that has come down in this frame -/
structure Down (X : Cx) (pins : List (Addr × Obj)) (e : Addr) (B : Heap) (sI : Shared) (σ : L2.St) (H : Hp) (T : Value) (dd : Option Addr) (s : Shared) : Prop where
  inv : Inv X pins σ H sI
  old : ∀ b o, sI.heap.get? b = some o → b ∉ frs X.stack → B.get? b = some o
  up : sI.heap.UpToSlots s.heap
  fly : HandSPX.FlyingZ B (X.env :: X.outer) e (L2N.Zn T dd) s.heap
  free : H e = none
  os : s.os = sI.os
  bare : AllBare s.gens
section
variable {X : Cx} {pins : List (Addr × Obj)} {e : Addr} {B : Heap} {sI s : Shared} {σ : L2.St} {H : Hp} {T : Value} {dd : Option Addr}
theorem Down.at_ (d : Down X pins e B sI σ H T dd s) : Inv X pins σ H s := d.inv.landed d.old d.fly.1 d.up d.os d.bare
theorem Down.obj (d : Down X pins e B sI σ H T dd s) : ∃ (o : Obj) (vs : Array Value), s.heap.get? e = some o ∧ L2N.Zn T dd o ∧ o.data = .fields vs := by
  obtain ⟨o, vs, h1, h2, h3⟩ := d.fly.there
  exact ⟨o, vs, h1, h2, h3⟩
theorem Down.noframe (d : Down X pins e B sI σ H T dd s) : e ∉ frs (X.env :: X.outer) := fun hm => by
  obtain ⟨o, vs, h1, _, h3⟩ := d.obj
  obtain ⟨_, o2, h4, hnf⟩ := d.fly.2.2.1.mem hm
  rw [h1] at h4
  cases h4
  exact hnf _ h3
theorem Down.off (d : Down X pins e B sI σ H T dd s) (hf : X.env.frame = some X.env.locals) : e ≠ X.env.locals ∧ e ∉ X.fs := by
  refine ⟨fun z => d.noframe (List.mem_filterMap.mpr ⟨X.env, List.mem_cons_self, by rw [hf, z]⟩), fun hm => ?_⟩
  obtain ⟨v, hv, q⟩ := List.mem_filterMap.mp hm
  exact d.noframe (List.mem_filterMap.mpr ⟨v, List.mem_cons_of_mem _ hv, q⟩)
theorem Down.su (d : Down X pins e B sI σ H T dd s) (hf : X.env.frame = some X.env.locals) {o : Obj} {vs : Array Value} (h1 : s.heap.get? e = some o) (h3 : o.data = .fields vs) :
    Inv (X.suite e ((e, o) :: (X.pn ++ pins))) [] σ H s := d.at_.suite h1 h3 d.free (d.off hf).1 (d.off hf).2
/-- the clause's test -/
theorem Down.test (d : Down X pins e B sI σ H T dd s) (hf : X.env.frame = some X.env.locals) {x : Str} {np q : Pos} {c : Value} {b : Bool} {R : Result → Shared → Prop} (nm : Names X x c) (hb : PySem.W.exmOne X.K T c = some b)
    (h : R (.ok (if b then .brk else .next)) s) : codeAny (model X.prog X.w) (X.A.mark (some (.ref e))) (.handlers (.ref e) [.ExceptHandler (some (.Name x np)) none [] q] X.env) R s := by
  obtain ⟨o, vs, h1, h2, h3⟩ := d.obj
  have S := d.su hf h1 h3
  have look : PySem.W.Looks (model X.prog X.w) s.heap (typeOf (.ref e)) T := fun A Q E s1 k g => wpAny_typeOf_ref (k _ _ h1) (by rw [h2.1]; exact g)
  refine codeAny_handlers_test ?_
  have ld : ∀ {Q : Value → Shared → Prop} {E : Value → Shared → Prop}, Q c s → wpAny (model X.prog X.w) (X.A.mark (some (.ref e))) (eval (.Name x np) X.env) Q E s := by
    intro Q E g
    obtain ⟨gl, nd, m | ⟨m, bv, nn⟩⟩ := nm
    · exact ld_glob (X := X.suite e ((e, o) :: (X.pn ++ pins))) S gl m g nd
    · exact ld_blt (X := X.suite e ((e, o) :: (X.pn ++ pins))) S gl m bv g nn nd
  exact ld ((PySem.W.exm_one (M := model X.prog X.w) d.at_.kIn look hb).here h)
/-- no clause is left: it goes on up -/
theorem Down.rise (d : Down X pins e B sI σ H T dd s) (hs : X.stack = X.env :: X.outer) (hf : X.env.frame = some X.env.locals) {Wo : WX} (tk : L2N.Takes X Wo) (w : Wo T dd σ H) {Q : Flow → Shared → Prop} :
    wpAny (model X.prog X.w) X.A (handleBy (.ref e) X.env []) Q X.xe s := by
  refine wpAny_handleBy_nil ?_
  obtain ⟨_, _, _, o, vs, tb, _, _, h1, _, h3, h4, _⟩ := id d.fly
  unfold PySem.passOn
  refine wpAny_bind (wpAny_field h1 h3 h4 ?_)
  rw [if_neg (by simp)]
  have out : wpAny (model X.prog X.w) X.A (setFlight (.ref e) X.env.frame) (fun _ s2 => wpAny (model X.prog X.w) X.A (throw (.ref e) : Sem Flow) Q X.xe s2) X.xe s := by
    rw [hf]
    refine HandSPX.setFlight_upZ d.fly fun h2 hh up2 => ?_
    refine wpAny_throw (tk _ _ ⟨e, B, sI, pins, σ, H, T, dd, rfl, d.inv, d.old, d.up.trans up2, ?_, d.free, d.os, d.bare, w⟩)
    exact .inr (.inr (by rw [hs]; exact hh))
  first
    | exact wpAny_bind (wpAny_pure (wpAny_bind out))
    | exact wpAny_bind out
/-- a suite's end -/
theorem sp_unsuite {q : Addr × Obj} {D : Ends} {f : Flow} (ok : X.Ok) (h : SP (X.suite e (q :: (X.pn ++ pins))) [] D f s) : SP X pins D f s := by
  cases f with
  | next => obtain ⟨σ', H', I, z⟩ := h; exact ⟨σ', H', I.unsuite ok, z⟩
  | brk => obtain ⟨σ', H', I, z⟩ := h; exact ⟨σ', H', I.unsuite ok, z⟩
  | cont => obtain ⟨σ', H', I, z⟩ := h; exact ⟨σ', H', I.unsuite ok, z⟩
  | ret u => obtain ⟨v, σ', H', I, rv, z⟩ := h; exact ⟨v, σ', H', I.unsuite ok, rv, z⟩
theorem sp_gone {i : Nat} {n : Str} {q : Pos} {D : Ends} {f : Flow} (hN : X.N.Nodup) (hi : X.N[i]? = some n) (hl : X.env.kindOf n = some .local) (h : SP X pins (dropE (some i) D) f s) :
    wpAny (model X.prog X.w) X.A (do bindName X.env n .none; unbindBehindTheSuite X.env n q) (fun _ s2 => SP X pins D f s2) X.xe s := by
  cases f with
  | next => obtain ⟨σ', H', I, z⟩ := h; exact gone_ok I hN hi hl fun s2 J => ⟨_, _, J, z⟩
  | brk => obtain ⟨σ', H', I, z⟩ := h; exact gone_ok I hN hi hl fun s2 J => ⟨_, _, J, z⟩
  | cont => obtain ⟨σ', H', I, z⟩ := h; exact gone_ok I hN hi hl fun s2 J => ⟨_, _, J, z⟩
  | ret u => obtain ⟨v, σ', H', I, rv, z⟩ := h; exact gone_ok I hN hi hl fun s2 J => ⟨_, _, _, J, rv, z⟩
theorem dropE_none {D : Ends} : dropE none D = D := rfl
/-- the clauses, one after the other -/
theorem Down.by_ (d : Down X pins e B sI σ H T dd s) (hs : X.stack = X.env :: X.outer) (hf : X.env.frame = some X.env.locals) (hN : X.N.Nodup) {Wo : WX} (tk : L2N.Takes X Wo) {D : Ends} {ehs : List ExceptHandler} {l : List HdT} (hr : HdsR X ehs l) :
    wHds X.K X.N.length Wo D l T dd σ H → wpAny (model X.prog X.w) X.A (handleBy (.ref e) X.env ehs) (SP X pins D) X.xe s := by
  have ok := d.inv.ok
  induction hr with
  | nil => exact fun w => d.rise hs hf tk w
  | cons h1 _ ih =>
    intro w
    obtain ⟨b, eb, yes, no⟩ := w
    cases h1 with
    | plain hn nm su =>
      refine wpAny_handleBy_cons (d.test hf nm eb ?_) (by intro z; cases z)
      cases b with
      | false => exact ih (no rfl)
      | true =>
        refine codeAny_handlers_suite (HandSPX.lands_againZ d.fly fun h2 fl2 up2 => ?_)
        have d2 : Down X pins e B sI σ H T dd { s with heap := h2 } := ⟨d.inv, d.old, d.up.trans up2, fl2, d.free, d.os, d.bare⟩
        obtain ⟨o, vs, g1, g2, g3⟩ := d2.obj
        have q := yes rfl e d.free d.inv.len
        rw [hn, dropE_none] at q
        exact wpAny_mono ((su e o T dd (X.pn ++ pins) g2 ⟨_, g3⟩).run [] _ _ H _ (d2.su hf g1 g3) q) (fun f s2 hsp => sp_unsuite ok hsp) fun _ _ z => False.elim z
    | named hn hi hl nm su =>
      refine wpAny_handleBy_cons (d.test hf nm eb ?_) (by intro z; cases z)
      cases b with
      | false => exact ih (no rfl)
      | true =>
        refine codeAny_handlers_suite_as (HandSPX.lands_againZ d.fly fun h2 fl2 up2 => ?_)
        have d2 : Down X pins e B sI σ H T dd { s with heap := h2 } := ⟨d.inv, d.old, d.up.trans up2, fl2, d.free, d.os, d.bare⟩
        obtain ⟨o, vs, g1, g2, g3⟩ := d2.obj
        have q := yes rfl e d.free d.inv.len
        rw [hn] at q
        refine store_ok (X := X.suite e ((e, o) :: (X.pn ++ pins))) (v := .ref e) (d2.su hf g1 g3) hN hi (.inl hl) rfl (fun s3 S3 => ?_) (.inr hl)
        exact wpAny_mono ((su e o T dd (X.pn ++ pins) g2 ⟨_, g3⟩).run [] s3 _ H _ S3 q) (fun f s4 hsp => sp_gone hN hi hl (sp_unsuite ok hsp)) fun _ _ z => False.elim z
end
theorem ps_tryR {X : Cx} {body : List Stmt} {eh : ExceptHandler} {ehs : List ExceptHandler} {l : List HdT} {pos : Pos} {tb : WX → TS} {Wo : WX} (hs : X.stack = X.env :: X.outer) (hf : X.env.frame = some X.env.locals) (hN : X.N.Nodup) (tk : L2N.Takes X Wo)
    (hb : ∀ (W : WX) (pl : List (Addr × Obj)) (xe : Value → Shared → Prop), L2N.Takes (X.tr pl xe) W → PassesOwn (model X.prog X.w) X.A X.env xe → PSs (X.tr pl xe) body (tb W)) (hh : HdsR X (eh :: ehs) l) :
    PS X (.Try body (eh :: ehs) [] [] pos) (fun D σ H => tb (wHds X.K X.N.length Wo D l) D σ H) := by
  refine ⟨fun pins s σ H D I t => wpAny_Try_except ?_⟩
  have ok := I.ok
  have hfr : X.A.frames = some (X.env :: X.outer) := by rw [ok.frames, hs]
  let xe : Value → Shared → Prop := fun u s1 => wpAny (model X.prog X.w) X.A (noteFrame u X.env) (fun _ s2 => wpAny (model X.prog X.w) X.A (setFlight u none) (fun _ s3 => wpAny (model X.prog X.w) X.A (handleBy u X.env (eh :: ehs)) (SP X pins D) X.xe s3) X.xe s2) X.xe s1
  have tk2 : L2N.Takes (X.tr (X.pn ++ pins) xe) (wHds X.K X.N.length Wo D l) := by
    rintro u s1 ⟨e, B, sI, _, σ1, H1, T, dd, rfl, J, old, up, sky, free, os, bare, w⟩
    have sky : Sky B (X.env :: X.outer) e (L2N.Zn T dd) X.env.locals s1.heap := by
      rw [← hs]
      exact sky
    show wpAny (model X.prog X.w) X.A (noteFrame (.ref e) X.env) _ _ _
    refine L2N.Sky.land L2N.Zn.steady hfr hf sky fun h2 fl up2 => ?_
    have d : Down X pins e B sI σ1 H1 T dd { s1 with heap := h2 } := ⟨J.ofTry ok, old, up.trans up2, fl, free, os, bare⟩
    exact d.by_ hs hf hN tk hh w
  refine wpAny_mono ((hb _ (X.pn ++ pins) xe tk2 PassesOwn.looking).run [] s σ H D (I.toTry _) t) (fun f s1 hsp => ?_) fun _ _ z => z
  cases f with
  | next => obtain ⟨σ', H', J, z⟩ := hsp; exact wpAny_execs_nil ⟨σ', H', J.ofTry ok, z⟩
  | brk => obtain ⟨σ', H', J, z⟩ := hsp; exact ⟨σ', H', J.ofTry ok, z⟩
  | cont => obtain ⟨σ', H', J, z⟩ := hsp; exact ⟨σ', H', J.ofTry ok, z⟩
  | ret u => obtain ⟨v, σ', H', J, rv, z⟩ := hsp; exact ⟨v, σ', H', J.ofTry ok, rv, z⟩
end PD

end

section
set_option Elab.async false
set_option linter.all false
set_option autoImplicit false
set_option maxRecDepth 100000
/-! What a body's context must have; except suites. Own work. -/
namespace PD
open PySem PySem.Spec L2
variable {C : Cfg} {R : RT} {N : List Str} {lv : Nat} {sc : Scope} {G : Gh} {X : Cx}
/-! ### what a body's context must have -/
/-- what is told of an exception of the program -/
def XRc (K : PySem.W.Frag) (XS : List XD) (ca : Nat → Addr) : Exc → Value → Option Addr → Hp → Hp → Prop := fun x cls d F H => ∃ xd dd vs, XS[x.k]? = some xd ∧ cls = .ref (ca x.k) ∧ d = some dd ∧ H dd = some (.xd (xd.fields.zip vs).reverse) ∧ vs.length = xd.fields.length ∧ xd.fields ≠ [] ∧ DRs K F vs x.ds
structure Bd (C : Cfg) (XS : List XD) (ca : Nat → Addr) (R : RT) (sc : Scope) (N : List Str) (lv : Nat) (G : Gh) (X : Cx) : Prop extends Good C R sc N lv G X where
  cell : ∀ x, sc.names.lookup x = some .cell → X.fn x = true
  kind : X.env.scope.kind = .function
  po : PassesOwn (model X.prog X.w) X.A X.env X.xe
  stk : X.stack = X.env :: X.outer
  frm : X.env.frame = some X.env.locals
  xr : G.XR = XRc G.K XS ca
  cls : ∀ (h : Nat) (xd : XD), XS[h]? = some xd → X.mg xd.name = some (.ref (ca h)) ∧ (xd.hd = true → ∀ (k : Nat) (xk : XD), XS[k]? = some xk → xk.fields ≠ [] → PySem.W.exmOne X.K (.ref (ca k)) (.ref (ca h)) = some (xd.sub.contains k))
  xf : ∀ (k : Nat) (xd : XD), XS[k]? = some xd → xd.fields.Nodup ∧ (xd.fields ≠ [] → XfC X.K (ca k) ∧ ∀ f ∈ xd.fields, PySem.W.findIn X.K (.ref (ca k)) f = some none)
  hsu : X.mg (Str.ofString "super") = none
  txt : ∀ (k : Nat) (xd : XD), XS[k]? = some xd → xd.fields ≠ [] → ∃ fI, XTxt X.prog X.K (ca k) fI xd.fields


variable {XS : List XD} {ca : Nat → Addr}
theorem fldB_of {XS : List XD} {ks : List Nat} {j : Nat} {f : Str} (h : fldB XS ks j f = true) : ∃ k xd, ks = [k] ∧ XS[k]? = some xd ∧ xd.fields[j]? = some f := by
  unfold fldB at h
  split at h
  · rename_i k
    split at h
    · rename_i xd e
      rw [decide_eq_true_eq] at h
      exact ⟨k, xd, rfl, e, h⟩
    · cases h
  · cases h
theorem lit_pe {d : D} {c : Const} {k : Nat} {pos : Pos} (h : litB d c = true) : ∃ v, (∀ (K : PySem.W.Frag) (F : Hp), DR K F v d) ∧ ∀ X : Cx, PE X (.Constant c k pos) (tC v) := by
  cases d <;> cases c <;> simp only [litB, Bool.false_eq_true, Bool.and_eq_true, decide_eq_true_eq, beq_iff_eq] at h
  · exact ⟨.non, fun K F => .non, fun X => pe_non⟩
  · subst h
    exact ⟨.bl _, fun K F => .bl _, fun X => pe_bl⟩
  · subst h
    exact ⟨.int _, fun K F => .int _, fun X => pe_int⟩
  · obtain ⟨rfl, h⟩ := h
    exact ⟨.str _, fun K F => .str h, fun X => pe_str⟩
theorem rev_look {fs : List Str} {vs : List V} (hn : fs.Nodup) (hl : fs.length = vs.length) {j : Nat} {f : Str} (hf : fs[j]? = some f) : ∃ v, vs[j]? = some v ∧ (fs.zip vs).reverse.lookup f = some v := by
  obtain ⟨hj, ej⟩ := List.getElem?_eq_some_iff.mp hf
  have hj2 : j < vs.length := by omega
  refine ⟨vs[j], List.getElem?_eq_getElem hj2, rlook hn hl ?_⟩
  rw [List.mem_iff_getElem?]
  exact ⟨j, by rw [List.getElem?_zip_eq_some]; exact ⟨hf, List.getElem?_eq_getElem hj2⟩⟩

def slotHas (sl : Option Nat) (e : Addr) (σ : L2.St) : Prop := ∀ i, sl = some i → σ[i]? = some (some (.ref e))
def tHx (K : PySem.W.Frag) (XS : List XD) (ca : Nat → Addr) (sl : Option Nat) (ks : List Nat) (e : Addr) (T : Value) (dd : Option Addr) (hs : List Hx) : TA := fun σ H Q => ∃ F x ds, XRc K XS ca x T dd F H ∧ slotHas sl e σ ∧ ks.contains x.k = true ∧ hxs x hs = some ds ∧ ∀ vs, DRs K F vs ds → Q vs H
theorem pa_hx (g : Bd C XS ca R sc N lv G X) {sl : Option Nat} {nm : Option Str} {ks : List Nat} (hsl : slotB N sc sl nm = true) {e : Addr} {o : Obj} {T : Value} {dd : Option Addr} {pl : List (Addr × Obj)} (hz : L2N.Zn T dd o) (hf : ∃ vs, o.data = .fields vs) :
    ∀ (hs : List Hx) (l : List Expr), chkHx XS nm ks hs l = true → PA (X.suite e ((e, o) :: pl)) l (tHx X.K XS ca sl ks e T dd hs) ∧ (∀ x ∈ l, plainE x = true)
  | [], l, h => by
    unfold chkHx at h
    split at h
    · refine ⟨PA.imp pa_nil fun σ H Q q => ?_, fun x hx => absurd hx (by simp)⟩
      obtain ⟨F, x, ds, xr, hh, hk, hx, q⟩ := q
      simp only [hxs, Option.some.injEq] at hx
      subst hx
      exact q [] .nil
    · cases h
  | .lit d :: hs, l, h => by
    unfold chkHx at h
    split at h
    · rename_i c k p es
      rw [Bool.and_eq_true] at h
      obtain ⟨v, hv, pe⟩ := lit_pe (k := k) (pos := p) h.1
      obtain ⟨hp, hpl⟩ := pa_hx g hsl hz hf hs es h.2
      refine ⟨PA.imp (pa_cons (pe _) hp (star_cons rfl)) fun σ H Q q => ?_, fun x hx => ?_⟩
      · obtain ⟨F, x, ds, xr, hh, hk, hx, q⟩ := q
        simp only [hxs, Option.map_eq_some_iff] at hx
        obtain ⟨ds', hx, rfl⟩ := hx
        exact ⟨F, x, ds', xr, hh, hk, hx, fun vs r => q _ (.cons (hv _ _) r)⟩
      · rcases List.mem_cons.mp hx with rfl | hx
        · rfl
        · exact hpl x hx
    · cases h
  | .fld j :: hs, l, h => by
    unfold chkHx at h
    split at h
    · rename_i n pn f pa es
      simp only [Bool.and_eq_true, decide_eq_true_eq] at h
      obtain ⟨rfl, h2, h3, h4⟩ := h
      obtain ⟨hp, hpl⟩ := pa_hx g hsl hz hf hs es h4
      obtain ⟨k, xd, rfl, hxd, h3⟩ := fldB_of h3
      have hmem : f ∈ xd.fields := List.mem_of_getElem? h3
      obtain ⟨nd, hxf⟩ := g.xf k xd hxd
      obtain ⟨xf, hno⟩ := hxf (fun z => by rw [z] at hmem; cases hmem)
      cases sl with
      | none => simp [slotB] at hsl
      | some i =>
        simp only [slotB, Bool.and_eq_true, decide_eq_true_eq] at hsl
        obtain ⟨l1, l2⟩ := hsl
        obtain ⟨n1, n2, _⟩ := nameOk_of h2
        have hv := pe_var (X := X.suite e ((e, o) :: pl)) (i := i) (x := n) (pos := pn) (by show X.N[i]? = _; rw [g.names]; exact l1) (.inl (by show X.env.scope.names.lookup n = _; rw [g.scope]; exact l2)) n1 n2
        refine ⟨PA.imp (pa_cons (pe_xf (pos := pa) xf (hno f hmem) hz.zc hf hv rfl) hp (star_cons rfl)) fun σ H Q q => ?_, fun x hx => ?_⟩
        · obtain ⟨F, x, ds, xr, hh, hk, hx, q⟩ := q
          have ek : x.k = k := by simpa using hk
          unfold hxs at hx
          split at hx
          · rename_i d hd
            simp only [Option.map_eq_some_iff] at hx
            obtain ⟨ds', hx, rfl⟩ := hx
            obtain ⟨xd2, dd', vs, q1, q2, q3, q4, q6, _, q5⟩ := id xr
            rw [ek] at q1 q2
            rw [hxd] at q1
            cases q1
            obtain ⟨v, hv1, hv2⟩ := rev_look nd q6.symm h3
            obtain ⟨v', hv3, dr⟩ := q5.get hd
            rw [hv1] at hv3
            cases hv3
            exact ⟨.ref e, hh i rfl, rfl, q2, dd', _, v, q3, q4, hv2, F, x, ds', xr, hh, hk, hx, fun vs r => q _ (.cons dr r)⟩
          · cases hx
        · rcases List.mem_cons.mp hx with rfl | hx
          · rfl
          · exact hpl x hx
    · cases h

/-! ### the clauses -/
def Hd.sl : Hd → Option Nat
  | .retTup _ s _ => s
  | .retCall _ s _ => s
  | .retLit _ s _ => s
  | .asgCall _ s _ _ => s
def Hd.ks : Hd → List Nat
  | .retTup ks _ _ => ks
  | .retCall ks _ _ => ks
  | .retLit ks _ _ => ks
  | .asgCall ks _ _ _ => ks
def Hd.act (x : Exc) : Hd → Out
  | .retTup _ _ es => (match hxs x es with
    | some ds => .rt (.fz (.tuple ds))
    | none => .bad)
  | .retLit _ _ d => .rt (.fz d)
  | _ => .bad
theorem handle_cons {x : Exc} {env : PD.Env} {h : Hd} {hs : List Hd} (hok : (∃ ks s es, h = .retTup ks s es) ∨ ∃ ks s d, h = .retLit ks s d) : handle x env (h :: hs) = if h.ks.contains x.k then h.act x else handle x env hs := by
  rcases hok with ⟨ks, s, es, rfl⟩ | ⟨ks, s, d, rfl⟩
  · rfl
  · rfl
/-- what a clause's reading must give -/
structure HdS (G : Gh) (X : Cx) (XS : List XD) (ca : Nat → Addr) (h : Hd) (t : HdT) : Prop where
  sl : t.sl = h.sl
  exm : ∀ (k : Nat) (xk : XD), XS[k]? = some xk → xk.fields ≠ [] → PySem.W.exmOne X.K (.ref (ca k)) t.c = some (h.ks.contains k)
  hok : (∃ ks s es, h = .retTup ks s es) ∨ ∃ ks s d, h = .retLit ks s d
  rd : ∀ (D : Ends) (F H : Hp) (σ : L2.St) (env : PD.Env) (own : Nat → List Addr) (x : Exc) (e : Addr) (T : Value) (dd : Option Addr), ER G.K G.F0 G.H0 F H σ env own → XRc X.K XS ca x T dd F H → h.ks.contains x.k = true → AtO G F (h.act x) D →
    σ.length = X.N.length → H e = none → t.ts e T dd (dropE t.sl D) (putS t.sl e σ) H
theorem hxs_len {x : Exc} : ∀ (es : List Hx) (ds : List PD.D), hxs x es = some ds → ds.length = es.length := by
  intro es
  induction es with
  | nil => intro ds h; simp [hxs] at h; simp [h]
  | cons a es ih =>
    intro ds h
    cases a with
    | lit d =>
      simp only [hxs, Option.map_eq_some_iff] at h
      obtain ⟨ds', h, rfl⟩ := h
      simp [ih _ h]
    | fld j =>
      unfold hxs at h
      split at h
      · simp only [Option.map_eq_some_iff] at h
        obtain ⟨ds', h, rfl⟩ := h
        simp [ih _ h]
      · cases h
theorem got_rt {F H : Hp} {c : Cell} {D : Ends} (hr : HR G.F0 G.H0 F H) (h : AtO G F (.rt c) D) : Got G.K F H c D.rt := fun F' H' v as g cr fr => h F' H' v as (hr.grow g) g.sF cr fun a ha => none_of_same hr.h0 (fr a ha)
theorem hd_one (g : Bd C XS ca R sc N lv G X) : ∀ (h : Hd) (eh : ExceptHandler), chkHd XS N sc h eh = true → ∃ t, HdR X eh t ∧ HdS G X XS ca h t
  | .retTup ks sl es, eh, h => by
    dsimp only [chkHd] at h
    split at h
    · rename_i x px n l kt pt pr pe
      simp only [Bool.and_eq_true, decide_eq_true_eq] at h
      obtain ⟨h1, h2, h3, hle⟩ := h
      unfold clsB at h1
      rw [Bool.and_eq_true, List.any_eq_true] at h1
      obtain ⟨g1, xd, hmem, hx⟩ := h1
      simp only [Bool.and_eq_true, decide_eq_true_eq] at hx
      obtain ⟨rfl, rfl, hHd⟩ := hx
      obtain ⟨hI, eI⟩ := List.getElem?_of_mem hmem
      obtain ⟨c1, c2⟩ := g.cls hI xd eI
      obtain ⟨gl, nd, nn⟩ := g.toGood.gl g1
      have nm : Names X xd.name (.ref (ca hI)) := ⟨gl, nd, .inl c1⟩
      let t : HdT := ⟨.ref (ca hI), sl, fun e T dd => tRet (tTup (tHx X.K XS ca sl xd.sub e T dd es))⟩
      have su : ∀ (e : Addr) (o : Obj) (T : Value) (dd : Option Addr) (pl : List (Addr × Obj)), L2N.Zn T dd o → (∃ vs, o.data = .fields vs) → PSs (X.suite e ((e, o) :: pl)) [.Return (some (.Tuple l kt pt)) pr] (t.ts e T dd) := fun e o T dd pl hz hf =>
        pss_one (ps_ret (pe_tup (pa_hx g h2 hz hf es l h3).1))
      refine ⟨t, ?_, rfl, c2 hHd, .inl ⟨_, _, _, rfl⟩, fun D F H σ env own x e T dd er xr hk h hlen he => ?_⟩
      · cases sl with
        | none =>
          cases n with
          | none => exact .plain rfl nm su
          | some n => simp [slotB] at h2
        | some i =>
          cases n with
          | none => simp [slotB] at h2
          | some n =>
            simp only [slotB, Bool.and_eq_true, decide_eq_true_eq] at h2
            exact .named (i := i) rfl (by rw [g.names]; exact h2.1) (by show X.env.scope.names.lookup n = _; rw [g.scope]; exact h2.2) nm su
      · have h : AtO G F (match hxs x es with | some ds => .rt (.fz (.tuple ds)) | none => .bad) D := h
        cases hx : hxs x es with
        | none => rw [hx] at h; exact h.elim
        | some ds =>
          rw [hx] at h
          refine ⟨F, x, ds, xr, ?_, hk, hx, fun vs dv => ⟨?_, fun p hp => ?_⟩⟩
          · intro i hi
            cases sl with
            | none => cases hi
            | some j =>
              cases hi
              show (σ.set i _)[i]? = _
              rw [List.getElem?_set_self]
              rw [hlen]
              cases n with
              | none => simp [slotB] at h2
              | some n =>
                simp only [slotB, Bool.and_eq_true, decide_eq_true_eq] at h2
                rw [g.names]
                exact (List.getElem?_eq_some_iff.mp h2.1).1
          · rw [dv.length, hxs_len es ds hx]
            exact Nat.le_of_lt (small1000 hle)
          · have q := got_rt er.toHR h
            rw [g.gk] at q
            exact q.newT er.fh dv hp
    · cases h
  | .retLit ks sl d, eh, h => by
    dsimp only [chkHd] at h
    split at h
    · rename_i x px n c kt pt pr pe
      simp only [Bool.and_eq_true, decide_eq_true_eq] at h
      obtain ⟨h1, h2, h3⟩ := h
      unfold clsB at h1
      rw [Bool.and_eq_true, List.any_eq_true] at h1
      obtain ⟨g1, xd, hmem, hx⟩ := h1
      simp only [Bool.and_eq_true, decide_eq_true_eq] at hx
      obtain ⟨rfl, rfl, hHd⟩ := hx
      obtain ⟨hI, eI⟩ := List.getElem?_of_mem hmem
      obtain ⟨c1, c2⟩ := g.cls hI xd eI
      obtain ⟨gl, nd, nn⟩ := g.toGood.gl g1
      have nm : Names X xd.name (.ref (ca hI)) := ⟨gl, nd, .inl c1⟩
      obtain ⟨v, hv, pe⟩ := lit_pe (k := kt) (pos := pt) h3
      let t : HdT := ⟨.ref (ca hI), sl, fun e T dd => tRet (tC v)⟩
      have su : ∀ (e : Addr) (o : Obj) (T : Value) (dd : Option Addr) (pl : List (Addr × Obj)), L2N.Zn T dd o → (∃ vs, o.data = .fields vs) → PSs (X.suite e ((e, o) :: pl)) [.Return (some (.Constant c kt pt)) pr] (t.ts e T dd) := fun e o T dd pl hz hf =>
        pss_one (ps_ret (pe _))
      refine ⟨t, ?_, rfl, c2 hHd, .inr ⟨_, _, _, rfl⟩, fun D F H σ env own x e T dd er xr hk h hlen he => ?_⟩
      · cases sl with
        | none =>
          cases n with
          | none => exact .plain rfl nm su
          | some n => simp [slotB] at h2
        | some i =>
          cases n with
          | none => simp [slotB] at h2
          | some n =>
            simp only [slotB, Bool.and_eq_true, decide_eq_true_eq] at h2
            exact .named (i := i) rfl (by rw [g.names]; exact h2.1) (by show X.env.scope.names.lookup n = _; rw [g.scope]; exact h2.2) nm su
      · exact (got_rt er.toHR h).val er.fh (hv _ _)
    · cases h
  | .retCall _ _ _, _, h => by
    dsimp only [chkHd] at h
    cases h
  | .asgCall _ _ _ _, _, h => by
    dsimp only [chkHd] at h
    cases h
end PD

end

section
set_option Elab.async false
set_option linter.all false
set_option autoImplicit false
set_option maxRecDepth 100000
/-! Every checked statement is read as its interpreter says: the small parts. Own work. -/
namespace PD
open PySem PySem.Spec L2

theorem sw_no {v : Expr} (h : notComp v = true) (t : Option Expr) (l : Nat) (env : PySem.Env) : swapsWith v t l env = pure false := by
  cases v <;> first | rfl | cases h
theorem sws_no {v tg : Expr} (h : notComp v = true) (l : Nat) (env : PySem.Env) : swapsWithSole [tg] v l env = pure false := sw_no h (some tg) l env
theorem sst_name {x : Str} {p : Pos} {v : Expr} (env : PySem.Env) : swappedStores [.Name x p] v env = pure none := by cases v <;> rfl
theorem sst_sub {x y : Expr} {p : Pos} {v : Expr} (env : PySem.Env) : swappedStores [.Subscript x y p] v env = pure none := by cases v <;> rfl
theorem sst_tup {l : List Expr} {k : Nat} {p : Pos} {v : Expr} (h : isTupE v = false) (env : PySem.Env) : swappedStores [.Tuple l k p] v env = pure none := by
  cases v <;> first | rfl | cases h

variable {C : Cfg} {R : RT} {N : List Str} {lv : Nat} {sc : Scope} {G : Gh} {X : Cx}
theorem Good.nm (g : Good C R sc N lv G X) (hfn : ∀ x, sc.names.lookup x = some .cell → X.fn x = true) : Nm sc N X where
  calm := g.calm
  names := g.names
  nd := g.nd
  loc := fun x h => by rw [g.scope]; exact h
  cell := fun x h => ⟨by rw [g.scope]; exact h, hfn x h⟩

theorem ip_augD {o : O2} {op : Operator} (h : (decide (o = .add) && decide (op = .Add) || decide (o = .sub) && decide (op = .Sub)) = true) :
    PIp X op (fun x y H Q => ∃ F d e z, Same F H ∧ DR X.K F x d ∧ DR X.K F y e ∧ aI o d e = some z ∧ ∀ v, DR X.K F v z → Q v H) := by
  intro pins s σ H x y v u Q I r1 r2 ⟨F, d, e, z, sm, d1, d2, ha, q⟩
  simp only [Bool.or_eq_true, Bool.and_eq_true, decide_eq_true_eq] at h
  rcases h with ⟨rfl, rfl⟩ | ⟨rfl, rfl⟩
  · cases d <;> cases e <;> simp only [aI, reduceCtorEq] at ha
    · cases ha
      have e1 := d1.unI
      have e2 := d2.unI
      subst e1 e2
      exact ip_add pins s σ H _ _ v u Q I r1 r2 ⟨_, _, rfl, rfl, q _ (.int _)⟩
    · split at ha
      · rename_i hl
        cases ha
        have e1 := d1.unS
        have e2 := d2.unS
        subst e1 e2
        exact iop_add_str pins s σ H _ _ v u Q I r1 r2 ⟨_, _, rfl, rfl, hl, q _ (.str (add_ok d1.ok d2.ok hl))⟩
      · cases ha
  · cases d <;> cases e <;> simp only [aI, reduceCtorEq] at ha
    cases ha
    have e1 := d1.unI
    have e2 := d2.unI
    subst e1 e2
    exact ip_sub pins s σ H _ _ v u Q I r1 r2 ⟨_, _, rfl, rfl, q _ (.int _)⟩

variable {XS : List XD} {ca : Nat → Addr}
theorem upd_grow {F H : Hp} (h : Same F H) {d : Addr} {o : HO} (hd : H d = none) : Grow F H F (upd H d o) where
  sF := Same.refl _
  sH := fun b o e => by rw [upd_ne (fun z => by rw [z, hd] at e; cases e)]; exact e
  fh := fun b o e => by
    have q := h b o e
    rw [upd_ne (fun z => by rw [z, hd] at q; cases q)]
    exact q
  nw := fun a h => .inl h
theorem ls_raise {k : Nat} {xd : XD} {rs : PD.Env → Res (List PD.D)} {D : Ends} {σ : L2.St} {H : Hp} (hx : XS[k]? = some xd) (hne : xd.fields ≠ []) (hxr : G.XR = XRc G.K XS ca) (hl : ∀ env ds env1, rs env = .ok ds env1 → ds.length = xd.fields.length)
    (h : LS G (fun env => (rs env).out fun ds env => .exc ⟨k, ds⟩ env) D σ H) : tMkX (ca k) xd.fields (Lift G (relD G) rs) σ H fun cls d H' => liftW G cls d σ H' := by
  obtain ⟨F, own, env, er, h⟩ := h
  refine ⟨F, own, env, er, h.step fun ds env1 e F1 H1 own1 vs er1 s1 rl h1 => ?_⟩
  have rl : DRs G.K F1 vs ds := rl
  refine ⟨by rw [rl.length]; exact hl env ds env1 e, fun d hd => ?_⟩
  refine ⟨F1, own1, env1, ⟨k, ds⟩, er1.grow (upd_grow er1.fh hd), ?_, G.em _ _ _ _ s1.sF h1⟩
  rw [hxr]
  exact ⟨xd, d, vs, hx, rfl, rfl, upd_same, by rw [rl.length]; exact hl env ds env1 e, hne, rl⟩

theorem gT_name {t : Tg} {y : Str} {py : Pos} (h : chkTg sc N t (.Name y py) = true) : ∃ i, t = .var i ∧ locB sc N i y = true := by
  cases t with
  | var i => exact ⟨i, rfl, by simpa only [chkTg] using h⟩
  | tup ts => simp [chkTg] at h
theorem gT_gName {i : Nat} {v : V} {σ : L2.St} {H : Hp} {Q : L2.St → Hp → Prop} (q : gT G (.var i) v σ H Q) : gName i v σ H Q := by
  obtain ⟨F, own, env, c, as, env', er, t, ea, k⟩ := q
  unfold asgT at ea
  split at ea
  · rename_i hi
    cases ea
    refine k _ _ (er.store t i hi) ⟨List.length_set .., fun j hj => ?_⟩ fun j a ha => ?_
    · exact List.getElem?_set_ne fun e => hj (by simp [Tg.slots, e])
    · by_cases hj : j = i
      · rw [if_pos hj] at ha
        exact .inr ha
      · rw [if_neg hj] at ha
        exact .inl ha
  · cases ea
theorem soundSw (g : Bd C XS ca R sc N lv G X) {t : Tg} {e : Ex} {y : Str} {py p : Pos} {v : Expr} (h1 : chkTg sc N t (.Name y py) = true) (h2 : chkE C N e sc v = true) (h3 : swB sc y py.line v = true) (hk : X.env.scope.kind = .function) :
    PS X (.Assign [.Name y py] v p) (LS G (exS R (.asg t e))) := by
  obtain ⟨i, rfl, hl⟩ := gT_name h1
  obtain ⟨l1, l2, l3⟩ := loc_of hl
  cases v <;> simp only [swB, Bool.false_eq_true] at h3
  rename_i x gs scope pos
  simp only [Bool.and_eq_true, decide_eq_true_eq, Bool.not_eq_true'] at h3
  obtain ⟨s1, s2, s3⟩ := h3
  cases e <;> try (simp [chkE] at h2; done)
  rename_i elt own t it c
  unfold chkE at h2
  split at h2
  · rename_i x' tg iter ifs z scope' p' heq
    cases heq
    simp only [Bool.and_eq_true, decide_eq_true_eq] at h2
    obtain ⟨rfl, ⟨q1, q2⟩, q3, q4, q5, q6, q7⟩ := h2
    have hsl : ∀ i ∈ t.slots, i ∈ own := fun i hi => by
      have q := List.all_eq_true.mp q1 i hi
      simpa using q
    have ok : BlkOk X.N X.env.scope scope (ownL N own) := blkOk_by (by rw [g.names, g.scope]; exact q2)
    have hi := soundI it sc iter tg G X g.toGood q3
    have hg := fun s H Ca cl fp => soundTg (G := G.no) (g.toGood.nmB s H scope cl Ca fp) g.gk t tg q4
    have he := fun s H Ca cl fp => soundE elt (relS scope sc) x G.no _ (g.toGood.blk s H scope cl Ca fp) q6
    have ht : ∀ (s : Shared) (H : Hp) (Ca : Addr) (cl : List (Str × Addr)) (fp : List Addr), PTs (X.blk s H scope (compEnvC scope cl Ca X.env) fp) ifs (Lift G.no relT (evT R c)) := by
      intro s H Ca cl fp
      split at q5
      · cases c <;> simp only [Te.isYes, Bool.false_eq_true] at q5
        refine ⟨fun pins s σ H Q I q => pts_nil.run pins s σ H Q I ?_⟩
        obtain ⟨F, own, env, er, q⟩ := q
        rw [evT] at q
        exact q F H own true er Stp.refl rfl
      · rw [Bool.and_eq_true] at q5
        exact pts_one (soundT c (relS scope sc) _ G.no _ (g.toGood.blk s H scope cl Ca fp) q5.2).1
      · cases q5
    have s1' : X.env.scope.names.lookup y = some .local := by rw [g.scope]; exact s1
    refine PS.imp (ps_setLc g.calm (by rw [g.names]; exact g.nd) (by rw [g.names]; exact l1) s1' (sw_true hk s1' s2 s3) hi ok hg ht he (notSet_ok q7)) fun D σ H q => ?_
    rw [ownL_map]
    have q := ls_asg (re := evE R (.comp elt own t it c)) (t := .var i) (by simp only [exS] at q; exact q)
    have q : Lift G (relE G) (evE R (.comp elt own t it c)) σ H (fun x H1 => gT G (.var i) x σ H1 D.nx) := q
    have q := q.imp (Q' := fun x H1 => gName i x σ H1 D.nx) fun x H1 z => gT_gName z
    exact lift_comp hsl (by simp only [evE] at q; exact q)
  · cases h2

theorem Bd.tr (g : Bd C XS ca R sc N lv G X) {E : Hp → Exc → PD.Env → Prop} {em : ∀ F F' x env, Same F F' → E F x env → E F' x env} {pn : List (Addr × Obj)} {xe : Value → Shared → Prop} (tk : L2N.Takes (X.tr pn xe) (liftW { G with E := E, em := em })) (po : PassesOwn (model X.prog X.w) X.A X.env xe) : Bd C XS ca R sc N lv { G with E := E, em := em } (X.tr pn xe) where
  lk := g.lk
  calm := g.calm
  scope := g.scope
  names := g.names
  nd := g.nd
  room := g.room
  gk := g.gk
  tk := tk
  fns := g.fns
  cons := g.cons
  cell := g.cell
  kind := g.kind
  po := po
  stk := g.stk
  frm := g.frm
  xr := g.xr
  cls := g.cls
  xf := g.xf
  hsu := g.hsu
  txt := g.txt
inductive HdsS (G : Gh) (X : Cx) (XS : List XD) (ca : Nat → Addr) : List Hd → List HdT → Prop
  | nil : HdsS G X XS ca [] []
  | cons {h : Hd} {t : HdT} {hs : List Hd} {l : List HdT} : HdS G X XS ca h t → HdsS G X XS ca hs l → HdsS G X XS ca (h :: hs) (t :: l)
theorem hd_all (g : Bd C XS ca R sc N lv G X) : ∀ (hs : List Hd) (l : List ExceptHandler), chkHds XS N sc hs l = true → ∃ ts, HdsR X l ts ∧ HdsS G X XS ca hs ts
  | [], l, h => by
    unfold chkHds at h
    split at h
    · exact ⟨[], .nil, .nil⟩
    · cases h
  | hd :: hs, l, h => by
    unfold chkHds at h
    split at h
    · rw [Bool.and_eq_true] at h
      obtain ⟨t, h1, h2⟩ := hd_one g hd _ h.1
      obtain ⟨ts, h3, h4⟩ := hd_all g hs _ h.2
      exact ⟨t :: ts, .cons h1 h3, .cons h2 h4⟩
    · cases h
theorem wHds_of (gk : G.K = X.K) (hxr : G.XR = XRc G.K XS ca) {hs : List Hd} {ts : List HdT} (h : HdsS G X XS ca hs ts) {D : Ends} {F H : Hp} {σ : L2.St} {own : Nat → List Addr} {env : PD.Env} {x : Exc} {T : Value} {dd : Option Addr}
    (er : ER G.K G.F0 G.H0 F H σ env own) (xr : XRc X.K XS ca x T dd F H) : AtO G F (handle x env hs) D → wHds X.K X.N.length (liftW G) D ts T dd σ H := by
  induction h with
  | nil =>
    intro q
    refine ⟨F, own, env, x, er, ?_, q⟩
    rw [hxr, gk]
    exact xr
  | cons h1 _ ih =>
    intro q
    rw [handle_cons h1.hok] at q
    obtain ⟨xd, d2, vs, e1, e2, _, _, _, e3, _⟩ := id xr
    refine ⟨_, by rw [e2]; exact h1.exm x.k xd e1 e3, fun hb a ha hlen => ?_, fun hb => ?_⟩
    · rw [if_pos hb] at q
      exact h1.rd D F H σ env own x a T dd er xr hb q hlen ha
    · rw [if_neg (by rw [hb]; exact Bool.false_ne_true)] at q
      exact ih q
def tBody (G : Gh) (rb : PD.Env → Out) (W : WX) : TS := fun D σ H => ∃ (E : Hp → Exc → PD.Env → Prop) (em : ∀ F F' x env, Same F F' → E F x env → E F' x env), (∀ T dd σ H, liftW { G with E := E, em := em } T dd σ H → W T dd σ H) ∧ LS { G with E := E, em := em } rb D σ H
theorem ls_try (gk : G.K = X.K) (hxr : G.XR = XRc G.K XS ca) {hs : List Hd} {ts : List HdT} (hh : HdsS G X XS ca hs ts) {rb : PD.Env → Out} {D : Ends} {σ : L2.St} {H : Hp}
    (h : LS G (fun env => match rb env with
      | .exc x env => handle x env hs
      | o => o) D σ H) : tBody G rb (wHds X.K X.N.length (liftW G) D ts) D σ H := by
  obtain ⟨F, own, env, er, h⟩ := h
  refine ⟨fun F x env => AtO G F (handle x env hs) D, fun F F' x env s q => q.mono s, ?_, F, own, env, er, ?_⟩
  · rintro T dd σ H ⟨F, own, env, x, er, xr, q⟩
    refine wHds_of gk hxr hh er ?_ q
    have xr : G.XR x T dd F H := xr
    rw [hxr, gk] at xr
    exact xr
  · try dsimp only at h
    cases e : rb env with
    | nx env1 => rw [e] at h; exact h
    | bk env1 => rw [e] at h; exact h
    | ct env1 => rw [e] at h; exact h
    | rt c => rw [e] at h; exact h
    | exc x env1 => rw [e] at h; exact h
    | bad => rw [e] at h; exact h

mutual
theorem soundS : ∀ (s : IS) (sc : Scope) (st : Stmt) (G : Gh) (X : Cx), Bd C XS ca R sc N lv G X → chkS C XS N s sc st = true → PS X st (LS G (exS R s))
  | .asg t e, sc, st, G, X, g, h => by
    unfold chkS at h
    split at h
    · rename_i tg v p
      split at h
      · rename_i y py
        simp only [Bool.and_eq_true, Bool.or_eq_true] at h
        obtain ⟨h1, h2, h3⟩ := h
        have hg := soundTg (g.toGood.nm g.cell) g.gk t _ h1
        rcases h3 with h3 | h3
        · refine PS.imp (ps_asg (soundE e sc v G X g.toGood h2) hg (sws_no h3 _ _) (sst_name _)) fun D σ H q => ls_asg (by simp only [exS] at q; exact q)
        · exact soundSw g h1 h2 h3 g.kind
      · rename_i l k pt
        simp only [Bool.and_eq_true, Bool.not_eq_true'] at h
        obtain ⟨h1, h2, h3, h4⟩ := h
        have hg := soundTg (g.toGood.nm g.cell) g.gk t _ h1
        refine PS.imp (ps_asg (soundE e sc v G X g.toGood h2) hg (sws_no h3 _ _) (sst_tup h4 _)) fun D σ H q => ls_asg (by simp only [exS] at q; exact q)
      · cases h
    · cases h
  | .aug i o e, sc, st, G, X, g, h => by
    unfold chkS at h
    split at h
    · rename_i x px op v p
      rw [Bool.and_eq_true, Bool.and_eq_true] at h
      obtain ⟨h1, h2, h3⟩ := h
      obtain ⟨l1, l2, l3⟩ := loc_of h1
      have nm := g.toGood.nm g.cell
      refine PS.imp (ps_aug (i := i) (by rw [nm.names]; exact nm.nd) (by rw [nm.names]; exact l1) ?_ (soundE e sc v G X g.toGood h3) (ip_augD h2) ?_) fun D σ H q => ?_
      · rcases l2 with l2 | l2
        · exact .inl (nm.loc x l2)
        · exact .inr (nm.cell x l2).1
      · rcases l2 with l2 | l2
        · exact .inr (nm.loc x l2)
        · exact .inl (nm.cell x l2).2
      · rw [← g.gk]
        exact ls_aug (by simp only [exS] at q; exact q)
    · cases h
  | .app i e, sc, st, G, X, g, h => by
    unfold chkS at h
    split at h
    · rename_i x px m ap v cp p
      simp only [Bool.and_eq_true, decide_eq_true_eq] at h
      obtain ⟨h1, rfl, h2, h3, h4⟩ := h
      obtain ⟨l1, l2, l3⟩ := vis_of h1
      obtain ⟨n1, n2, _⟩ := nameOk_of l3
      have hv := pe_var (X := X) (i := i) (x := x) (pos := px) (by rw [g.names]; exact l1) (by rw [g.scope]; exact l2) n1 n2
      refine PS.imp (ps_expr (pe_bm PySem.F.plainAttrs_list PySem.F.slot_list_append PySem.F.type_list_append mt_append hv (pa_one (soundE e sc v G X g.toGood h4) h3) rfl ?_ h2 (star_cons h3) rfl) rfl) fun D σ H q => ?_
      · cases v <;> first | rfl | cases h3
      · rw [← g.gk]
        exact ls_app (by simp only [exS] at q; exact q)
    · cases h
  | .setI i j e, sc, st, G, X, g, h => by
    unfold chkS at h
    split at h
    · rename_i x px y ps v p
      simp only [Bool.and_eq_true] at h
      obtain ⟨h1, h2, h3, h4, h5⟩ := h
      obtain ⟨l1, l2, l3⟩ := vis_of h1
      obtain ⟨n1, n2, _⟩ := nameOk_of l3
      have hv := pe_var (X := X) (i := i) (x := x) (pos := px) (by rw [g.names]; exact l1) (by rw [g.scope]; exact l2) n1 n2
      have hj := soundBor g.toGood j y h3 (soundE j sc y G X g.toGood h3)
      refine PS.imp (ps_asg (soundE e sc v G X g.toGood h4) (pg_sub hv hj set_list ?_) (sws_no h5 _ _) (sst_sub _)) fun D σ H q => ls_setI (by simp only [exS] at q; exact q)
      · intro u
        cases y <;> first | rfl | cases h2
    · cases h
  | .expr e, sc, st, G, X, g, h => by
    unfold chkS at h
    split at h
    · rename_i v p
      simp only [Bool.and_eq_true] at h
      refine PS.imp (ps_expr (soundE e sc v G X g.toGood h.1) (sw_no h.2 _ _ _)) fun D σ H q => ls_expr (by simp only [exS] at q; exact q)
    · cases h
  | .ite c a b, sc, st, G, X, g, h => by
    unfold chkS at h
    split at h
    · rename_i t x y p
      simp only [Bool.and_eq_true] at h
      refine PS.imp (ps_if (soundT c sc t G X g.toGood h.1).1 (soundSs a sc x G X g h.2.1) (soundSs b sc y G X g h.2.2)) fun D σ H q => ls_ite (by simp only [exS] at q; exact q)
    · cases h
  | .whl c b, sc, st, G, X, g, h => by
    unfold chkS at h
    split at h
    · rename_i t x p
      simp only [Bool.and_eq_true] at h
      refine PS.imp (ps_while g.po (soundT c sc t G X g.toGood h.1).1 (soundSs b sc x G X g h.2)) fun D σ H q => ls_whl (n := fuelW) (by simp only [exS] at q; exact q)
    · cases h
  | .for_ t it b, sc, st, G, X, g, h => by
    unfold chkS at h
    split at h
    · rename_i tg iter x p
      simp only [Bool.and_eq_true] at h
      obtain ⟨h1, h2, h3, h4⟩ := h
      refine PS.imp (ps_for g.po g.calm (soundI it sc iter tg G X g.toGood h1) (soundTg (g.toGood.nm g.cell) g.gk t tg h2) (soundSs b sc x G X g h3) (notSet_ok h4)) fun D σ H q => ls_for (by simp only [exS] at q; exact q)
    · cases h
  | .ret e, sc, st, G, X, g, h => by
    unfold chkS at h
    split at h
    · exact PS.imp (ps_ret (soundE e sc _ G X g.toGood h)) fun D σ H q => ls_ret (by simp only [exS] at q; exact q)
    · cases h
  | .retV i, sc, st, G, X, g, h => by
    unfold chkS at h
    split at h
    · rename_i x px p
      obtain ⟨l1, l2, l3⟩ := vis_of h
      obtain ⟨n1, n2, _⟩ := nameOk_of l3
      exact PS.imp (ps_ret (pe_var (X := X) (i := i) (x := x) (pos := px) (by rw [g.names]; exact l1) (by rw [g.scope]; exact l2) n1 n2)) fun D σ H q => ls_retV (by simp only [exS] at q; exact q)
    · cases h
  | .retN, sc, st, G, X, g, h => by
    unfold chkS at h
    split at h
    · refine PS.imp ps_retN fun D σ H q => ?_
      obtain ⟨F, own, env, er, q⟩ := q
      simp only [exS] at q
      exact q F H .non [] er.toHR (Same.refl _) (.fz .non) (fun _ z => absurd z (by simp))
    · cases h
  | .brk, sc, st, G, X, g, h => by
    unfold chkS at h
    split at h
    · refine PS.imp ps_break fun D σ H q => ?_
      obtain ⟨F, own, env, er, q⟩ := q
      simp only [exS] at q
      exact q σ F H own er (Same.refl _)
    · cases h
  | .cont, sc, st, G, X, g, h => by
    unfold chkS at h
    split at h
    · refine PS.imp ps_continue fun D σ H q => ?_
      obtain ⟨F, own, env, er, q⟩ := q
      simp only [exS] at q
      exact q σ F H own er (Same.refl _)
    · cases h
  | .pass, sc, st, G, X, g, h => by
    unfold chkS at h
    split at h
    · exact PS.imp ps_pass fun D σ H q => ls_nx (by simp only [exS] at q; exact q)
    · cases h
  | .raise k es, sc, st, G, X, g, h => by
    unfold chkS at h
    split at h
    · rename_i x px l pc p
      simp only [Bool.and_eq_true, Bool.not_eq_true'] at h
      obtain ⟨h1, h2, h3, h4⟩ := h
      split at h1
      · rename_i xd hx
        simp only [Bool.and_eq_true, decide_eq_true_eq] at h1
        obtain ⟨rfl, hl⟩ := h1
        obtain ⟨hs, hp, hlen⟩ := soundEs es sc l G X g.toGood h3
        cases l with
        | nil =>
          cases es with
          | n => cases h4
          | c e es => simp [Exs.len] at hlen
        | cons e l =>
          have he := hp e (List.mem_cons_self ..)
          have hne : xd.fields ≠ [] := fun z => by
            rw [z] at hl
            cases es with
            | n => cases h4
            | c _ _ => simp [Exs.len] at hl
          obtain ⟨fI, tx⟩ := g.txt k xd hx hne
          obtain ⟨gl, ndb, _⟩ := g.toGood.gl h2
          refine PS.imp (L2N.ps_raise g.calm g.tk (pmk_x tx hne g.hsu g.room gl (g.cls k xd hx).1 hs ndb (star_cons he) (plain_any fun x hx => hp x (List.mem_cons_of_mem _ hx)))) fun D σ H q => ?_
          exact ls_raise hx hne g.xr (fun env ds env1 e => by rw [evEs_len es _ _ _ e, hl]) (by simp only [exS] at q; exact q)
      · cases h1
    · cases h
  | .app2 _ _ _, sc, st, G, X, g, h => by
    unfold chkS at h
    cases h
  | .ext _ _, sc, st, G, X, g, h => by
    unfold chkS at h
    cases h
  | .rem _ _, sc, st, G, X, g, h => by
    unfold chkS at h
    cases h
  | .rvs _, sc, st, G, X, g, h => by
    unfold chkS at h
    cases h
  | .popTo _ _, sc, st, G, X, g, h => by
    unfold chkS at h
    cases h
  | .try_ b hs, sc, st, G, X, g, h => by
    unfold chkS at h
    split at h
    · rename_i x es p
      simp only [Bool.and_eq_true, Bool.not_eq_true'] at h
      obtain ⟨h1, h2, h3⟩ := h
      obtain ⟨ts, hr, hS⟩ := hd_all g hs es h2
      cases hr with
      | nil =>
        cases hs with
        | nil => cases h3
        | cons a b => cases hS
      | cons r1 r2 =>
        refine PS.imp (ps_tryR (tb := tBody G (exSs R b)) g.stk g.frm (by rw [g.names]; exact g.nd) g.tk (fun W pl xe tk po => ⟨fun pins s σ H D I q => ?_⟩) (.cons r1 r2)) fun D σ H q => ls_try g.gk g.xr hS (by simp only [exS] at q; exact q)
        obtain ⟨E, em, hw, ls⟩ := q
        exact (soundSs b sc x { G with E := E, em := em } (X.tr pl xe) (g.tr (tk.imp hw) po) h1).run pins s σ H D I ls
    · cases h
theorem soundSs : ∀ (ss : ISs) (sc : Scope) (l : List Stmt) (G : Gh) (X : Cx), Bd C XS ca R sc N lv G X → chkSs C XS N ss sc l = true → PSs X l (LS G (exSs R ss))
  | .n, sc, l, G, X, g, h => by
    unfold chkSs at h
    split at h
    · exact PSs.imp pss_nil fun D σ H q => ls_nx (by simp only [exSs] at q; exact q)
    · cases h
  | .c s ss, sc, l, G, X, g, h => by
    unfold chkSs at h
    split at h
    · simp only [Bool.and_eq_true] at h
      exact PSs.imp (pss_cons (soundS s sc _ G X g h.1) (soundSs ss sc _ G X g h.2)) fun D σ H q => ls_seq (by simp only [exSs] at q; exact q)
    · cases h
end
end PD

end

section
set_option Elab.async false
set_option linter.all false
set_option autoImplicit false
set_option maxRecDepth 100000
/-! Every def of the program answers as the interpreter does. Own work. -/
namespace PD
open PySem PySem.Spec L2

/-- what the program's top has left, for a def -/
structure DefOk (K : PySem.W.Frag) (mg : Str → Option Value) (C : Cfg) (XS : List XD) (fd : FD) (st : Stmt) (f : Addr) (fdt : FuncData) : Prop where
  mgf : mg fd.name = some (.ref f)
  fn : Fun K fd.name fd.name st f fdt
  bind : Binds K fdt fd.ps []
  sc : FnScope fd.N fd.ps (defScope st)
  chk : chkSs C XS fd.N fd.body (defScope st) (defBody st) = true
structure Pg (P : Program) (w : World) (K : PySem.W.Frag) (mg : Str → Option Value) (C : Cfg) (XS : List XD) (ca : Nat → Addr) : Prop where
  lk : Lk P w K mg C
  defs : ∀ (i : Nat) (fd : FD), C.funs[i]? = some fd → ∃ st f fdt, DefOk K mg C XS fd st f fdt
  cls : ∀ (h : Nat) (xd : XD), XS[h]? = some xd → mg xd.name = some (.ref (ca h)) ∧ (xd.hd = true → ∀ (k : Nat) (xk : XD), XS[k]? = some xk → xk.fields ≠ [] → PySem.W.exmOne K (.ref (ca k)) (.ref (ca h)) = some (xd.sub.contains k))
  xf : ∀ (k : Nat) (xd : XD), XS[k]? = some xd → xd.fields.Nodup ∧ (xd.fields ≠ [] → XfC K (ca k) ∧ ∀ f ∈ xd.fields, PySem.W.findIn K (.ref (ca k)) f = some none)
  hsu : mg (Str.ofString "super") = none
  txt : ∀ (k : Nat) (xd : XD), XS[k]? = some xd → xd.fields ≠ [] → ∃ fI, XTxt P K (ca k) fI xd.fields
section
variable {P : Program} {w : World} {K : PySem.W.Frag} {mg : Str → Option Value} {C : Cfg} {XS : List XD} {ca : Nat → Addr} {base : Heap}
theorem HR.gr {F H F' H' : Hp} (h : HR F H F' H') : Grow F H F' H' := ⟨h.f0, h.h0, h.fh, h.nw⟩
theorem er_start {N : List Str} {F H : Hp} {ds : List D} {vs : List V} (sm : Same F H) (dr : DRs K F vs ds) (hl : ds.length ≤ N.length) :
    ER K F H F H (L2.start N vs) (ds.map (fun d => some (Cell.fz d)) ++ List.replicate (N.length - ds.length) none) (fun _ => []) where
  toHR := HR.refl sm
  len := by simp [L2.start, dr.length]
  sl := fun i c h => by
    have hlen := dr.length
    by_cases hi : i < ds.length
    · rw [List.getElem?_append_left (by simpa using hi), List.getElem?_map] at h
      rw [List.getElem?_eq_getElem hi] at h
      simp only [Option.map_some, Option.some.injEq] at h
      subst h
      obtain ⟨v, ev, q⟩ := dr.get (List.getElem?_eq_getElem hi)
      refine ⟨v, ?_, .fz q⟩
      show (vs.map some ++ _)[i]? = _
      rw [List.getElem?_append_left (by simpa [hlen] using hi), List.getElem?_map, ev]
      rfl
    · rw [List.getElem?_append_right (by simpa using hi)] at h
      rw [List.getElem?_replicate] at h
      split at h <;> cases h
  ap := fun i j a h => by cases h
  fr := fun i a h => by cases h
/-- what is told of the defs, at a level -/
def FnsAt (P : Program) (w : World) (K : PySem.W.Frag) (mg : Str → Option Value) (C : Cfg) (XS : List XD) (ca : Nat → Addr) (base : Heap) (n : Nat) : Prop := ∀ (i : Nat) (fd : FD), C.funs[i]? = some fd → ∃ a fdt, mg fd.name = some (.ref a) ∧ PySem.W.keepIn K (.ref a) = true ∧ Binds K fdt fd.ps [] ∧
    FnOk P w K mg base (L2N.CX P w) n a fdt fd.ps (spF K (runF C n i) (XRc K XS ca) fd.ps.length)
theorem fn_up (g : Pg P w K mg C XS ca) {n i : Nat} {fd : FD} {st : Stmt} {f : Addr} {fdt : FuncData} (h : C.funs[i]? = some fd) (d : DefOk K mg C XS fd st f fdt) (hfn : FnsAt P w K mg C XS ca base n) :
    FnOk P w K mg base (L2N.CX P w) (n + 1) f fdt fd.ps (spF K (runF C (n + 1) i) (XRc K XS ca) fd.ps.length) := by
  obtain ⟨oc, od, kV, doc, pm, an, cdv, ct, osl, rfl, lk, hcd⟩ := d.fn.ex
  refine fn_of lk hcd d.sc (fun vs H Q E q => ?_) fun A outer s H vs Q E hr q => ?_
  · obtain ⟨F, ds, hl, _, dr, _⟩ := q
    rw [dr.length, hl]
  · obtain ⟨F, ds, hl, sm, dr, q⟩ := q
    have ps : fd.ps.length ≤ fd.N.length := by
      have := congrArg List.length d.sc.pre
      rw [List.length_take] at this
      omega
    let G : Gh := ⟨K, F, H, fun _ x _ => ∀ F' H' cls d, Grow F H F' H' → XRc K XS ca x cls d F' H' → E cls d H', fun _ _ _ _ _ q => q, XRc K XS ca⟩
    have good : Bd C XS ca ⟨runF C n, C.consts⟩ (defScope st) fd.N n G (cxOf (L2N.CX P w) P w K mg base fd.N fd.name (defScope st) f cdv A outer s H E) := {
      lk := g.lk
      calm := rfl
      scope := rfl
      names := rfl
      nd := d.sc.nd
      room := hr
      gk := rfl
      tk := (L2N.takes_of rfl rfl rfl rfl).imp fun cls d σ H' z => by
        obtain ⟨F', own, env, x, er, xr, q⟩ := z
        exact q F' H' cls d er.toHR.gr xr
      fns := fun f fd' hf => hfn f fd' hf
      cons := rfl
      cell := fun _ _ => rfl
      kind := d.sc.kind
      po := passes_of rfl
      stk := rfl
      frm := rfl
      xr := rfl
      cls := g.cls
      xf := g.xf
      hsu := g.hsu
      txt := g.txt }
    refine ⟨_, soundSs fd.body (defScope st) (defBody st) G _ good d.chk, F, _, _, er_start sm dr (by omega), ?_⟩
    unfold runF at q
    rw [h] at q
    try dsimp only at q
    rw [if_pos hl] at q
    rw [hl]
    generalize exSs ⟨runF C n, C.consts⟩ fd.body (ds.map (fun d => some (Cell.fz d)) ++ List.replicate (fd.N.length - fd.ps.length) none) = o at q ⊢
    cases o with
    | nx env =>
      have q : Got K F H (.fz .none) Q := q
      exact fun σ' F' H' own er s2 => q F' H' .non [] er.toHR.gr (.fz .non) (fun _ z => absurd z (by simp))
    | rt c =>
      have q : Got K F H c Q := q
      exact fun F' H' v as hr s2 cr fr => q F' H' v as hr.gr cr fr
    | bk env => exact (show False from q).elim
    | ct env => exact (show False from q).elim
    | exc x env => exact fun F' H' cls d gr xr => q F' H' cls d gr xr
    | bad => exact (show False from q).elim
theorem fns_ok (g : Pg P w K mg C XS ca) : ∀ n : Nat, FnsAt P w K mg C XS ca base n
  | 0, i, fd, h => by
    obtain ⟨st, f, fdt, d⟩ := g.defs i fd h
    refine ⟨f, fdt, d.mgf, d.fn.kp, d.bind, fun vs H Q E q => ?_, fun A outer s H args us vs Q E _ _ _ _ q => ?_⟩
    · obtain ⟨F, ds, _, _, _, q⟩ := q
      exact q.elim
    · obtain ⟨F, ds, _, _, _, q⟩ := q
      exact q.elim
  | n + 1, i, fd, h => by
    obtain ⟨st, f, fdt, d⟩ := g.defs i fd h
    exact ⟨f, fdt, d.mgf, d.fn.kp, d.bind, fn_up g h d (fns_ok g n)⟩
theorem fn_at (g : Pg P w K mg C XS ca) (n i : Nat) {fd : FD} {st : Stmt} {f : Addr} {fdt : FuncData} (h : C.funs[i]? = some fd) (d : DefOk K mg C XS fd st f fdt) :
    FnOk P w K mg base (L2N.CX P w) (n + 1) f fdt fd.ps (spF K (runF C (n + 1) i) (XRc K XS ca) fd.ps.length) := fn_up g h d (fns_ok g n)
end
end PD

end

section
set_option Elab.async false
set_option linter.all false
set_option autoImplicit false
set_option maxRecDepth 100000
/-! The end: what the head finds, gathered. Own work. -/
namespace PD
open PySem PySem.Spec L2

def AllIx {α : Type} (P : Nat → α → Prop) : Nat → List α → Prop
  | _, [] => True
  | n, x :: r => P n x ∧ AllIx P (n + 1) r
theorem AllIx.get {α : Type} {P : Nat → α → Prop} : ∀ {l : List α} {n i : Nat} {x : α}, AllIx P n l → l[i]? = some x → P (n + i) x
  | y :: l, n, 0, x, h, e => by cases e; exact h.1
  | y :: l, n, i + 1, x, h, e => by
    have := AllIx.get (i := i) h.2 (by simpa using e)
    rw [show n + 1 + i = n + (i + 1) by omega] at this
    exact this
theorem AllIx.get0 {α : Type} {P : Nat → α → Prop} {l : List α} {i : Nat} {x : α} (h : AllIx P 0 l) (e : l[i]? = some x) : P i x := by
  have := h.get e
  rwa [Nat.zero_add] at this

def initOf (s : Stmt) : Stmt := match s with
  | .ClassDef _ _ _ body _ _ _ _ _ _ _ => body.getD 0 (.Pass ⟨0, 0, 0, 0⟩)
  | s => s
/-- FnScope, as a check -/
def fnB (N P : List Str) (sc : Scope) : Bool := decide (sc.kind = .function) && (sc.isCoroutine == false && (sc.isGenerator == false && (decide N.Nodup && (decide (N.take P.length = P) && ((P.all fun x => (match sc.names.lookup x with
  | some .local => true
  | some .cell => true
  | _ => false)) && sc.names.all fun y => decide (y.2 ≠ .free))))))
theorem fnB_ok {N P : List Str} {sc : Scope} (h : fnB N P sc = true) : FnScope N P sc := by
  unfold fnB at h
  simp only [Bool.and_eq_true, decide_eq_true_eq, beq_iff_eq] at h
  obtain ⟨h1, h2, h3, h4, h5, h6, h7⟩ := h
  refine ⟨h1, h2, h3, h4, h5, fun x hx => ?_, fun y hy => ?_⟩
  · have q := List.all_eq_true.mp h6 x hx
    split at q
    · rename_i e; exact .inl e
    · rename_i e; exact .inr e
    · cases q
  · simpa using List.all_eq_true.mp h7 y hy
theorem def_ok {K : PySem.W.Frag} {mg : Str → Option Value} {C : Cfg} {XS : List XD} {fd : FD} {st : Stmt} {f : Addr} {fdt : FuncData} (g : mg fd.name = some (.ref f)) (F : Fun K fd.name fd.name st f fdt) (b : Binds K fdt fd.ps [])
    (h : (fnB fd.N fd.ps (defScope st) && chkSs C XS fd.N fd.body (defScope st) (defBody st)) = true) : ∃ st f fdt, DefOk K mg C XS fd st f fdt := by
  rw [Bool.and_eq_true] at h
  exact ⟨st, f, fdt, g, F, b, fnB_ok h.1, h.2⟩

/-! ### the classes -/
section
variable {P : Program} {K : PySem.W.Frag} {B C fI cda cc : Addr}
abbrev veTail : List Value := [.type "ValueError", .type "Exception", .type "BaseException", .type "object"]
/-- what the head finds of the base class -/
structure BaseF (K : PySem.W.Frag) (B : Addr) : Prop where
  cls : ∃ nm q N bs sn sub ab col dd k0 k1 k2 k3 k5, K.lookup B = some (excClassObj nm q B N bs veTail true sn sub ab col dd k0 k1 k2 k3 k5 "ValueError.__new__")
  init : PySem.W.findIn K (.ref B) "__init__" = some (some (.builtin "ValueError.__init__"))
structure LeafF (K : PySem.W.Frag) (B C : Addr) : Prop where
  cls : ∃ nm q N bs sn sub ab col dd k0 k1 k2 k3 k5, K.lookup C = some (excClassObj nm q C N bs (.ref B :: veTail) true sn sub ab col dd k0 k1 k2 k3 k5 "ValueError.__new__")
  sa : PySem.W.findIn K (.ref C) "__setattr__" = some (some (.builtin "object.__setattr__"))
  exC : PySem.W.subIn K (.ref C) (.type "BaseException") = some true
  tyC : PySem.W.typeIn K (.ref C) = some (.type "type")
  kC : PySem.W.keepIn K (.ref C) = true
  ga : PySem.W.findIn K (.ref C) "__getattribute__" = some (some (.builtin "BaseException.__getattribute__"))
  gg : PySem.W.findIn K (.ref C) "__getattr__" = some none
theorem LeafF.oex (h : LeafF K B C) : OexC K C where
  cls := by
    obtain ⟨nm, q, N, bs, sn, sub, ab, col, dd, k0, k1, k2, k3, k5, e⟩ := h.cls
    exact ⟨nm, q, N, bs, _, sn, sub, ab, col, dd, k0, k1, k2, k3, k5, e, rfl⟩
  sa := h.sa
  exC := h.exC
  tyC := h.tyC
  kC := h.kC
theorem LeafF.mro (h : LeafF K B C) : ∃ cd, PySem.W.clsIn K C = some cd ∧ cd.mro = .ref C :: .ref B :: veTail ∧ cd.hasDict = true := by
  obtain ⟨nm, q, N, bs, sn, sub, ab, col, dd, k0, k1, k2, k3, k5, e⟩ := h.cls
  have e2 : PySem.W.clsIn K C = some ({ name := nm, bases := bs, mro := .ref C :: .ref B :: veTail, ns := N, qualname := q, hasDict := true, slotNames := sn, subclasses := sub, abstract := ab, collection := col, hasDel := false } : ClassData) := by
    unfold PySem.W.clsIn
    rw [e]
  exact ⟨_, e2, rfl, rfl⟩
theorem LeafF.xf (h : LeafF K B C) : XfC K C where
  ga := h.ga
  gg := h.gg
  exC := h.exC
  hdC := by
    obtain ⟨nm, q, N, bs, sn, sub, ab, col, dd, k0, k1, k2, k3, k5, e⟩ := h.cls
    unfold PySem.W.hasDictIn PySem.W.clsIn
    rw [e]
    rfl
theorem LeafF.sup (h : LeafF K B C) (b : BaseF K B) : PySem.W.ks_superIn K C C "__init__" = some (some (.builtin "ValueError.__init__")) := by
  obtain ⟨cd, e, em, _⟩ := h.mro
  unfold PySem.W.ks_superIn
  rw [e, Option.bind_some, em]
  have d : ((Value.ref C :: Value.ref B :: veTail).dropWhile (· != .ref C)).drop 1 = Value.ref B :: veTail := by simp [List.dropWhile_cons]
  rw [d]
  obtain ⟨nm, q, N, bs, sn, sub, ab, col, dd, k0, k1, k2, k3, k5, eB⟩ := b.cls
  have i := b.init
  unfold PySem.W.findIn at i
  dsimp only at i
  rw [eB] at i
  exact i
theorem LeafF.subC (h : LeafF K B C) : PySem.W.mroIn K C (.ref C) = some true := by
  obtain ⟨cd, e, em, _⟩ := h.mro
  unfold PySem.W.mroIn
  rw [e, Option.bind_some, em]
  simp
theorem LeafF.ve (h : LeafF K B C) : PySem.W.subIn K (.ref C) (.type "ValueError") = some true := by
  obtain ⟨cd, e, em, _⟩ := h.mro
  show PySem.W.mroIn K C (.type "ValueError") = some true
  unfold PySem.W.mroIn
  rw [e, Option.bind_some, em]
  rfl
/-- a class of the program, its __init__ -/
theorem xtxt_of {st : Stmt} {fs : List Str} {qual : Str} {oc dV kV doc pm ct : Value} {od an : Option Addr} {osl : Array (Option Value)} {ccl cl : Value} {cdd cld : Option Addr} {vs : Array Value} {ccs csl : Array (Option Value)} {file : Str} {tf : Tok}
    (h : LeafF K B C) (b : BaseF K B) (iC : PySem.W.findIn K (.ref C) "__init__" = some (some (.ref fI))) (tI : PySem.W.typeIn K (.ref fI) = some (.type "function")) (noF : ∀ f ∈ fs, PySem.W.findIn K (.ref C) f = some none)
    (opq : PySem.W.nsIn K cStatics "thirdparty.any" = some none) (htop : (P.main.scope.names.lookup ("super" : Str)).isSome = false)
    (lk : K.lookup fI = some ⟨oc, od, .func (PySem.W.ksFn "__init__" qual (defArgs st) (defBody st) (defScope st) dV kV doc pm an (.ref cda) ct cc), osl⟩) (hcd : PySem.W.codeIn K (.ref cda) qual = true)
    (lc : K.lookup cda = some ⟨ccl, cdd, .fields vs, ccs⟩) (hvs : vs[2]? = some (.str file tf)) (hfile : ((P.main.file : Str) == file) = true) (cell : K.lookup cc = some ⟨cl, cld, .cell (some (.ref C)), csl⟩)
    (hb : ∀ us : List Value, us.length = fs.length + 1 → bindArgs (PySem.W.ksFn "__init__" qual (defArgs st) (defBody st) (defScope st) dV kV doc pm an (.ref cda) ct cc) ⟨us, []⟩ = pure ((selfN :: fs).zip us))
    (har : ∃ ar, ((defArgs st).posonlyargs ++ (defArgs st).args).head? = some ar ∧ ar.arg = selfN)
    (chk : (decide (selfN :: fs).Nodup && (decide (fs.length ≤ 100) && (supB (defBody st) && (asgB fs ((defBody st).drop 1) && scB fs (defScope st))))) = true) : XTxt P K C fI fs := by
  simp only [Bool.and_eq_true, decide_eq_true_eq] at chk
  obtain ⟨c1, c2, c3, c4, c5⟩ := chk
  exact ⟨h.oex, iC, tI, noF, h.subC, h.sup b, h.ve, opq, htop, c1, c2, oc, od, _, qual, defArgs st, defBody st, defScope st, dV, kV, doc, pm, ct, an, cda, cc, osl, lk, hcd, ⟨ccl, cdd, vs, ccs, file, tf, lc, hvs, hfile⟩, ⟨cl, cld, csl, cell⟩, har, hb, c3, c4, c5⟩
/-- does the clause that names the class at D take an error of the class at C? -/
theorem exm_by {D : Addr} {b : Bool} (h : LeafF K B D) (e : PySem.W.subIn K (.ref C) (.ref D) = some b) : PySem.W.exmOne K (.ref C) (.ref D) = some b := by
  obtain ⟨cd, e1, _, _⟩ := h.mro
  have h1 : (PySem.W.subIn K (.ref D) (.type "BaseException") == some true) = true := by rw [h.exC]; rfl
  have h2 : ((PySem.W.clsIn K D).isSome && PySem.W.typeIn K (.ref D) == some (.type "type")) = true := by rw [e1, h.tyC]; rfl
  show (if (PySem.W.subIn K (.ref D) (.type "BaseException") == some true) = true then (if ((PySem.W.clsIn K D).isSome && PySem.W.typeIn K (.ref D) == some (.type "type")) = true then PySem.W.subIn K (.ref C) (.ref D) else none) else none) = some b
  rw [if_pos h1, if_pos h2]
  exact e
end

/-! ### the law -/
def spLaw (K : PySem.W.Frag) : Sp := fun vs H Q _ => ∃ (a : Addr) (ns : List Int), vs = [.ref a] ∧ SqL K H a (ns.map V.int) ∧ ns.length ≤ 63 ∧ ∀ H', Q (.bl true) H'
theorem law_imp {K : PySem.W.Frag} {r : List D → FR} {XR : Exc → Value → Option Addr → Hp → Hp → Prop} (hr : ∀ ns : List Int, ns.length ≤ 63 → r [.list (ns.map .int)] = .ok (.fz (.bool true))) : ∀ (vs : List V) (H : Hp) (Q : VK) (E : XK), spLaw K vs H Q E → spF K r XR 1 vs H Q E := by
  rintro vs H Q E ⟨a, ns, rfl, hS, hl, q⟩
  have sm : Same (fun b => if b = a then H a else none) H := fun b o e => by
    dsimp only at e
    by_cases hb : b = a
    · rw [if_pos hb] at e
      rw [hb]
      exact e
    · rw [if_neg hb] at e
      cases e
  have hF : SqL K (fun b => if b = a then H a else none) a (ns.map V.int) := by
    rcases hS with (hS | ⟨o, hS⟩) | hS
    · exact .inl (.inl (by show (if a = a then H a else none) = _; rw [if_pos rfl]; exact hS))
    · exact .inl (.inr ⟨o, by show (if a = a then H a else none) = _; rw [if_pos rfl]; exact hS⟩)
    · exact .inr hS
  refine ⟨_, [.list (ns.map .int)], rfl, sm, .cons (.lst hF (DRs.ints ns)) .nil, ?_⟩
  rw [hr ns hl]
  intro F' H' v as g cr _
  cases cr with
  | fz dr =>
    rw [dr.unB]
    exact q H'
end PD

end

section
set_option Elab.async false
set_option linter.all false
set_option maxRecDepth 100000
set_option maxHeartbeats 0
/-! The program's text in the small language; what the head finds. Own work (printed by gen.py). -/
namespace PD.K55
open PySem PySem.Spec L2
/-! ### the text -/
abbrev pw : Program := PySem.Challenge.pw_filechest_k55_whole_spreading_or_windows
def top (i : Nat) : Stmt := pw.main.body.getD i (.Pass ⟨0, 0, 0, 0⟩)
def f_check_sizes : FD := ⟨Str.ofString "check_sizes", [Str.ofString "sizes", Str.ofString "room"], [Str.ofString "sizes", Str.ofString "room", Str.ofString "size"],
  (.c (.ite (.or (.val (.op2 .lt (.var 1) (.lit (.int 1)))) (.val (.op2 .gt (.var 1) (.glob 0)))) (.c (.raise 1 (.c (.var 1) .n))
    .n) .n)
    (.c (.ite (.val (.op2 .gt (.op1 .len (.var 0)) (.glob 1))) (.c (.raise 2 (.c (.glob 1) .n))
    .n) .n)
    (.c (.for_ (.var 2) (.seq (.var 0)) (.c (.ite (.or (.val (.op2 .lt (.var 2) (.lit (.int 1)))) (.val (.op2 .gt (.var 2) (.var 1)))) (.c (.raise 1 (.c (.var 2) .n))
    .n) .n)
    .n))
    .n)))⟩
def f_carrier_end : FD := ⟨Str.ofString "carrier_end", [Str.ofString "sizes", Str.ofString "room", Str.ofString "start"], [Str.ofString "sizes", Str.ofString "room", Str.ofString "start", Str.ofString "used", Str.ofString "end"],
  (.c (.asg (.var 3) (.lit (.int 0)))
    (.c (.asg (.var 4) (.var 2))
    (.c (.whl (.and (.val (.op2 .lt (.var 4) (.op1 .len (.var 0)))) (.val (.op2 .le (.op2 .add (.var 3) (.op2 .ix (.var 0) (.var 4))) (.var 1)))) (.c (.asg (.var 3) (.op2 .add (.var 3) (.op2 .ix (.var 0) (.var 4))))
    (.c (.aug 4 .add (.lit (.int 1)))
    .n)))
    (.c (.retV 4)
    .n))))⟩
def f_spread : FD := ⟨Str.ofString "spread", [Str.ofString "sizes", Str.ofString "room"], [Str.ofString "sizes", Str.ofString "room", Str.ofString "spans", Str.ofString "start", Str.ofString "end"],
  (.c (.expr (.call 0 (.c (.var 0) (.c (.var 1) .n))))
    (.c (.asg (.var 2) (.lst .n))
    (.c (.asg (.var 3) (.lit (.int 0)))
    (.c (.whl (.val (.op2 .lt (.var 3) (.op1 .len (.var 0)))) (.c (.asg (.var 4) (.call 1 (.c (.var 0) (.c (.var 1) (.c (.var 3) .n)))))
    (.c (.app 2 (.tup (.c (.var 3) (.c (.var 4) .n))))
    (.c (.asg (.var 3) (.var 4))
    .n))))
    (.c (.retV 2)
    .n)))))⟩
def f_windows : FD := ⟨Str.ofString "windows", [Str.ofString "sizes", Str.ofString "room"], [Str.ofString "sizes", Str.ofString "room", Str.ofString "spans", Str.ofString "start", Str.ofString "end"],
  (.c (.asg (.var 2) (.call 2 (.c (.var 0) (.c (.var 1) .n))))
    (.c (.ret (.comp (.tup (.c (.var 3) (.c (.op2 .add (.var 4) (.lit (.int 1))) .n))) [3, 4] (.tup (.c (.var 3) (.c (.var 4) .n))) (.seq (.sl (.var 2) .absent (.op2 .sub (.op1 .len (.var 2)) (.lit (.int 1))))) .yes))
    .n))⟩
def f_fits_on : FD := ⟨Str.ofString "fits_on", [Str.ofString "sizes", Str.ofString "room", Str.ofString "carriers"], [Str.ofString "sizes", Str.ofString "room", Str.ofString "carriers", Str.ofString "spans"],
  (.c (.asg (.var 3) (.call 2 (.c (.var 0) (.c (.var 1) .n))))
    (.c (.ite (.val (.op2 .lt (.var 2) (.lit (.int 0)))) (.c (.raise 1 (.c (.var 2) .n))
    .n) .n)
    (.c (.ite (.val (.op2 .le (.op1 .len (.var 3)) (.var 2))) (.c (.ret (.tup (.c (.lit (.str (Str.ofString "spread"))) (.c (.var 3) .n))))
    .n) .n)
    (.c (.ret (.tup (.c (.lit (.str (Str.ofString "windows"))) (.c (.sl (.call 3 (.c (.var 0) (.c (.var 1) .n))) .absent (.var 2)) .n))))
    .n))))⟩
def f_span_sum : FD := ⟨Str.ofString "span_sum", [Str.ofString "sizes", Str.ofString "start", Str.ofString "end"], [Str.ofString "sizes", Str.ofString "start", Str.ofString "end", Str.ofString "total", Str.ofString "size"],
  (.c (.asg (.var 3) (.lit (.int 0)))
    (.c (.for_ (.var 4) (.seq (.sl (.var 0) (.var 1) (.var 2))) (.c (.asg (.var 3) (.op2 .add (.var 3) (.var 4)))
    .n))
    (.c (.retV 3)
    .n)))⟩
def f_is_spread : FD := ⟨Str.ofString "is_spread", [Str.ofString "sizes", Str.ofString "room", Str.ofString "carriers", Str.ofString "spans"], [Str.ofString "sizes", Str.ofString "room", Str.ofString "carriers", Str.ofString "spans", Str.ofString "place", Str.ofString "start", Str.ofString "end"],
  (.c (.expr (.call 0 (.c (.var 0) (.c (.var 1) .n))))
    (.c (.asg (.var 4) (.lit (.int 0)))
    (.c (.for_ (.tup (.c (.var 5) (.c (.var 6) .n))) (.seq (.var 3)) (.c (.ite (.or (.val (.op2 .ne (.var 5) (.var 4))) (.or (.val (.op2 .le (.var 6) (.var 5))) (.val (.op2 .gt (.var 6) (.op1 .len (.var 0)))))) (.c (.ret (.lit (.bool false)))
    .n) .n)
    (.c (.ite (.val (.op2 .gt (.call 5 (.c (.var 0) (.c (.var 5) (.c (.var 6) .n)))) (.var 1))) (.c (.ret (.lit (.bool false)))
    .n) .n)
    (.c (.asg (.var 4) (.var 6))
    .n))))
    (.c (.ret (.andV (.op2 .eq (.var 4) (.op1 .len (.var 0))) (.op2 .le (.op1 .len (.var 3)) (.var 2))))
    .n))))⟩
def f_shows_too_few : FD := ⟨Str.ofString "shows_too_few", [Str.ofString "sizes", Str.ofString "room", Str.ofString "carriers", Str.ofString "paper"], [Str.ofString "sizes", Str.ofString "room", Str.ofString "carriers", Str.ofString "paper", Str.ofString "least", Str.ofString "start", Str.ofString "end"],
  (.c (.expr (.call 0 (.c (.var 0) (.c (.var 1) .n))))
    (.c (.ite (.or (.val (.op2 .eq (.op1 .len (.var 0)) (.lit (.int 0)))) (.val (.op2 .ne (.op1 .len (.var 3)) (.var 2)))) (.c (.ret (.lit (.bool false)))
    .n) .n)
    (.c (.asg (.var 4) (.lit (.int 0)))
    (.c (.for_ (.tup (.c (.var 5) (.c (.var 6) .n))) (.seq (.var 3)) (.c (.ite (.or (.val (.op2 .lt (.var 5) (.var 4))) (.or (.val (.op2 .le (.var 6) (.var 5))) (.val (.op2 .gt (.var 6) (.op1 .len (.var 0)))))) (.c (.ret (.lit (.bool false)))
    .n) .n)
    (.c (.ite (.val (.op2 .le (.call 5 (.c (.var 0) (.c (.var 5) (.c (.var 6) .n)))) (.var 1))) (.c (.ret (.lit (.bool false)))
    .n) .n)
    (.c (.asg (.var 4) (.op2 .sub (.var 6) (.lit (.int 1))))
    .n))))
    (.c (.ret (.lit (.bool true)))
    .n)))))⟩
def f__law_draws : FD := ⟨Str.ofString "_law_draws", [Str.ofString "script", Str.ofString "k", Str.ofString "base", Str.ofString "count"], [Str.ofString "script", Str.ofString "k", Str.ofString "base", Str.ofString "count", Str.ofString "cell", Str.ofString "rest", Str.ofString "numbers", Str.ofString "place", Str.ofString "mixed"],
  (.c (.asg (.var 4) (.lit (.int 0)))
    (.c (.ite (.val (.op2 .lt (.var 1) (.op1 .len (.var 0)))) (.c (.asg (.var 4) (.op2 .ix (.var 0) (.var 1)))
    .n) .n)
    (.c (.asg (.var 5) (.op2 .sub (.var 4) (.op2 .pow (.lit (.int 10)) (.lit (.int 18)))))
    (.c (.asg (.var 6) (.lst .n))
    (.c (.for_ (.var 7) (.rng1 (.var 3)) (.c (.ite (.val (.op2 .gt (.var 5) (.lit (.int 0)))) (.c (.app 6 (.op2 .mod (.op1 .int (.var 5)) (.var 2)))
    (.c (.asg (.var 5) (.op2 .fdiv (.var 5) (.var 2)))
    .n)) (.c (.asg (.var 8) (.op2 .mod (.op1 .int (.op2 .add (.op2 .mul (.var 4) (.lit (.int 48271))) (.op2 .mul (.op2 .add (.op2 .add (.op2 .mul (.lit (.int 61)) (.var 1)) (.var 7)) (.lit (.int 1))) (.lit (.int 69621))))) (.lit (.int 1000003))))
    (.c (.app 6 (.op2 .mod (.op2 .mod (.op1 .int (.op2 .add (.op2 .mul (.var 8) (.op2 .add (.var 8) (.lit (.int 7)))) (.op2 .mul (.lit (.int 7919)) (.var 7)))) (.lit (.int 999983))) (.var 2)))
    .n)))
    .n))
    (.c (.retV 6)
    .n))))))⟩
def f__law_same : FD := ⟨Str.ofString "_law_same", [Str.ofString "actual", Str.ofString "due"], [Str.ofString "actual", Str.ofString "due", Str.ofString "k"],
  (.c (.ite (.val (.op1 .isN (.var 1))) (.c (.ret (.op1 .isN (.var 0)))
    .n) .n)
    (.c (.ite (.val (.op1 (.isi .bool) (.var 1))) (.c (.ret (.andV (.op1 (.isi .bool) (.var 0)) (.op2 .eq (.var 0) (.var 1))))
    .n) .n)
    (.c (.ite (.val (.op1 (.isi .int) (.var 1))) (.c (.ret (.andV (.op1 (.isi .int) (.var 0)) (.andV (.notV (.op1 (.isi .bool) (.var 0))) (.op2 .eq (.var 0) (.var 1)))))
    .n) .n)
    (.c (.ite (.val (.op1 (.isi .str) (.var 1))) (.c (.ret (.andV (.op1 (.isi .str) (.var 0)) (.op2 .eq (.var 0) (.var 1))))
    .n) .n)
    (.c (.ite (.and (.val (.op1 (.isi .list) (.var 1))) (.not (.val (.op1 (.isi .list) (.var 0))))) (.c (.ret (.lit (.bool false)))
    .n) .n)
    (.c (.ite (.and (.val (.op1 (.isi .tuple) (.var 1))) (.not (.val (.op1 (.isi .tuple) (.var 0))))) (.c (.ret (.lit (.bool false)))
    .n) .n)
    (.c (.ite (.val (.op2 .ne (.op1 .len (.var 0)) (.op1 .len (.var 1)))) (.c (.ret (.lit (.bool false)))
    .n) .n)
    (.c (.for_ (.var 2) (.rng1 (.op1 .len (.var 1))) (.c (.ite (.not (.val (.call 9 (.c (.op2 .ix (.var 0) (.var 2)) (.c (.op2 .ix (.var 1) (.var 2)) .n))))) (.c (.ret (.lit (.bool false)))
    .n) .n)
    .n))
    (.c (.ret (.lit (.bool true)))
    .n)))))))))⟩
def f__law_sizes : FD := ⟨Str.ofString "_law_sizes", [Str.ofString "script", Str.ofString "room", Str.ofString "picks"], [Str.ofString "script", Str.ofString "room", Str.ofString "picks", Str.ofString "count", Str.ofString "bound", Str.ofString "sizes", Str.ofString "k"],
  (.c (.asg (.var 3) (.op2 .mod (.op1 .int (.op2 .ix (.var 2) (.lit (.int 2)))) (.lit (.int 40))))
    (.c (.ite (.val (.op2 .eq (.op2 .mod (.op1 .int (.op2 .ix (.var 2) (.lit (.int 1)))) (.lit (.int 12))) (.lit (.int 5)))) (.c (.asg (.var 3) (.lit (.int 200)))
    .n) .n)
    (.c (.asg (.var 4) (.var 1))
    (.c (.ite (.val (.op2 .eq (.op2 .mod (.op1 .int (.op2 .ix (.var 2) (.lit (.int 3)))) (.lit (.int 2))) (.lit (.int 1)))) (.c (.asg (.var 4) (.op2 .add (.lit (.int 1)) (.op2 .mod (.op1 .int (.op2 .ix (.var 2) (.lit (.int 4)))) (.var 1))))
    .n) .n)
    (.c (.asg (.var 5) (.lst .n))
    (.c (.for_ (.var 6) (.rng1 (.var 3)) (.c (.app 5 (.op2 .add (.lit (.int 1)) (.op2 .ix (.call 8 (.c (.var 0) (.c (.op2 .add (.lit (.int 2)) (.op2 .fdiv (.var 6) (.lit (.int 20)))) (.c (.var 4) (.c (.lit (.int 20)) .n))))) (.op2 .mod (.op1 .int (.var 6)) (.lit (.int 20))))))
    .n))
    (.c (.retV 5)
    .n)))))))⟩
def f__law_spans : FD := ⟨Str.ofString "_law_spans", [Str.ofString "sizes", Str.ofString "room"], [Str.ofString "sizes", Str.ofString "room", Str.ofString "spans", Str.ofString "start", Str.ofString "used", Str.ofString "k"],
  (.c (.asg (.var 2) (.lst .n))
    (.c (.asg (.var 3) (.lit (.int 0)))
    (.c (.asg (.var 4) (.lit (.int 0)))
    (.c (.for_ (.var 5) (.rng1 (.op1 .len (.var 0))) (.c (.ite (.val (.op2 .gt (.op2 .add (.var 4) (.op2 .ix (.var 0) (.var 5))) (.var 1))) (.c (.app 2 (.tup (.c (.var 3) (.c (.var 5) .n))))
    (.c (.asg (.var 3) (.var 5))
    (.c (.asg (.var 4) (.lit (.int 0)))
    .n))) .n)
    (.c (.asg (.var 4) (.op2 .add (.var 4) (.op2 .ix (.var 0) (.var 5))))
    .n)))
    (.c (.ite (.val (.op2 .gt (.op1 .len (.var 0)) (.lit (.int 0)))) (.c (.app 2 (.tup (.c (.var 3) (.c (.op1 .len (.var 0)) .n))))
    .n) .n)
    (.c (.retV 2)
    .n))))))⟩
def f__law_is_spread : FD := ⟨Str.ofString "_law_is_spread", [Str.ofString "sizes", Str.ofString "room", Str.ofString "carriers", Str.ofString "spans"], [Str.ofString "sizes", Str.ofString "room", Str.ofString "carriers", Str.ofString "spans", Str.ofString "place", Str.ofString "span"],
  (.c (.asg (.var 4) (.lit (.int 0)))
    (.c (.for_ (.var 5) (.seq (.var 3)) (.c (.ite (.or (.val (.op2 .ne (.op2 .ix (.var 5) (.lit (.int 0))) (.var 4))) (.or (.val (.op2 .le (.op2 .ix (.var 5) (.lit (.int 1))) (.var 4))) (.val (.op2 .gt (.op2 .ix (.var 5) (.lit (.int 1))) (.op1 .len (.var 0)))))) (.c (.ret (.lit (.bool false)))
    .n) .n)
    (.c (.ite (.val (.op2 .gt (.op1 .sum (.sl (.var 0) (.op2 .ix (.var 5) (.lit (.int 0))) (.op2 .ix (.var 5) (.lit (.int 1))))) (.var 1))) (.c (.ret (.lit (.bool false)))
    .n) .n)
    (.c (.asg (.var 4) (.op2 .ix (.var 5) (.lit (.int 1))))
    .n))))
    (.c (.ret (.andV (.op2 .eq (.var 4) (.op1 .len (.var 0))) (.op2 .le (.op1 .len (.var 3)) (.var 2))))
    .n)))⟩
def f__law_too_few : FD := ⟨Str.ofString "_law_too_few", [Str.ofString "sizes", Str.ofString "room", Str.ofString "carriers", Str.ofString "paper"], [Str.ofString "sizes", Str.ofString "room", Str.ofString "carriers", Str.ofString "paper", Str.ofString "least", Str.ofString "span"],
  (.c (.ite (.or (.val (.op2 .eq (.op1 .len (.var 0)) (.lit (.int 0)))) (.val (.op2 .ne (.op1 .len (.var 3)) (.var 2)))) (.c (.ret (.lit (.bool false)))
    .n) .n)
    (.c (.asg (.var 4) (.lit (.int 0)))
    (.c (.for_ (.var 5) (.seq (.var 3)) (.c (.ite (.or (.val (.op2 .lt (.op2 .ix (.var 5) (.lit (.int 0))) (.var 4))) (.or (.val (.op2 .le (.op2 .ix (.var 5) (.lit (.int 1))) (.op2 .ix (.var 5) (.lit (.int 0))))) (.val (.op2 .gt (.op2 .ix (.var 5) (.lit (.int 1))) (.op1 .len (.var 0)))))) (.c (.ret (.lit (.bool false)))
    .n) .n)
    (.c (.ite (.val (.op2 .le (.op1 .sum (.sl (.var 0) (.op2 .ix (.var 5) (.lit (.int 0))) (.op2 .ix (.var 5) (.lit (.int 1))))) (.var 1))) (.c (.ret (.lit (.bool false)))
    .n) .n)
    (.c (.asg (.var 4) (.op2 .sub (.op2 .ix (.var 5) (.lit (.int 1))) (.lit (.int 1))))
    .n))))
    (.c (.ret (.lit (.bool true)))
    .n))))⟩
def f__law_changed : FD := ⟨Str.ofString "_law_changed", [Str.ofString "spans", Str.ofString "size", Str.ofString "picks"], [Str.ofString "spans", Str.ofString "size", Str.ofString "picks", Str.ofString "place", Str.ofString "span", Str.ofString "middle", Str.ofString "one", Str.ofString "new", Str.ofString "changed"],
  (.c (.ite (.val (.op2 .eq (.op1 .len (.var 0)) (.lit (.int 0)))) (.c (.ret (.op2 .ix (.lst (.c (.lst .n) (.c (.lst (.c (.tup (.c (.lit (.int 0)) (.c (.lit (.int 0)) .n))) .n)) (.c (.lst (.c (.tup (.c (.lit (.int 0)) (.c (.lit (.int 1)) .n))) .n)) (.c (.lst (.c (.tup (.c (.op1 .neg (.lit (.int 1))) (.c (.lit (.int 0)) .n))) .n)) .n))))) (.op2 .mod (.op1 .int (.op2 .ix (.var 2) (.lit (.int 7)))) (.lit (.int 4)))))
    .n) .n)
    (.c (.asg (.var 3) (.op2 .mod (.op1 .int (.op2 .ix (.var 2) (.lit (.int 5)))) (.op1 .len (.var 0))))
    (.c (.asg (.var 4) (.op2 .ix (.var 0) (.var 3)))
    (.c (.asg (.var 5) (.op2 .add (.op2 .ix (.var 4) (.lit (.int 0))) (.op2 .mod (.op1 .int (.op2 .ix (.var 2) (.lit (.int 6)))) (.op2 .add (.op2 .sub (.op2 .ix (.var 4) (.lit (.int 1))) (.op2 .ix (.var 4) (.lit (.int 0)))) (.lit (.int 1))))))
    (.c (.asg (.var 6) (.op2 .add (.lit (.int 1)) (.op2 .mod (.op1 .int (.op2 .ix (.var 2) (.lit (.int 6)))) (.lit (.int 2)))))
    (.c (.asg (.var 7) (.lst (.c (.lst .n) (.c (.lst (.c (.var 4) (.c (.var 4) .n))) (.c (.lst (.c (.tup (.c (.op2 .ix (.var 4) (.lit (.int 0))) (.c (.var 5) .n))) (.c (.tup (.c (.var 5) (.c (.op2 .ix (.var 4) (.lit (.int 1))) .n))) .n))) (.c (.lst (.c (.tup (.c (.op2 .ix (.var 4) (.lit (.int 0))) (.c (.op2 .add (.op2 .ix (.var 4) (.lit (.int 1))) (.var 6)) .n))) .n)) (.c (.lst (.c (.tup (.c (.op2 .ix (.var 4) (.lit (.int 0))) (.c (.op2 .sub (.op2 .ix (.var 4) (.lit (.int 1))) (.var 6)) .n))) .n)) .n)))))))
    (.c (.asg (.var 7) (.op2 .add (.var 7) (.lst (.c (.lst (.c (.tup (.c (.op2 .add (.op2 .ix (.var 4) (.lit (.int 0))) (.var 6)) (.c (.op2 .ix (.var 4) (.lit (.int 1))) .n))) .n)) (.c (.lst (.c (.tup (.c (.op2 .sub (.op2 .ix (.var 4) (.lit (.int 0))) (.var 6)) (.c (.op2 .ix (.var 4) (.lit (.int 1))) .n))) .n)) (.c (.lst (.c (.var 4) (.c (.tup (.c (.op2 .ix (.var 4) (.lit (.int 1))) (.c (.op2 .ix (.var 4) (.lit (.int 1))) .n))) .n))) (.c (.lst (.c (.tup (.c (.op2 .ix (.var 4) (.lit (.int 0))) (.c (.var 1) .n))) .n)) (.c (.lst (.c (.var 4) .n)) .n))))))))
    (.c (.asg (.var 8) (.op2 .add (.op2 .add (.sl (.var 0) .absent (.var 3)) (.op2 .ix (.var 7) (.op2 .mod (.op1 .int (.op2 .ix (.var 2) (.lit (.int 7)))) (.lit (.int 10))))) (.sl (.var 0) (.op2 .add (.var 3) (.lit (.int 1))) .absent)))
    (.c (.ite (.val (.op2 .eq (.op2 .mod (.op1 .int (.op2 .ix (.var 2) (.lit (.int 8)))) (.lit (.int 8))) (.lit (.int 7)))) (.c (.ret (.op2 .add (.var 8) (.lst (.c (.tup (.c (.var 1) (.c (.op2 .add (.var 1) (.lit (.int 1))) .n))) .n))))
    .n) .n)
    (.c (.ite (.and (.val (.op2 .eq (.op2 .mod (.op1 .int (.op2 .ix (.var 2) (.lit (.int 8)))) (.lit (.int 8))) (.lit (.int 6)))) (.val (.op2 .gt (.op1 .len (.var 0)) (.op2 .add (.var 3) (.lit (.int 1)))))) (.c (.ret (.op2 .add (.op2 .add (.sl (.var 0) .absent (.var 3)) (.lst (.c (.tup (.c (.op2 .ix (.var 4) (.lit (.int 0))) (.c (.op2 .ix (.op2 .ix (.var 0) (.op2 .add (.var 3) (.lit (.int 1)))) (.lit (.int 1))) .n))) .n))) (.sl (.var 0) (.op2 .add (.var 3) (.lit (.int 2))) .absent)))
    .n) .n)
    (.c (.ite (.val (.op2 .eq (.op2 .mod (.op1 .int (.op2 .ix (.var 2) (.lit (.int 8)))) (.lit (.int 8))) (.lit (.int 5)))) (.c (.ret (.revL (.var 8)))
    .n) .n)
    (.c (.retV 8)
    .n))))))))))))⟩
def f__law_asked : FD := ⟨Str.ofString "_law_asked", [Str.ofString "number", Str.ofString "sizes", Str.ofString "room", Str.ofString "carriers"], [Str.ofString "number", Str.ofString "sizes", Str.ofString "room", Str.ofString "carriers", Str.ofString "number_error", Str.ofString "many_error"],
  (.c (.try_ (.c (.ite (.val (.op2 .eq (.var 0) (.lit (.int 0)))) (.c (.ret (.tup (.c (.lit (.str (Str.ofString "told"))) (.c (.call 2 (.c (.var 1) (.c (.var 2) .n))) .n))))
    .n) .n)
    (.c (.ite (.val (.op2 .eq (.var 0) (.lit (.int 1)))) (.c (.ret (.tup (.c (.lit (.str (Str.ofString "told"))) (.c (.call 3 (.c (.var 1) (.c (.var 2) .n))) .n))))
    .n) .n)
    (.c (.ite (.val (.op2 .eq (.var 0) (.lit (.int 2)))) (.c (.ret (.tup (.c (.lit (.str (Str.ofString "told"))) (.c (.call 4 (.c (.var 1) (.c (.var 2) (.c (.var 3) .n)))) .n))))
    .n) .n)
    (.c (.ite (.val (.op2 .eq (.var 0) (.lit (.int 3)))) (.c (.ret (.tup (.c (.lit (.str (Str.ofString "told"))) (.c (.call 6 (.c (.var 1) (.c (.var 2) (.c (.var 3) (.c (.lst (.c (.tup (.c (.lit (.int 0)) (.c (.lit (.int 1)) .n))) .n)) .n))))) .n))))
    .n) .n)
    (.c (.ret (.tup (.c (.lit (.str (Str.ofString "told"))) (.c (.call 7 (.c (.var 1) (.c (.var 2) (.c (.var 3) (.c (.lst (.c (.tup (.c (.lit (.int 0)) (.c (.lit (.int 2)) .n))) .n)) .n))))) .n))))
    .n))))) [(.retTup [1] (some 4) [.lit (.str (Str.ofString "BadNumber")), .fld 0]), (.retTup [2] (some 5) [.lit (.str (Str.ofString "TooMany")), .fld 0])])
    .n)⟩
def f__law_refuses : FD := ⟨Str.ofString "_law_refuses", [Str.ofString "script", Str.ofString "room", Str.ofString "sizes", Str.ofString "picks"], [Str.ofString "script", Str.ofString "room", Str.ofString "sizes", Str.ofString "picks", Str.ofString "choice", Str.ofString "more", Str.ofString "bad", Str.ofString "place", Str.ofString "due", Str.ofString "number", Str.ofString "carriers"],
  (.c (.asg (.var 4) (.op2 .mod (.op1 .int (.op2 .ix (.var 3) (.lit (.int 6)))) (.lit (.int 8))))
    (.c (.asg (.var 5) (.op2 .max (.lit (.int 0)) (.op2 .sub (.op2 .ix (.var 3) (.lit (.int 7))) (.lit (.int 29)))))
    (.c (.asg (.var 6) (.lst (.c (.op2 .sub (.lit (.int 0)) (.var 5)) (.c (.op2 .add (.op2 .add (.var 1) (.lit (.int 1))) (.var 5)) .n))))
    (.c (.asg (.var 7) (.op2 .mod (.op1 .int (.op2 .ix (.var 3) (.lit (.int 5)))) (.op2 .add (.op1 .len (.var 2)) (.lit (.int 1)))))
    (.c (.asg (.var 8) (.tup (.c (.lit (.str (Str.ofString "TooMany"))) (.c (.lit (.int 200)) .n))))
    (.c (.ite (.val (.op2 .gt (.var 4) (.lit (.int 3)))) (.c (.asg (.var 2) (.sl (.var 2) .absent (.lit (.int 199))))
    (.c (.asg (.var 7) (.op2 .min (.var 7) (.op1 .len (.var 2))))
    (.c (.asg (.var 8) (.tup (.c (.lit (.str (Str.ofString "BadNumber"))) (.c (.op2 .ix (.var 6) (.op2 .mod (.op1 .int (.op2 .ix (.var 3) (.lit (.int 8)))) (.lit (.int 2)))) .n))))
    (.c (.asg (.var 2) (.op2 .add (.op2 .add (.sl (.var 2) .absent (.var 7)) (.lst (.c (.op2 .ix (.var 8) (.lit (.int 1))) .n))) (.sl (.var 2) (.var 7) .absent)))
    .n)))) .n)
    (.c (.ite (.val (.op2 .eq (.var 4) (.lit (.int 7)))) (.c (.setI 2 (.op2 .sub (.op1 .len (.var 2)) (.lit (.int 1))) (.op2 .ix (.var 6) (.op2 .mod (.op1 .int (.op2 .ix (.var 3) (.lit (.int 4)))) (.lit (.int 2)))))
    (.c (.asg (.var 8) (.tup (.c (.lit (.str (Str.ofString "BadNumber"))) (.c (.op2 .ix (.var 2) (.var 7)) .n))))
    .n)) .n)
    (.c (.ite (.val (.op2 .lt (.var 4) (.lit (.int 4)))) (.c (.asg (.var 2) (.op2 .add (.op2 .mul (.lst (.c (.lit (.int 1)) .n)) (.lit (.int 201))) (.sl (.var 2) .absent (.var 5))))
    .n) .n)
    (.c (.ite (.val (.op2 .eq (.var 4) (.lit (.int 1)))) (.c (.setI 2 (.var 7) (.lit (.int 0)))
    .n) .n)
    (.c (.ite (.and (.val (.op2 .gt (.var 4) (.lit (.int 1)))) (.val (.op2 .lt (.var 4) (.lit (.int 4))))) (.c (.asg (.var 1) (.op2 .ix (.lst (.c (.op2 .sub (.lit (.int 0)) (.var 5)) (.c (.op2 .add (.lit (.int 1369)) (.var 5)) .n))) (.op2 .sub (.var 4) (.lit (.int 2)))))
    (.c (.asg (.var 8) (.tup (.c (.lit (.str (Str.ofString "BadNumber"))) (.c (.var 1) .n))))
    .n)) .n)
    (.c (.for_ (.var 9) (.rng1 (.lit (.int 5))) (.c (.for_ (.var 10) (.seq (.lst (.c (.lit (.int 3)) (.c (.op2 .sub (.op2 .sub (.lit (.int 0)) (.lit (.int 1))) (.var 5)) .n)))) (.c (.ite (.not (.val (.call 9 (.c (.call 15 (.c (.var 9) (.c (.var 2) (.c (.var 1) (.c (.var 10) .n))))) (.c (.var 8) .n))))) (.c (.ret (.lit (.bool false)))
    .n) .n)
    .n))
    .n))
    (.c (.ret (.lit (.bool true)))
    .n))))))))))))⟩
def f_law : FD := ⟨Str.ofString "law", [Str.ofString "script"], [Str.ofString "script", Str.ofString "picks", Str.ofString "room", Str.ofString "sizes", Str.ofString "given", Str.ofString "spans", Str.ofString "due", Str.ofString "carriers", Str.ofString "answer", Str.ofString "tried", Str.ofString "span", Str.ofString "right", Str.ofString "count"],
  (.c (.asg (.var 1) (.call 8 (.c (.var 0) (.c (.lit (.int 0)) (.c (.lit (.int 60)) (.c (.lit (.int 10)) .n))))))
    (.c (.ite (.not (.val (.call 9 (.c (.glob 1) (.c (.lit (.int 200)) .n))))) (.c (.ret (.lit (.bool false)))
    .n) .n)
    (.c (.asg (.var 2) (.op2 .add (.lit (.int 1)) (.op2 .mod (.op1 .int (.op2 .ix (.var 1) (.lit (.int 0)))) (.lit (.int 40)))))
    (.c (.ite (.val (.op2 .eq (.op2 .mod (.op1 .int (.op2 .ix (.var 1) (.lit (.int 1)))) (.lit (.int 12))) (.lit (.int 11)))) (.c (.asg (.var 2) (.op2 .sub (.lit (.int 1368)) (.op2 .ix (.var 1) (.lit (.int 0)))))
    .n) .n)
    (.c (.asg (.var 3) (.call 10 (.c (.var 0) (.c (.var 2) (.c (.var 1) .n)))))
    (.c (.ite (.val (.op2 .eq (.op2 .mod (.op1 .int (.op2 .ix (.var 1) (.lit (.int 9)))) (.lit (.int 5))) (.lit (.int 4)))) (.c (.ret (.call 16 (.c (.var 0) (.c (.var 2) (.c (.var 3) (.c (.var 1) .n))))))
    .n) .n)
    (.c (.asg (.var 4) (.op1 .list (.var 3)))
    (.c (.asg (.var 5) (.call 11 (.c (.var 3) (.c (.var 2) .n))))
    (.c (.asg (.var 6) (.comp (.tup (.c (.op2 .ix (.var 10) (.lit (.int 0))) (.c (.op2 .add (.op2 .ix (.var 10) (.lit (.int 1))) (.lit (.int 1))) .n))) [10] (.var 10) (.seq (.sl (.var 5) .absent (.op2 .max (.lit (.int 0)) (.op2 .sub (.op1 .len (.var 5)) (.lit (.int 1)))))) .yes))
    (.c (.ite (.or (.not (.val (.call 9 (.c (.call 2 (.c (.var 4) (.c (.var 2) .n))) (.c (.var 5) .n))))) (.not (.val (.call 9 (.c (.call 3 (.c (.var 4) (.c (.var 2) .n))) (.c (.var 6) .n)))))) (.c (.ret (.lit (.bool false)))
    .n) .n)
    (.c (.ite (.and (.val (.op2 .gt (.op1 .len (.var 3)) (.lit (.int 0)))) (.not (.val (.call 13 (.c (.var 3) (.c (.var 2) (.c (.op1 .len (.var 6)) (.c (.var 6) .n)))))))) (.c (.ret (.lit (.bool false)))
    .n) .n)
    (.c (.for_ (.var 7) (.seq (.lst (.c (.op1 .len (.var 5)) (.c (.op2 .sub (.op1 .len (.var 5)) (.lit (.int 1))) (.c (.lit (.int 0)) (.c (.op2 .ix (.var 1) (.lit (.int 5))) (.c (.op2 .sub (.op2 .sub (.lit (.int 0)) (.lit (.int 1))) (.op2 .ix (.var 1) (.lit (.int 6)))) .n))))))) (.c (.asg (.var 8) (.tup (.c (.lit (.str (Str.ofString "told"))) (.c (.tup (.c (.lit (.str (Str.ofString "windows"))) (.c (.sl (.var 6) .absent (.op2 .max (.lit (.int 0)) (.var 7))) .n))) .n))))
    (.c (.ite (.val (.op2 .le (.op1 .len (.var 5)) (.var 7))) (.c (.asg (.var 8) (.tup (.c (.lit (.str (Str.ofString "told"))) (.c (.tup (.c (.lit (.str (Str.ofString "spread"))) (.c (.var 5) .n))) .n))))
    .n) .n)
    (.c (.ite (.val (.op2 .lt (.var 7) (.lit (.int 0)))) (.c (.asg (.var 8) (.tup (.c (.lit (.str (Str.ofString "BadNumber"))) (.c (.var 7) .n))))
    .n) .n)
    (.c (.ite (.not (.val (.call 9 (.c (.call 15 (.c (.lit (.int 2)) (.c (.var 4) (.c (.var 2) (.c (.var 7) .n))))) (.c (.var 8) .n))))) (.c (.ret (.lit (.bool false)))
    .n) .n)
    (.c (.for_ (.var 9) (.seq (.lst (.c (.op1 .list (.var 5)) (.c (.call 14 (.c (.var 5) (.c (.op1 .len (.var 3)) (.c (.var 1) .n)))) .n)))) (.c (.asg (.var 11) (.call 12 (.c (.var 3) (.c (.var 2) (.c (.var 7) (.c (.var 9) .n))))))
    (.c (.ite (.not (.val (.call 9 (.c (.call 6 (.c (.var 4) (.c (.var 2) (.c (.var 7) (.c (.var 9) .n))))) (.c (.var 11) .n))))) (.c (.ret (.lit (.bool false)))
    .n) .n)
    .n)))
    (.c (.for_ (.var 9) (.seq (.lst (.c (.sl (.var 6) .absent (.op2 .max (.lit (.int 0)) (.var 7))) (.c (.call 14 (.c (.var 6) (.c (.op1 .len (.var 3)) (.c (.var 1) .n)))) .n)))) (.c (.for_ (.var 12) (.seq (.lst (.c (.var 7) (.c (.op1 .len (.var 9)) .n)))) (.c (.asg (.var 11) (.call 13 (.c (.var 3) (.c (.var 2) (.c (.var 12) (.c (.var 9) .n))))))
    (.c (.ite (.not (.val (.call 9 (.c (.call 7 (.c (.var 4) (.c (.var 2) (.c (.var 12) (.c (.var 9) .n))))) (.c (.var 11) .n))))) (.c (.ret (.lit (.bool false)))
    .n) .n)
    .n)))
    .n))
    .n)))))))
    (.c (.ret (.call 9 (.c (.var 4) (.c (.var 3) .n))))
    .n)))))))))))))⟩
def cfg : Cfg := ⟨[(Str.ofString "MAX_NUMBER", (.int 1368)), (Str.ofString "MAX_SIZES", (.int 200))], [f_check_sizes, f_carrier_end, f_spread, f_windows, f_fits_on, f_span_sum, f_is_spread, f_shows_too_few, f__law_draws, f__law_same, f__law_sizes, f__law_spans, f__law_is_spread, f__law_too_few, f__law_changed, f__law_asked, f__law_refuses, f_law]⟩
def xds : List XD := [⟨Str.ofString "ChestError", [], [0, 1, 2], false⟩, ⟨Str.ofString "BadNumber", [Str.ofString "number"], [1], true⟩, ⟨Str.ofString "TooMany", [Str.ofString "limit"], [2], true⟩]
theorem c_check_sizes : (fnB f_check_sizes.N f_check_sizes.ps (defScope (top 7)) && chkSs cfg xds f_check_sizes.N f_check_sizes.body (defScope (top 7)) (defBody (top 7))) = true := by decide +kernel
theorem c_carrier_end : (fnB f_carrier_end.N f_carrier_end.ps (defScope (top 8)) && chkSs cfg xds f_carrier_end.N f_carrier_end.body (defScope (top 8)) (defBody (top 8))) = true := by decide +kernel
theorem c_spread : (fnB f_spread.N f_spread.ps (defScope (top 9)) && chkSs cfg xds f_spread.N f_spread.body (defScope (top 9)) (defBody (top 9))) = true := by decide +kernel
theorem c_windows : (fnB f_windows.N f_windows.ps (defScope (top 10)) && chkSs cfg xds f_windows.N f_windows.body (defScope (top 10)) (defBody (top 10))) = true := by decide +kernel
theorem c_fits_on : (fnB f_fits_on.N f_fits_on.ps (defScope (top 11)) && chkSs cfg xds f_fits_on.N f_fits_on.body (defScope (top 11)) (defBody (top 11))) = true := by decide +kernel
theorem c_span_sum : (fnB f_span_sum.N f_span_sum.ps (defScope (top 12)) && chkSs cfg xds f_span_sum.N f_span_sum.body (defScope (top 12)) (defBody (top 12))) = true := by decide +kernel
theorem c_is_spread : (fnB f_is_spread.N f_is_spread.ps (defScope (top 13)) && chkSs cfg xds f_is_spread.N f_is_spread.body (defScope (top 13)) (defBody (top 13))) = true := by decide +kernel
theorem c_shows_too_few : (fnB f_shows_too_few.N f_shows_too_few.ps (defScope (top 14)) && chkSs cfg xds f_shows_too_few.N f_shows_too_few.body (defScope (top 14)) (defBody (top 14))) = true := by decide +kernel
theorem c__law_draws : (fnB f__law_draws.N f__law_draws.ps (defScope (top 16)) && chkSs cfg xds f__law_draws.N f__law_draws.body (defScope (top 16)) (defBody (top 16))) = true := by decide +kernel
theorem c__law_same : (fnB f__law_same.N f__law_same.ps (defScope (top 17)) && chkSs cfg xds f__law_same.N f__law_same.body (defScope (top 17)) (defBody (top 17))) = true := by decide +kernel
theorem c__law_sizes : (fnB f__law_sizes.N f__law_sizes.ps (defScope (top 18)) && chkSs cfg xds f__law_sizes.N f__law_sizes.body (defScope (top 18)) (defBody (top 18))) = true := by decide +kernel
theorem c__law_spans : (fnB f__law_spans.N f__law_spans.ps (defScope (top 19)) && chkSs cfg xds f__law_spans.N f__law_spans.body (defScope (top 19)) (defBody (top 19))) = true := by decide +kernel
theorem c__law_is_spread : (fnB f__law_is_spread.N f__law_is_spread.ps (defScope (top 20)) && chkSs cfg xds f__law_is_spread.N f__law_is_spread.body (defScope (top 20)) (defBody (top 20))) = true := by decide +kernel
theorem c__law_too_few : (fnB f__law_too_few.N f__law_too_few.ps (defScope (top 21)) && chkSs cfg xds f__law_too_few.N f__law_too_few.body (defScope (top 21)) (defBody (top 21))) = true := by decide +kernel
theorem c__law_changed : (fnB f__law_changed.N f__law_changed.ps (defScope (top 22)) && chkSs cfg xds f__law_changed.N f__law_changed.body (defScope (top 22)) (defBody (top 22))) = true := by decide +kernel
theorem c__law_asked : (fnB f__law_asked.N f__law_asked.ps (defScope (top 23)) && chkSs cfg xds f__law_asked.N f__law_asked.body (defScope (top 23)) (defBody (top 23))) = true := by decide +kernel
theorem c__law_refuses : (fnB f__law_refuses.N f__law_refuses.ps (defScope (top 24)) && chkSs cfg xds f__law_refuses.N f__law_refuses.body (defScope (top 24)) (defBody (top 24))) = true := by decide +kernel
theorem c_law : (fnB f_law.N f_law.ps (defScope (top 25)) && chkSs cfg xds f_law.N f_law.body (defScope (top 25)) (defBody (top 25))) = true := by decide +kernel
theorem all_mk {w : World} {K : PySem.W.Frag} {h : Heap} {mg : Str → Option Value} {fa : Addr} (X : K.In h) (G : h.Ns mainGlobals mg) (hfa : mg "law" = some (.ref fa))
    {tk0 : Tok}
    {tk1 : Tok}
    {fD0 : Addr} {odD0 anD0 : Option Addr} {slD0 : Array (Option Value)} {ocD0 kVD0 dcD0 pmD0 cdD0 ctD0 : Value}
    {fD1 : Addr} {odD1 anD1 : Option Addr} {slD1 : Array (Option Value)} {ocD1 kVD1 dcD1 pmD1 cdD1 ctD1 : Value}
    {fD2 : Addr} {odD2 anD2 : Option Addr} {slD2 : Array (Option Value)} {ocD2 kVD2 dcD2 pmD2 cdD2 ctD2 : Value}
    {fD3 : Addr} {odD3 anD3 : Option Addr} {slD3 : Array (Option Value)} {ocD3 kVD3 dcD3 pmD3 cdD3 ctD3 : Value}
    {fD4 : Addr} {odD4 anD4 : Option Addr} {slD4 : Array (Option Value)} {ocD4 kVD4 dcD4 pmD4 cdD4 ctD4 : Value}
    {fD5 : Addr} {odD5 anD5 : Option Addr} {slD5 : Array (Option Value)} {ocD5 kVD5 dcD5 pmD5 cdD5 ctD5 : Value}
    {fD6 : Addr} {odD6 anD6 : Option Addr} {slD6 : Array (Option Value)} {ocD6 kVD6 dcD6 pmD6 cdD6 ctD6 : Value}
    {fD7 : Addr} {odD7 anD7 : Option Addr} {slD7 : Array (Option Value)} {ocD7 kVD7 dcD7 pmD7 cdD7 ctD7 : Value}
    {fD8 : Addr} {odD8 anD8 : Option Addr} {slD8 : Array (Option Value)} {ocD8 kVD8 dcD8 pmD8 cdD8 ctD8 : Value}
    {fD9 : Addr} {odD9 anD9 : Option Addr} {slD9 : Array (Option Value)} {ocD9 kVD9 dcD9 pmD9 cdD9 ctD9 : Value}
    {fD10 : Addr} {odD10 anD10 : Option Addr} {slD10 : Array (Option Value)} {ocD10 kVD10 dcD10 pmD10 cdD10 ctD10 : Value}
    {fD11 : Addr} {odD11 anD11 : Option Addr} {slD11 : Array (Option Value)} {ocD11 kVD11 dcD11 pmD11 cdD11 ctD11 : Value}
    {fD12 : Addr} {odD12 anD12 : Option Addr} {slD12 : Array (Option Value)} {ocD12 kVD12 dcD12 pmD12 cdD12 ctD12 : Value}
    {fD13 : Addr} {odD13 anD13 : Option Addr} {slD13 : Array (Option Value)} {ocD13 kVD13 dcD13 pmD13 cdD13 ctD13 : Value}
    {fD14 : Addr} {odD14 anD14 : Option Addr} {slD14 : Array (Option Value)} {ocD14 kVD14 dcD14 pmD14 cdD14 ctD14 : Value}
    {fD15 : Addr} {odD15 anD15 : Option Addr} {slD15 : Array (Option Value)} {ocD15 kVD15 dcD15 pmD15 cdD15 ctD15 : Value}
    {fD16 : Addr} {odD16 anD16 : Option Addr} {slD16 : Array (Option Value)} {ocD16 kVD16 dcD16 pmD16 cdD16 ctD16 : Value}
    {fD17 : Addr} {odD17 anD17 : Option Addr} {slD17 : Array (Option Value)} {ocD17 kVD17 dcD17 pmD17 cdD17 ctD17 : Value}
    {C0 N0 : Addr} {nm0 q0 : Str} {bs0 sub0 : List Value} {sn0 : List Str} {ab0 : Bool} {col0 : Option Bool} {dd0 : Option Addr} {x0_0 x1_0 x2_0 x3_0 x5_0 : Option Value}
    {C1 N1 : Addr} {nm1 q1 : Str} {bs1 sub1 : List Value} {sn1 : List Str} {ab1 : Bool} {col1 : Option Bool} {dd1 : Option Addr} {x0_1 x1_1 x2_1 x3_1 x5_1 : Option Value}
    {fI1 cda1 cc1 : Addr} {odI1 anI1 cddI1 cldI1 : Option Addr} {slI1 ccsI1 cslI1 : Array (Option Value)} {ocI1 kVI1 dcI1 pmI1 ctI1 cclI1 clI1 : Value} {vsI1 : Array Value} {fileI1 : Str} {tfI1 : Tok}
    {C2 N2 : Addr} {nm2 q2 : Str} {bs2 sub2 : List Value} {sn2 : List Str} {ab2 : Bool} {col2 : Option Bool} {dd2 : Option Addr} {x0_2 x1_2 x2_2 x3_2 x5_2 : Option Value}
    {fI2 cda2 cc2 : Addr} {odI2 anI2 cddI2 cldI2 : Option Addr} {slI2 ccsI2 cslI2 : Array (Option Value)} {ocI2 kVI2 dcI2 pmI2 ctI2 cclI2 clI2 : Value} {vsI2 : Array Value} {fileI2 : Str} {tfI2 : Tok}
    (z0 : PySem.W.nsIn K mainGlobals (Str.ofString "len") = some none)
    (z1 : PySem.W.nsIn K mainGlobals (Str.ofString "list") = some none)
    (z2 : PySem.W.nsIn K mainGlobals (Str.ofString "tuple") = some none)
    (z3 : PySem.W.nsIn K mainGlobals (Str.ofString "int") = some none)
    (z4 : PySem.W.nsIn K mainGlobals (Str.ofString "sum") = some none)
    (z5 : PySem.W.nsIn K mainGlobals (Str.ofString "min") = some none)
    (z6 : PySem.W.nsIn K mainGlobals (Str.ofString "max") = some none)
    (z7 : PySem.W.nsIn K mainGlobals (Str.ofString "sorted") = some none)
    (z8 : PySem.W.nsIn K mainGlobals (Str.ofString "abs") = some none)
    (z9 : PySem.W.nsIn K mainGlobals (Str.ofString "isinstance") = some none)
    (z10 : PySem.W.nsIn K mainGlobals (Str.ofString "range") = some none)
    (z11 : PySem.W.nsIn K mainGlobals (Str.ofString "enumerate") = some none)
    (z12 : PySem.W.nsIn K mainGlobals (Str.ofString "zip") = some none)
    (z13 : PySem.W.nsIn K mainGlobals (Str.ofString "reversed") = some none)
    (z14 : PySem.W.nsIn K mainGlobals (Str.ofString "bool") = some none)
    (z15 : PySem.W.nsIn K mainGlobals (Str.ofString "str") = some none)
    (z16 : PySem.W.nsIn K mainGlobals (Str.ofString "set") = some none)
    (z17 : PySem.W.nsIn K mainGlobals (Str.ofString "super") = some none)
    (opq : PySem.W.nsIn K cStatics "thirdparty.any" = some none)
    (k0 : PySem.W.nsIn K mainGlobals (Str.ofString "MAX_NUMBER") = some (some (.int 1368 tk0)))
    (k1 : PySem.W.nsIn K mainGlobals (Str.ofString "MAX_SIZES") = some (some (.int 200 tk1)))
    (aD0 : PySem.W.nsIn K mainGlobals f_check_sizes.name = some (some (.ref fD0)))
    (lD0 : K.lookup fD0 = some ⟨ocD0, odD0, .func (PySem.W.fnOf f_check_sizes.name f_check_sizes.name (defArgs (top 7)) (defBody (top 7)) (defScope (top 7)) .none kVD0 dcD0 pmD0 anD0 cdD0 ctD0), slD0⟩)
    (cD0 : PySem.W.codeIn K cdD0 f_check_sizes.name = true)
    (kD0 : PySem.W.keepIn K (.ref fD0) = true)
    (aD1 : PySem.W.nsIn K mainGlobals f_carrier_end.name = some (some (.ref fD1)))
    (lD1 : K.lookup fD1 = some ⟨ocD1, odD1, .func (PySem.W.fnOf f_carrier_end.name f_carrier_end.name (defArgs (top 8)) (defBody (top 8)) (defScope (top 8)) .none kVD1 dcD1 pmD1 anD1 cdD1 ctD1), slD1⟩)
    (cD1 : PySem.W.codeIn K cdD1 f_carrier_end.name = true)
    (kD1 : PySem.W.keepIn K (.ref fD1) = true)
    (aD2 : PySem.W.nsIn K mainGlobals f_spread.name = some (some (.ref fD2)))
    (lD2 : K.lookup fD2 = some ⟨ocD2, odD2, .func (PySem.W.fnOf f_spread.name f_spread.name (defArgs (top 9)) (defBody (top 9)) (defScope (top 9)) .none kVD2 dcD2 pmD2 anD2 cdD2 ctD2), slD2⟩)
    (cD2 : PySem.W.codeIn K cdD2 f_spread.name = true)
    (kD2 : PySem.W.keepIn K (.ref fD2) = true)
    (aD3 : PySem.W.nsIn K mainGlobals f_windows.name = some (some (.ref fD3)))
    (lD3 : K.lookup fD3 = some ⟨ocD3, odD3, .func (PySem.W.fnOf f_windows.name f_windows.name (defArgs (top 10)) (defBody (top 10)) (defScope (top 10)) .none kVD3 dcD3 pmD3 anD3 cdD3 ctD3), slD3⟩)
    (cD3 : PySem.W.codeIn K cdD3 f_windows.name = true)
    (kD3 : PySem.W.keepIn K (.ref fD3) = true)
    (aD4 : PySem.W.nsIn K mainGlobals f_fits_on.name = some (some (.ref fD4)))
    (lD4 : K.lookup fD4 = some ⟨ocD4, odD4, .func (PySem.W.fnOf f_fits_on.name f_fits_on.name (defArgs (top 11)) (defBody (top 11)) (defScope (top 11)) .none kVD4 dcD4 pmD4 anD4 cdD4 ctD4), slD4⟩)
    (cD4 : PySem.W.codeIn K cdD4 f_fits_on.name = true)
    (kD4 : PySem.W.keepIn K (.ref fD4) = true)
    (aD5 : PySem.W.nsIn K mainGlobals f_span_sum.name = some (some (.ref fD5)))
    (lD5 : K.lookup fD5 = some ⟨ocD5, odD5, .func (PySem.W.fnOf f_span_sum.name f_span_sum.name (defArgs (top 12)) (defBody (top 12)) (defScope (top 12)) .none kVD5 dcD5 pmD5 anD5 cdD5 ctD5), slD5⟩)
    (cD5 : PySem.W.codeIn K cdD5 f_span_sum.name = true)
    (kD5 : PySem.W.keepIn K (.ref fD5) = true)
    (aD6 : PySem.W.nsIn K mainGlobals f_is_spread.name = some (some (.ref fD6)))
    (lD6 : K.lookup fD6 = some ⟨ocD6, odD6, .func (PySem.W.fnOf f_is_spread.name f_is_spread.name (defArgs (top 13)) (defBody (top 13)) (defScope (top 13)) .none kVD6 dcD6 pmD6 anD6 cdD6 ctD6), slD6⟩)
    (cD6 : PySem.W.codeIn K cdD6 f_is_spread.name = true)
    (kD6 : PySem.W.keepIn K (.ref fD6) = true)
    (aD7 : PySem.W.nsIn K mainGlobals f_shows_too_few.name = some (some (.ref fD7)))
    (lD7 : K.lookup fD7 = some ⟨ocD7, odD7, .func (PySem.W.fnOf f_shows_too_few.name f_shows_too_few.name (defArgs (top 14)) (defBody (top 14)) (defScope (top 14)) .none kVD7 dcD7 pmD7 anD7 cdD7 ctD7), slD7⟩)
    (cD7 : PySem.W.codeIn K cdD7 f_shows_too_few.name = true)
    (kD7 : PySem.W.keepIn K (.ref fD7) = true)
    (aD8 : PySem.W.nsIn K mainGlobals f__law_draws.name = some (some (.ref fD8)))
    (lD8 : K.lookup fD8 = some ⟨ocD8, odD8, .func (PySem.W.fnOf f__law_draws.name f__law_draws.name (defArgs (top 16)) (defBody (top 16)) (defScope (top 16)) .none kVD8 dcD8 pmD8 anD8 cdD8 ctD8), slD8⟩)
    (cD8 : PySem.W.codeIn K cdD8 f__law_draws.name = true)
    (kD8 : PySem.W.keepIn K (.ref fD8) = true)
    (aD9 : PySem.W.nsIn K mainGlobals f__law_same.name = some (some (.ref fD9)))
    (lD9 : K.lookup fD9 = some ⟨ocD9, odD9, .func (PySem.W.fnOf f__law_same.name f__law_same.name (defArgs (top 17)) (defBody (top 17)) (defScope (top 17)) .none kVD9 dcD9 pmD9 anD9 cdD9 ctD9), slD9⟩)
    (cD9 : PySem.W.codeIn K cdD9 f__law_same.name = true)
    (kD9 : PySem.W.keepIn K (.ref fD9) = true)
    (aD10 : PySem.W.nsIn K mainGlobals f__law_sizes.name = some (some (.ref fD10)))
    (lD10 : K.lookup fD10 = some ⟨ocD10, odD10, .func (PySem.W.fnOf f__law_sizes.name f__law_sizes.name (defArgs (top 18)) (defBody (top 18)) (defScope (top 18)) .none kVD10 dcD10 pmD10 anD10 cdD10 ctD10), slD10⟩)
    (cD10 : PySem.W.codeIn K cdD10 f__law_sizes.name = true)
    (kD10 : PySem.W.keepIn K (.ref fD10) = true)
    (aD11 : PySem.W.nsIn K mainGlobals f__law_spans.name = some (some (.ref fD11)))
    (lD11 : K.lookup fD11 = some ⟨ocD11, odD11, .func (PySem.W.fnOf f__law_spans.name f__law_spans.name (defArgs (top 19)) (defBody (top 19)) (defScope (top 19)) .none kVD11 dcD11 pmD11 anD11 cdD11 ctD11), slD11⟩)
    (cD11 : PySem.W.codeIn K cdD11 f__law_spans.name = true)
    (kD11 : PySem.W.keepIn K (.ref fD11) = true)
    (aD12 : PySem.W.nsIn K mainGlobals f__law_is_spread.name = some (some (.ref fD12)))
    (lD12 : K.lookup fD12 = some ⟨ocD12, odD12, .func (PySem.W.fnOf f__law_is_spread.name f__law_is_spread.name (defArgs (top 20)) (defBody (top 20)) (defScope (top 20)) .none kVD12 dcD12 pmD12 anD12 cdD12 ctD12), slD12⟩)
    (cD12 : PySem.W.codeIn K cdD12 f__law_is_spread.name = true)
    (kD12 : PySem.W.keepIn K (.ref fD12) = true)
    (aD13 : PySem.W.nsIn K mainGlobals f__law_too_few.name = some (some (.ref fD13)))
    (lD13 : K.lookup fD13 = some ⟨ocD13, odD13, .func (PySem.W.fnOf f__law_too_few.name f__law_too_few.name (defArgs (top 21)) (defBody (top 21)) (defScope (top 21)) .none kVD13 dcD13 pmD13 anD13 cdD13 ctD13), slD13⟩)
    (cD13 : PySem.W.codeIn K cdD13 f__law_too_few.name = true)
    (kD13 : PySem.W.keepIn K (.ref fD13) = true)
    (aD14 : PySem.W.nsIn K mainGlobals f__law_changed.name = some (some (.ref fD14)))
    (lD14 : K.lookup fD14 = some ⟨ocD14, odD14, .func (PySem.W.fnOf f__law_changed.name f__law_changed.name (defArgs (top 22)) (defBody (top 22)) (defScope (top 22)) .none kVD14 dcD14 pmD14 anD14 cdD14 ctD14), slD14⟩)
    (cD14 : PySem.W.codeIn K cdD14 f__law_changed.name = true)
    (kD14 : PySem.W.keepIn K (.ref fD14) = true)
    (aD15 : PySem.W.nsIn K mainGlobals f__law_asked.name = some (some (.ref fD15)))
    (lD15 : K.lookup fD15 = some ⟨ocD15, odD15, .func (PySem.W.fnOf f__law_asked.name f__law_asked.name (defArgs (top 23)) (defBody (top 23)) (defScope (top 23)) .none kVD15 dcD15 pmD15 anD15 cdD15 ctD15), slD15⟩)
    (cD15 : PySem.W.codeIn K cdD15 f__law_asked.name = true)
    (kD15 : PySem.W.keepIn K (.ref fD15) = true)
    (aD16 : PySem.W.nsIn K mainGlobals f__law_refuses.name = some (some (.ref fD16)))
    (lD16 : K.lookup fD16 = some ⟨ocD16, odD16, .func (PySem.W.fnOf f__law_refuses.name f__law_refuses.name (defArgs (top 24)) (defBody (top 24)) (defScope (top 24)) .none kVD16 dcD16 pmD16 anD16 cdD16 ctD16), slD16⟩)
    (cD16 : PySem.W.codeIn K cdD16 f__law_refuses.name = true)
    (kD16 : PySem.W.keepIn K (.ref fD16) = true)
    (aD17 : PySem.W.nsIn K mainGlobals f_law.name = some (some (.ref fD17)))
    (lD17 : K.lookup fD17 = some ⟨ocD17, odD17, .func (PySem.W.fnOf f_law.name f_law.name (defArgs (top 25)) (defBody (top 25)) (defScope (top 25)) .none kVD17 dcD17 pmD17 anD17 cdD17 ctD17), slD17⟩)
    (cD17 : PySem.W.codeIn K cdD17 f_law.name = true)
    (kD17 : PySem.W.keepIn K (.ref fD17) = true)
    (aC0 : PySem.W.nsIn K mainGlobals (Str.ofString "ChestError") = some (some (.ref C0)))
    (xC0 : K.lookup C0 = some (excClassObj nm0 q0 C0 N0 bs0 veTail true sn0 sub0 ab0 col0 dd0 x0_0 x1_0 x2_0 x3_0 x5_0 "ValueError.__new__"))
    (iB0 : PySem.W.findIn K (.ref C0) "__init__" = some (some (.builtin "ValueError.__init__")))
    (aC1 : PySem.W.nsIn K mainGlobals (Str.ofString "BadNumber") = some (some (.ref C1)))
    (xC1 : K.lookup C1 = some (excClassObj nm1 q1 C1 N1 bs1 (.ref C0 :: veTail) true sn1 sub1 ab1 col1 dd1 x0_1 x1_1 x2_1 x3_1 x5_1 "ValueError.__new__"))
    (sa1 : PySem.W.findIn K (.ref C1) "__setattr__" = some (some (.builtin "object.__setattr__")))
    (eC1 : PySem.W.subIn K (.ref C1) (.type "BaseException") = some true)
    (tC1 : PySem.W.typeIn K (.ref C1) = some (.type "type"))
    (kC1 : PySem.W.keepIn K (.ref C1) = true)
    (ga1 : PySem.W.findIn K (.ref C1) "__getattribute__" = some (some (.builtin "BaseException.__getattribute__")))
    (gg1 : PySem.W.findIn K (.ref C1) "__getattr__" = some none)
    (iC1 : PySem.W.findIn K (.ref C1) "__init__" = some (some (.ref fI1)))
    (tI1 : PySem.W.typeIn K (.ref fI1) = some (.type "function"))
    (n1_0 : PySem.W.findIn K (.ref C1) (Str.ofString "number") = some none)
    (lI1 : K.lookup fI1 = some ⟨ocI1, odI1, .func (PySem.W.ksFn "__init__" (Str.ofString "BadNumber.__init__") (defArgs (initOf (top 2))) (defBody (initOf (top 2))) (defScope (initOf (top 2))) .none kVI1 dcI1 pmI1 anI1 (.ref cda1) ctI1 cc1), slI1⟩)
    (cI1 : PySem.W.codeIn K (.ref cda1) (Str.ofString "BadNumber.__init__") = true)
    (lc1 : K.lookup cda1 = some ⟨cclI1, cddI1, .fields vsI1, ccsI1⟩)
    (hv1 : vsI1[2]? = some (.str fileI1 tfI1))
    (hf1 : ((pw.main.file : Str) == fileI1) = true)
    (cl1 : K.lookup cc1 = some ⟨clI1, cldI1, .cell (some (.ref C1)), cslI1⟩)
    (aC2 : PySem.W.nsIn K mainGlobals (Str.ofString "TooMany") = some (some (.ref C2)))
    (xC2 : K.lookup C2 = some (excClassObj nm2 q2 C2 N2 bs2 (.ref C0 :: veTail) true sn2 sub2 ab2 col2 dd2 x0_2 x1_2 x2_2 x3_2 x5_2 "ValueError.__new__"))
    (sa2 : PySem.W.findIn K (.ref C2) "__setattr__" = some (some (.builtin "object.__setattr__")))
    (eC2 : PySem.W.subIn K (.ref C2) (.type "BaseException") = some true)
    (tC2 : PySem.W.typeIn K (.ref C2) = some (.type "type"))
    (kC2 : PySem.W.keepIn K (.ref C2) = true)
    (ga2 : PySem.W.findIn K (.ref C2) "__getattribute__" = some (some (.builtin "BaseException.__getattribute__")))
    (gg2 : PySem.W.findIn K (.ref C2) "__getattr__" = some none)
    (iC2 : PySem.W.findIn K (.ref C2) "__init__" = some (some (.ref fI2)))
    (tI2 : PySem.W.typeIn K (.ref fI2) = some (.type "function"))
    (n2_0 : PySem.W.findIn K (.ref C2) (Str.ofString "limit") = some none)
    (lI2 : K.lookup fI2 = some ⟨ocI2, odI2, .func (PySem.W.ksFn "__init__" (Str.ofString "TooMany.__init__") (defArgs (initOf (top 3))) (defBody (initOf (top 3))) (defScope (initOf (top 3))) .none kVI2 dcI2 pmI2 anI2 (.ref cda2) ctI2 cc2), slI2⟩)
    (cI2 : PySem.W.codeIn K (.ref cda2) (Str.ofString "TooMany.__init__") = true)
    (lc2 : K.lookup cda2 = some ⟨cclI2, cddI2, .fields vsI2, ccsI2⟩)
    (hv2 : vsI2[2]? = some (.str fileI2 tfI2))
    (hf2 : ((pw.main.file : Str) == fileI2) = true)
    (cl2 : K.lookup cc2 = some ⟨clI2, cldI2, .cell (some (.ref C2)), cslI2⟩)
    (s1_1 : PySem.W.subIn K (.ref C1) (.ref C1) = some true)
    (s2_1 : PySem.W.subIn K (.ref C2) (.ref C1) = some false)
    (s1_2 : PySem.W.subIn K (.ref C1) (.ref C2) = some false)
    (s2_2 : PySem.W.subIn K (.ref C2) (.ref C2) = some true)
    (hrun : ∀ ns : List Int, ns.length ≤ 63 → runF cfg 20 17 [.list (ns.map .int)] = .ok (.fz (.bool true))) :
    ∃ fd : FuncData, (∀ (s : Shared) (v : Value), BindsTo s fd ⟨[v], []⟩ [("script", v)]) ∧ ∀ base : Heap, K.In base → base.Ns mainGlobals mg → FnOk pw w K mg base (L2N.CX pw w) 20 fa fd ["script"] (spLaw K) := by
  have e := hfa.symm.trans (PySem.W.mg_of X G aD17)
  cases e
  have F0 := fun_mk (st := top 7) lD0 cD0 kD0
  have b0 := F0.binds (ps := f_check_sizes.ps) fun _ _ _ _ _ _ us hl => match us, hl with | [_, _], _ => rfl
  have F1 := fun_mk (st := top 8) lD1 cD1 kD1
  have b1 := F1.binds (ps := f_carrier_end.ps) fun _ _ _ _ _ _ us hl => match us, hl with | [_, _, _], _ => rfl
  have F2 := fun_mk (st := top 9) lD2 cD2 kD2
  have b2 := F2.binds (ps := f_spread.ps) fun _ _ _ _ _ _ us hl => match us, hl with | [_, _], _ => rfl
  have F3 := fun_mk (st := top 10) lD3 cD3 kD3
  have b3 := F3.binds (ps := f_windows.ps) fun _ _ _ _ _ _ us hl => match us, hl with | [_, _], _ => rfl
  have F4 := fun_mk (st := top 11) lD4 cD4 kD4
  have b4 := F4.binds (ps := f_fits_on.ps) fun _ _ _ _ _ _ us hl => match us, hl with | [_, _, _], _ => rfl
  have F5 := fun_mk (st := top 12) lD5 cD5 kD5
  have b5 := F5.binds (ps := f_span_sum.ps) fun _ _ _ _ _ _ us hl => match us, hl with | [_, _, _], _ => rfl
  have F6 := fun_mk (st := top 13) lD6 cD6 kD6
  have b6 := F6.binds (ps := f_is_spread.ps) fun _ _ _ _ _ _ us hl => match us, hl with | [_, _, _, _], _ => rfl
  have F7 := fun_mk (st := top 14) lD7 cD7 kD7
  have b7 := F7.binds (ps := f_shows_too_few.ps) fun _ _ _ _ _ _ us hl => match us, hl with | [_, _, _, _], _ => rfl
  have F8 := fun_mk (st := top 16) lD8 cD8 kD8
  have b8 := F8.binds (ps := f__law_draws.ps) fun _ _ _ _ _ _ us hl => match us, hl with | [_, _, _, _], _ => rfl
  have F9 := fun_mk (st := top 17) lD9 cD9 kD9
  have b9 := F9.binds (ps := f__law_same.ps) fun _ _ _ _ _ _ us hl => match us, hl with | [_, _], _ => rfl
  have F10 := fun_mk (st := top 18) lD10 cD10 kD10
  have b10 := F10.binds (ps := f__law_sizes.ps) fun _ _ _ _ _ _ us hl => match us, hl with | [_, _, _], _ => rfl
  have F11 := fun_mk (st := top 19) lD11 cD11 kD11
  have b11 := F11.binds (ps := f__law_spans.ps) fun _ _ _ _ _ _ us hl => match us, hl with | [_, _], _ => rfl
  have F12 := fun_mk (st := top 20) lD12 cD12 kD12
  have b12 := F12.binds (ps := f__law_is_spread.ps) fun _ _ _ _ _ _ us hl => match us, hl with | [_, _, _, _], _ => rfl
  have F13 := fun_mk (st := top 21) lD13 cD13 kD13
  have b13 := F13.binds (ps := f__law_too_few.ps) fun _ _ _ _ _ _ us hl => match us, hl with | [_, _, _, _], _ => rfl
  have F14 := fun_mk (st := top 22) lD14 cD14 kD14
  have b14 := F14.binds (ps := f__law_changed.ps) fun _ _ _ _ _ _ us hl => match us, hl with | [_, _, _], _ => rfl
  have F15 := fun_mk (st := top 23) lD15 cD15 kD15
  have b15 := F15.binds (ps := f__law_asked.ps) fun _ _ _ _ _ _ us hl => match us, hl with | [_, _, _, _], _ => rfl
  have F16 := fun_mk (st := top 24) lD16 cD16 kD16
  have b16 := F16.binds (ps := f__law_refuses.ps) fun _ _ _ _ _ _ us hl => match us, hl with | [_, _, _, _], _ => rfl
  have F17 := fun_mk (st := top 25) lD17 cD17 kD17
  have b17 := F17.binds (ps := f_law.ps) fun _ _ _ _ _ _ us hl => match us, hl with | [_], _ => rfl
  have B0 : BaseF K C0 := ⟨⟨_, _, _, _, _, _, _, _, _, _, _, _, _, _, xC0⟩, iB0⟩
  have L1 : LeafF K C0 C1 := ⟨⟨_, _, _, _, _, _, _, _, _, _, _, _, _, _, xC1⟩, sa1, eC1, tC1, kC1, ga1, gg1⟩
  have X1 : XTxt pw K C1 fI1 [Str.ofString "number"] := xtxt_of (st := initOf (top 2)) L1 B0 iC1 tI1 (by intro f hf; simp only [List.mem_cons, List.not_mem_nil, or_false] at hf; subst hf; exact n1_0) opq (by decide +kernel) lI1 cI1 lc1 hv1 hf1 cl1 (fun us hl => match us, hl with | [_, _], _ => rfl) ⟨_, rfl, rfl⟩ (by decide +kernel)
  have L2 : LeafF K C0 C2 := ⟨⟨_, _, _, _, _, _, _, _, _, _, _, _, _, _, xC2⟩, sa2, eC2, tC2, kC2, ga2, gg2⟩
  have X2 : XTxt pw K C2 fI2 [Str.ofString "limit"] := xtxt_of (st := initOf (top 3)) L2 B0 iC2 tI2 (by intro f hf; simp only [List.mem_cons, List.not_mem_nil, or_false] at hf; subst hf; exact n2_0) opq (by decide +kernel) lI2 cI2 lc2 hv2 hf2 cl2 (fun us hl => match us, hl with | [_, _], _ => rfl) ⟨_, rfl, rfl⟩ (by decide +kernel)
  have pg : Pg pw w K mg cfg xds (fun k => [C0, C1, C2].getD k 0) := {
    lk := ⟨fun x hx => by
      obtain ⟨i, e⟩ := List.getElem?_of_mem hx
      exact AllIx.get0 (P := fun _ x => mg (Str.ofString x) = none) (by exact ⟨PySem.W.mg_none_of X G z0, PySem.W.mg_none_of X G z1, PySem.W.mg_none_of X G z2, PySem.W.mg_none_of X G z3, PySem.W.mg_none_of X G z4, PySem.W.mg_none_of X G z5, PySem.W.mg_none_of X G z6, PySem.W.mg_none_of X G z7, PySem.W.mg_none_of X G z8, PySem.W.mg_none_of X G z9, PySem.W.mg_none_of X G z10, PySem.W.mg_none_of X G z11, PySem.W.mg_none_of X G z12, PySem.W.mg_none_of X G z13, PySem.W.mg_none_of X G z14, PySem.W.mg_none_of X G z15, PySem.W.mg_none_of X G z16, trivial⟩) e, fun k p e => AllIx.get0 (P := fun _ (p : Str × PD.D) => ∃ u v, mg p.1 = some u ∧ RelV v u ∧ ∀ F, DR K F v p.2) (by exact ⟨⟨_, .int 1368, PySem.W.mg_of X G k0, ⟨_, rfl⟩, fun _ => .int _⟩, ⟨_, .int 200, PySem.W.mg_of X G k1, ⟨_, rfl⟩, fun _ => .int _⟩, trivial⟩) e⟩
    defs := fun i fd e => AllIx.get0 (P := fun _ fd => ∃ st f fdt, DefOk K mg cfg xds fd st f fdt) (by exact ⟨def_ok (PySem.W.mg_of X G aD0) F0 b0 c_check_sizes, def_ok (PySem.W.mg_of X G aD1) F1 b1 c_carrier_end, def_ok (PySem.W.mg_of X G aD2) F2 b2 c_spread, def_ok (PySem.W.mg_of X G aD3) F3 b3 c_windows, def_ok (PySem.W.mg_of X G aD4) F4 b4 c_fits_on, def_ok (PySem.W.mg_of X G aD5) F5 b5 c_span_sum, def_ok (PySem.W.mg_of X G aD6) F6 b6 c_is_spread, def_ok (PySem.W.mg_of X G aD7) F7 b7 c_shows_too_few, def_ok (PySem.W.mg_of X G aD8) F8 b8 c__law_draws, def_ok (PySem.W.mg_of X G aD9) F9 b9 c__law_same, def_ok (PySem.W.mg_of X G aD10) F10 b10 c__law_sizes, def_ok (PySem.W.mg_of X G aD11) F11 b11 c__law_spans, def_ok (PySem.W.mg_of X G aD12) F12 b12 c__law_is_spread, def_ok (PySem.W.mg_of X G aD13) F13 b13 c__law_too_few, def_ok (PySem.W.mg_of X G aD14) F14 b14 c__law_changed, def_ok (PySem.W.mg_of X G aD15) F15 b15 c__law_asked, def_ok (PySem.W.mg_of X G aD16) F16 b16 c__law_refuses, def_ok (PySem.W.mg_of X G aD17) F17 b17 c_law, trivial⟩) e
    cls := fun h xd e => AllIx.get0 (P := fun h xd => mg xd.name = some (.ref ([C0, C1, C2].getD h 0)) ∧ (xd.hd = true → ∀ (k : Nat) (xk : XD), xds[k]? = some xk → xk.fields ≠ [] → PySem.W.exmOne K (.ref ([C0, C1, C2].getD k 0)) (.ref ([C0, C1, C2].getD h 0)) = some (xd.sub.contains k))) (by exact ⟨⟨PySem.W.mg_of X G aC0, fun z => absurd z (by decide)⟩,
      ⟨PySem.W.mg_of X G aC1, fun _ k xk e => AllIx.get0 (P := fun k xk => xk.fields ≠ [] → PySem.W.exmOne K (.ref ([C0, C1, C2].getD k 0)) (.ref C1) = some ([1].contains k)) (by exact ⟨fun z => absurd rfl z, fun _ => exm_by L1 s1_1, fun _ => exm_by L1 s2_1, trivial⟩) e⟩,
      ⟨PySem.W.mg_of X G aC2, fun _ k xk e => AllIx.get0 (P := fun k xk => xk.fields ≠ [] → PySem.W.exmOne K (.ref ([C0, C1, C2].getD k 0)) (.ref C2) = some ([2].contains k)) (by exact ⟨fun z => absurd rfl z, fun _ => exm_by L2 s1_2, fun _ => exm_by L2 s2_2, trivial⟩) e⟩, trivial⟩) e
    xf := fun k xd e => AllIx.get0 (P := fun k xd => xd.fields.Nodup ∧ (xd.fields ≠ [] → XfC K ([C0, C1, C2].getD k 0) ∧ ∀ f ∈ xd.fields, PySem.W.findIn K (.ref ([C0, C1, C2].getD k 0)) f = some none)) (by exact ⟨⟨by decide +kernel, fun z => absurd rfl z⟩, ⟨by decide +kernel, fun _ => ⟨L1.xf, X1.noF⟩⟩, ⟨by decide +kernel, fun _ => ⟨L2.xf, X2.noF⟩⟩, trivial⟩) e
    hsu := PySem.W.mg_none_of X G z17
    txt := fun k xd e => AllIx.get0 (P := fun k xd => xd.fields ≠ [] → ∃ fI, XTxt pw K ([C0, C1, C2].getD k 0) fI xd.fields) (by exact ⟨fun z => absurd rfl z, fun _ => ⟨_, X1⟩, fun _ => ⟨_, X2⟩, trivial⟩) e }
  refine ⟨PySem.W.fnOf f_law.name f_law.name (defArgs (top 25)) (defBody (top 25)) (defScope (top 25)) .none kVD17 dcD17 pmD17 anD17 cdD17 ctD17, fun s v => .of_eq rfl, fun base _ _ => ?_⟩
  exact (fn_at (base := base) pg 19 17 rfl ⟨PySem.W.mg_of X G aD17, F17, b17, fnB_ok (by have q := c_law; rw [Bool.and_eq_true] at q; exact q.1), by have q := c_law; rw [Bool.and_eq_true] at q; exact q.2⟩).imp (law_imp hrun)
end PD.K55

end

section
set_option Elab.async false
set_option linter.all false
set_option autoImplicit false
/-! Plain lemmas for running the small language. Own work. -/
namespace PD
open PySem

abbrev il (ns : List Int) : D := .list (ns.map .int)
abbrev pr (p : Int × Int) : D := .tuple [.int p.1, .int p.2]

/-- a loop's turns, as a fold: a turn goes on or ends it all -/
def foldX {α S : Type} (step : S → α → S ⊕ Out) : S → List α → S ⊕ Out
  | s, [] => .inl s
  | s, x :: xs => match step s x with
    | .inl s => foldX step s xs
    | .inr o => .inr o
def Out.ends : Out → Bool
  | .rt _ => true
  | .exc _ _ => true
  | .bad => true
  | _ => false
theorem forL_x {α S : Type} {t : Tg} {b : Env → Out} {f : α → D} {E : S → Env} {step : S → α → S ⊕ Out} (I : S → Prop)
    (h : ∀ s x, I s → ∃ env, asgT t (.fz (f x)) (E s) = some env ∧ match step s x with
      | .inl s' => (b env = .nx (E s') ∨ b env = .ct (E s')) ∧ I s'
      | .inr o => b env = o ∧ o.ends = true) :
    ∀ (xs : List α) (s : S), I s → forL t b (xs.map f) (E s) = match foldX step s xs with
      | .inl s' => .nx (E s')
      | .inr o => o
  | [], s, _ => rfl
  | x :: xs, s, hi => by
    obtain ⟨env, e1, e2⟩ := h s x hi
    simp only [List.map_cons, forL, e1, foldX]
    cases hs : step s x with
    | inl s' =>
      rw [hs] at e2
      obtain ⟨e2 | e2, hi2⟩ := e2
      · rw [e2]
        exact forL_x I h xs s' hi2
      · rw [e2]
        exact forL_x I h xs s' hi2
    | inr o =>
      rw [hs] at e2
      obtain ⟨e2, e3⟩ := e2
      rw [e2]
      cases o <;> first | rfl | cases e3
/-- a loop whose turns all go on -/
theorem forL_n {α S : Type} {t : Tg} {b : Env → Out} {f : α → D} {E : S → Env} {step : S → α → S}
    (h : ∀ s x, ∃ env, asgT t (.fz (f x)) (E s) = some env ∧ b env = .nx (E (step s x))) :
    ∀ (xs : List α) (s : S), forL t b (xs.map f) (E s) = .nx (E (xs.foldl step s))
  | [], s => rfl
  | x :: xs, s => by
    obtain ⟨env, e1, e2⟩ := h s x
    simp only [List.map_cons, forL, e1, e2, List.foldl_cons]
    exact forL_n h xs (step s x)
/-- a while loop -/
theorem whl_n {S : Type} {c : Env → Res Bool} {b : Env → Out} {E : S → Env} {cond : S → Bool} {step : S → S} (P : S → Prop) (μ : S → Nat)
    (hc : ∀ s, P s → c (E s) = .ok (cond s) (E s)) (hb : ∀ s, P s → cond s = true → b (E s) = .nx (E (step s)) ∧ P (step s) ∧ μ (step s) < μ s) :
    ∀ (n : Nat) (s : S), P s → μ s < n → ∃ s', whl c b n (E s) = .nx (E s') ∧ P s' ∧ cond s' = false
  | 0, s, _, h => by omega
  | n + 1, s, hp, h => by
    cases hs : cond s with
    | false => exact ⟨s, by simp only [whl, hc s hp, hs], hp, hs⟩
    | true =>
      obtain ⟨e1, e2, e3⟩ := hb s hp hs
      obtain ⟨s', e4, e5, e6⟩ := whl_n P μ hc hb n (step s) e2 (by omega)
      exact ⟨s', by simp only [whl, hc s hp, hs, e1, e4], e5, e6⟩
theorem ints_all : ∀ ns : List Int, allInts (ns.map .int) = some ns
  | [] => rfl
  | n :: ns => by simp [allInts, ints_all ns]
theorem cut_map {α β : Type} (f : α → β) (xs : List α) (lo hi : Option Int) : cut (xs.map f) lo hi = (cut xs lo hi).map f := by
  unfold cut
  simp [List.map_drop, List.map_take]
end PD
namespace PD
open PySem
theorem lcT_n {α : Type} {own : List Nat} {tg : D → Env → Option Env} {tt : Env → Res Bool} {te : Env → Res Cell} {f g : α → D} {E0 : Env}
    (h : ∀ x, ∃ e1 e2 e3 c, tg (f x) E0 = some e1 ∧ tt e1 = .ok true e2 ∧ te e2 = .ok c e3 ∧ c.d = g x ∧ wipeE e3 own = E0) :
    ∀ (xs : List α) (acc : List D), acc.length + xs.length ≤ sizeLine → lcT own tg tt te (xs.map f) acc E0 = .ok (acc ++ xs.map g) E0
  | [], acc, _ => by simp [lcT]
  | x :: xs, acc, hl => by
    obtain ⟨e1, e2, e3, c, h1, h2, h3, h4, h5⟩ := h x
    have hl' : acc.length < sizeLine := by simp at hl; omega
    simp only [List.map_cons, lcT, h1, h2, Res.nox, Res.bind, if_true, h3, h4, h5, if_pos hl']
    rw [lcT_n h xs (acc ++ [g x]) (by simp at hl ⊢; omega)]
    simp
theorem sIx_none {n d : Nat} : HT.sIx n d none = d := HT.sIx_none n d
theorem run_at {C : Cfg} {n i : Nat} {fd : FD} {ds : List D} (h : C.funs[i]? = some fd) (hl : ds.length = fd.ps.length) : runF C (n + 1) i ds = fin (exSs ⟨runF C n, C.consts⟩ fd.body (ds.map (fun d => some (.fz d)) ++ List.replicate (fd.N.length - fd.ps.length) none)) := by
  simp only [runF, h, if_pos hl]
theorem atI_nat {α : Type} (xs : List α) (i : Nat) (h : i < xs.length) : L2.atI xs (i : Int) = some xs[i] := by
  unfold L2.atI L2.ixN
  have h1 : (0 : Int) ≤ (i : Int) := by omega
  simp [h1, h]
end PD
namespace PD
open PySem
theorem foldX_fst {α S J : Type} {step : S × J → α → (S × J) ⊕ Out} (g : S → α → Option S) (o : Out) (h : ∀ s x, ∃ j, step s x = match g s.1 x with
    | some s' => .inl (s', j)
    | none => .inr o) : ∀ (xs : List α) (s : S × J), ∃ j, foldX step s xs = match xs.foldlM g s.1 with
    | some a => .inl (a, j)
    | none => .inr o
  | [], s => ⟨s.2, rfl⟩
  | x :: xs, s => by
    obtain ⟨j, e⟩ := h s x
    cases hg : g s.1 x with
    | none =>
      rw [hg] at e
      refine ⟨j, ?_⟩
      simp only [foldX, e, List.foldlM_cons, hg]
      rfl
    | some a =>
      rw [hg] at e
      obtain ⟨j2, e2⟩ := foldX_fst g o h xs (a, j)
      refine ⟨j2, ?_⟩
      simp only [foldX, e, List.foldlM_cons, hg, e2]
      rfl
theorem cut_init {α : Type} (xs : List α) : cut xs none (some ((xs.length : Int) - 1)) = xs.dropLast := by
  unfold cut
  rw [List.dropLast_eq_take]
  cases xs with
  | nil => rfl
  | cons x xs =>
    have e : HT.sIx (x :: xs).length (x :: xs).length (some (((x :: xs).length : Int) - 1)) = xs.length := by
      have : (((x :: xs).length : Int) - 1) = ((xs.length : Nat) : Int) := by simp
      rw [this, HT.sIx_nat]
      simp
    rw [e]
    simp [HT.sIx_none]
theorem ix0 (x y : D) : L2.atI [x, y] 0 = some x := rfl
theorem ix1 (x y : D) : L2.atI [x, y] 1 = some y := rfl
end PD
namespace PD
open PySem
/-- a loop whose turns all go on, counted -/
theorem forL_k {α S : Type} {t : Tg} {b : Env → Out} {f : α → D} {E : S → Env} {step : S → α → S} (I : Nat → S → Prop) (tot : Nat)
    (h : ∀ i s x, i < tot → I i s → (∃ env, asgT t (.fz (f x)) (E s) = some env ∧ b env = .nx (E (step s x))) ∧ I (i + 1) (step s x)) :
    ∀ (xs : List α) (i : Nat) (s : S), i + xs.length ≤ tot → I i s → forL t b (xs.map f) (E s) = .nx (E (xs.foldl step s)) ∧ I (i + xs.length) (xs.foldl step s)
  | [], i, s, _, hi => ⟨rfl, hi⟩
  | x :: xs, i, s, hl, hi => by
    rw [List.length_cons] at hl
    obtain ⟨⟨env, e1, e2⟩, hi2⟩ := h i s x (by omega) hi
    obtain ⟨q1, q2⟩ := forL_k I tot h xs (i + 1) (step s x) (by omega) hi2
    refine ⟨?_, ?_⟩
    · simp only [List.map_cons, forL, e1, e2, List.foldl_cons]
      exact q1
    · rw [List.length_cons, List.foldl_cons, show i + (xs.length + 1) = i + 1 + xs.length by omega]
      exact q2
theorem small62_nat (n : Nat) (h : n ≤ 1000000) : small62 (n : Int) = true := by
  unfold small62
  rw [decide_eq_true_eq]
  omega
theorem rngD_nat (n : Nat) : rngD 0 (Int.toNat (n : Int)) = (List.range n).map (fun (i : Nat) => PyData.int (i : Int)) := by
  unfold rngD
  rw [Int.toNat_natCast]
  simp
theorem foldl_fst {α S J : Type} {step : S × J → α → S × J} (g : S → α → S) (h : ∀ s x, (step s x).1 = g s.1 x) : ∀ (xs : List α) (s : S × J), (xs.foldl step s).1 = xs.foldl g s.1
  | [], s => rfl
  | x :: xs, s => by rw [List.foldl_cons, foldl_fst g h xs, h, List.foldl_cons]
end PD
namespace PD
open PySem
/-- the same, each turn's item known by its place -/
theorem forL_m {α S : Type} {t : Tg} {b : Env → Out} {f : α → D} {E : S → Env} {step : S → α → S} (l : List α) (I : Nat → S → Prop)
    (h : ∀ i s x, l[i]? = some x → I i s → (∃ env, asgT t (.fz (f x)) (E s) = some env ∧ b env = .nx (E (step s x))) ∧ I (i + 1) (step s x)) :
    ∀ (xs : List α) (k : Nat) (s : S), l.drop k = xs → I k s → forL t b (xs.map f) (E s) = .nx (E (xs.foldl step s)) ∧ I (k + xs.length) (xs.foldl step s)
  | [], k, s, _, hi => ⟨rfl, hi⟩
  | x :: xs, k, s, e, hi => by
    have hk : k < l.length := by
      have := congrArg List.length e
      rw [List.length_drop, List.length_cons] at this
      omega
    rw [List.drop_eq_getElem_cons hk] at e
    injection e with ex er
    obtain ⟨⟨env, e1, e2⟩, hi2⟩ := h k s x (by rw [List.getElem?_eq_getElem hk, ex]) hi
    obtain ⟨q1, q2⟩ := forL_m l I h xs (k + 1) (step s x) er hi2
    refine ⟨?_, ?_⟩
    · simp only [List.map_cons, forL, e1, e2, List.foldl_cons]
      exact q1
    · rw [List.length_cons, List.foldl_cons, show k + (xs.length + 1) = k + 1 + xs.length by omega]
      exact q2
end PD

end

section
set_option Elab.async false
set_option linter.all false
set_option autoImplicit false
/-! The small language, run: one row a construct, at slots that are written out. Own work (printed by a program). -/
namespace PD
open PySem
section
variable (R : RT) (s : Option Cell) (e : Env)
def callR (r : FR) (env : Env) : Res Cell := match r with
  | .ok c => .ok c env
  | .exc x => .exc x env
  | .bad => .bad
def andR (x : Cell) (f : Env → Res Cell) (env : Env) : Res Cell := match x with
  | .fz (.bool true) => f env
  | .fz (.bool false) => .ok (.fz (.bool false)) env
  | _ => .bad
def orR (x : Cell) (f : Env → Res Cell) (env : Env) : Res Cell := match x with
  | .fz (.bool true) => .ok (.fz (.bool true)) env
  | .fz (.bool false) => f env
  | _ => .bad
def notR (x : Cell) (env : Env) : Res Cell := match x with
  | .fz (.bool b) => .ok (.fz (.bool (!b))) env
  | _ => .bad
def revR (d : D) (env : Env) : Res Cell := match d with
  | .list ds => .ok (.ow ds.reverse) env
  | _ => .bad
def compR (R : RT) (x : Ex) (own : List Nat) (t : Tg) (c : Te) (ds : List D) (env : Env) : Res Cell := (lcT own (fun d env => asgT t (.fz d) env) (evT R c) (evE R x) ds [] (wipeE env own)).nox.bind fun out env => .ok (.ow out) env
def intR (d : D) (f : Int → Res (List D)) : Res (List D) := match d with
  | .int i => f i
  | _ => .bad
def augR (c : Option (Option Cell)) (f : D → Out) : Out := match c with
  | some (some (.fz x)) => f x
  | _ => .bad
def listR (c : Option (Option Cell)) (f : List D → Out) : Out := match c with
  | some (some (.ow ds)) => f ds
  | _ => .bad
def retR (c : Option (Option Cell)) : Out := match c with
  | some (some c) => .rt c
  | _ => .bad
def nxO (d : Option D) (f : D → Env) : Out := match d with
  | some d => .nx (f d)
  | none => .bad
def tryR (o : Out) (hs : List Hd) : Out := match o with
  | .exc x env => handle x env hs
  | o => o
def forR (R : RT) (t : Tg) (b : ISs) (ds : List D) (env : Env) : Out := forL t (exSs R b) ds env
def whlR (R : RT) (c : Te) (b : ISs) (env : Env) : Out := whl (evT R c) (exSs R b) fuelW env
def rngR (d : D) (env : Env) : Res (List D) := match d with
  | .int j => if small62 j then .ok (rngD 0 j.toNat) env else .bad
  | _ => .bad
def rng2R (d d2 : D) (env : Env) : Res (List D) := match d, d2 with
  | .int i, .int j => if small62 i && small62 j then .ok (rngD i (j - i).toNat) env else .bad
  | _, _ => .bad
theorem small62_le (i : Int) (h : -1000000 ≤ i) (h2 : i ≤ 1000000) : small62 i = true := by
  unfold small62
  rw [decide_eq_true_eq]
  omega
theorem rngR_nat (n : Nat) (e : Env) (h : n ≤ 1000000) : rngR (.int (n : Int)) e = .ok ((List.range n).map fun (i : Nat) => .int (i : Int)) e := by
  unfold rngR
  dsimp only
  rw [small62_le _ (by omega) (by omega), if_pos rfl]
  unfold rngD
  rw [Int.toNat_natCast]
  simp
theorem rngR_lit (n : Nat) (i : Int) (e : Env) (hn : i = (n : Int)) (h : n ≤ 1000000) : rngR (.int i) e = .ok ((List.range n).map fun (i : Nat) => .int (i : Int)) e := by
  subst hn
  exact rngR_nat n e h
def enumR (d : D) (env : Env) : Res (List D) := match d with
  | .list ds => .ok (enumD 0 ds) env
  | _ => .bad
def zipR (d d2 : D) (env : Env) : Res (List D) := match d, d2 with
  | .list ds, .list es => .ok (zipD ds es) env
  | _, _ => .bad
def revI (d : D) (env : Env) : Res (List D) := match d with
  | .list ds => .ok ds.reverse env
  | _ => .bad
def setR (ds : List D) (y d : D) (f : List D → Env) : Out := match y with
  | .int k => (match L2.ixN ds.length k with
    | some m => .nx (f (ds.set m d))
    | none => .bad)
  | _ => .bad
def rdR (env : Env) (i : Nat) (c : Option (Option Cell)) : Res Cell := match c with
  | some (some c) => .ok (.fz c.d) (env.set i (some (.fz c.d)))
  | _ => .bad
def pkR (env : Env) (i : Nat) (c : Option (Option Cell)) : Res D := match c with
  | some (some (.fz d)) => .ok d env
  | some (some (.ow ds)) => .ok (.list ds) env
  | some (some c) => .ok c.d (env.set i (some (.fz c.d)))
  | _ => .bad
def optR (d : D) (env : Env) : Res (Option Int) := match d with
  | .int i => .ok (some i) env
  | _ => .bad
theorem x_var (i : Nat) : evE R (.var i) (s :: e) = rd (s :: e) i := by simp only [evE]; try first | rfl | (congr 1; funext x env; cases x <;> rfl)
theorem x_lit (d : D) : evE R (.lit d) (s :: e) = .ok (.fz d) (s :: e) := by simp only [evE]; try first | rfl | (congr 1; funext x env; cases x <;> rfl)
theorem x_op1 (o : O1) (a : Ex) : evE R (.op1 o a) (s :: e) = (bor a (evE R a) (s :: e)).bind fun x env => Res.of (a1 o x) env := by simp only [evE]; try first | rfl | (congr 1; funext x env; cases x <;> rfl)
theorem x_op2 (o : O2) (a b : Ex) : evE R (.op2 o a b) (s :: e) = (bor a (evE R a) (s :: e)).bind fun x env => (bor b (evE R b) env).bind fun y env => Res.of (a2 o x y) env := by simp only [evE]; try first | rfl | (congr 1; funext x env; cases x <;> rfl)
theorem x_sl (a lo hi : Ex) : evE R (.sl a lo hi) (s :: e) = (bor a (evE R a) (s :: e)).bind fun x env => (opt lo (evE R lo) env).bind fun l env => (opt hi (evE R hi) env).bind fun h env => Res.of (a3 x l h) env := by simp only [evE]; try first | rfl | (congr 1; funext x env; cases x <;> rfl)
theorem x_tup (es : Exs) : evE R (.tup es) (s :: e) = if es.len ≤ 1000 then (evEs R es (s :: e)).bind fun ds env => .ok (.fz (.tuple ds)) env else .bad := by simp only [evE]; try first | rfl | (congr 1; funext x env; cases x <;> rfl)
theorem x_lst (es : Exs) : evE R (.lst es) (s :: e) = if es.len ≤ 1000 then (evEs R es (s :: e)).bind fun ds env => .ok (.ow ds) env else .bad := by simp only [evE]; try first | rfl | (congr 1; funext x env; cases x <;> rfl)
theorem x_call (f : Nat) (es : Exs) : evE R (.call f es) (s :: e) = (evEs R es (s :: e)).bind fun ds env => callR (R.call f ds) env := by simp only [evE]; try first | rfl | (congr 1; funext x env; cases x <;> rfl)
theorem x_ite (c : Te) (a b : Ex) : evE R (.ite c a b) (s :: e) = (evT R c (s :: e)).bind fun t env => if t then evE R a env else evE R b env := by simp only [evE]; try first | rfl | (congr 1; funext x env; cases x <;> rfl)
theorem x_andV (a b : Ex) : evE R (.andV a b) (s :: e) = (evE R a (s :: e)).bind fun x env => andR x (evE R b) env := by simp only [evE]; try first | rfl | (congr 1; funext x env; cases x <;> rfl)
theorem x_orV (a b : Ex) : evE R (.orV a b) (s :: e) = (evE R a (s :: e)).bind fun x env => orR x (evE R b) env := by simp only [evE]; try first | rfl | (congr 1; funext x env; cases x <;> rfl)
theorem x_notV (a : Ex) : evE R (.notV a) (s :: e) = (evE R a (s :: e)).bind fun x env => notR x env := by simp only [evE]; try first | rfl | (congr 1; funext x env; cases x <;> rfl)
theorem x_revL (a : Ex) : evE R (.revL a) (s :: e) = (evE R a (s :: e)).bind fun c env => revR c.d env := by simp only [evE]; try first | rfl | (congr 1; funext x env; cases x <;> rfl)
theorem x_comp (x : Ex) (own : List Nat) (t : Tg) (it : It) (c : Te) : evE R (.comp x own t it c) (s :: e) = (evI R it (s :: e)).bind fun ds env => compR R x own t c ds env := by simp only [evE]; try first | rfl | (congr 1; funext x env; cases x <;> rfl)
theorem x_glob (k : Nat) (p : Str × D) (h : R.consts[k]? = some p) : evE R (.glob k) (s :: e) = .ok (.fz p.2) (s :: e) := by simp only [evE, h]
theorem x_n : evEs R .n (s :: e) = .ok [] (s :: e) := by simp only [evEs]
theorem x_c (a : Ex) (es : Exs) : evEs R (.c a es) (s :: e) = (evE R a (s :: e)).bind fun c env => (evEs R es env).bind fun ds env => .ok (c.d :: ds) env := by simp only [evEs]
theorem t_val (a : Ex) : evT R (.val a) (s :: e) = (bor a (evE R a) (s :: e)).bind fun x env => Res.of (truth x) env := by simp only [evT]
theorem t_and (a b : Te) : evT R (.and a b) (s :: e) = (evT R a (s :: e)).bind fun t env => if t then evT R b env else .ok false env := by simp only [evT]
theorem t_or (a b : Te) : evT R (.or a b) (s :: e) = (evT R a (s :: e)).bind fun t env => if t then .ok true env else evT R b env := by simp only [evT]
theorem t_not (a : Te) : evT R (.not a) (s :: e) = (evT R a (s :: e)).bind fun t env => .ok (!t) env := by simp only [evT]
theorem t_yes : evT R .yes (s :: e) = .ok true (s :: e) := by simp only [evT]
theorem i_seq (a : Ex) : evI R (.seq a) (s :: e) = (evE R a (s :: e)).bind fun c env => Res.of (seqD c.d) env := by simp only [evI]
theorem i_r1 (a : Ex) : evI R (.rng1 a) (s :: e) = (evE R a (s :: e)).bind fun c env => rngR c.d env := by
  simp only [evI]
  congr 1
theorem i_r2 (a b : Ex) : evI R (.rng2 a b) (s :: e) = (evE R a (s :: e)).bind fun c env => (evE R b env).bind fun c2 env => rng2R c.d c2.d env := by
  simp only [evI]
  congr 1
theorem i_enum (a : Ex) : evI R (.enum a) (s :: e) = (evE R a (s :: e)).bind fun c env => enumR c.d env := by simp only [evI]; try first | rfl | (congr 1; funext x env; cases x.d <;> rfl)
theorem i_zip (a b : Ex) : evI R (.zip a b) (s :: e) = (evE R a (s :: e)).bind fun c env => (evE R b env).bind fun c2 env => zipR c.d c2.d env := by
  simp only [evI]
  congr 1
theorem i_rev (a : Ex) : evI R (.rev a) (s :: e) = (evE R a (s :: e)).bind fun c env => revI c.d env := by simp only [evI]; try first | rfl | (congr 1; funext x env; cases x.d <;> rfl)
theorem s_asg (t : Tg) (x : Ex) : exS R (.asg t x) (s :: e) = (evE R x (s :: e)).out fun c env => Out.of (asgT t c env) := by simp only [exS]
theorem s_aug (i : Nat) (o : O2) (x : Ex) : exS R (.aug i o x) (s :: e) = augR (s :: e)[i]? fun d => (evE R x (s :: e)).out fun c env => nxO (aI o d c.d) fun d => env.set i (some (.fz d)) := by
  simp only [exS, augR]
  cases h : (s :: e)[i]? with
  | none => rfl
  | some z => cases z with
    | none => rfl
    | some z => cases z with
      | fz d =>
        dsimp only
        congr 1
      | _ => rfl
theorem s_app (i : Nat) (x : Ex) : exS R (.app i x) (s :: e) = listR (s :: e)[i]? fun _ => (evE R x (s :: e)).out fun c env => listR env[i]? fun ds => if ds.length < sizeLine then .nx (env.set i (some (.ow (ds ++ [c.d])))) else .bad := by
  simp only [exS, getO, listR]
  cases h : (s :: e)[i]? with
  | none => rfl
  | some z => cases z with
    | none => rfl
    | some z => cases z with
      | ow ds =>
        dsimp only
        congr 1; funext c env
        cases env[i]? with
        | none => rfl
        | some z => cases z with
          | none => rfl
          | some z => cases z <;> rfl
      | _ => rfl
theorem s_setI (i : Nat) (j x : Ex) : exS R (.setI i j x) (s :: e) = listR (s :: e)[i]? fun _ => (evE R x (s :: e)).out fun c env => (bor j (evE R j) env).out fun y env => listR env[i]? fun ds => setR ds y c.d fun l => env.set i (some (.ow l)) := by
  simp only [exS, getO, listR]
  cases h : (s :: e)[i]? with
  | none => rfl
  | some z => cases z with
    | none => rfl
    | some z => cases z with
      | ow ds =>
        dsimp only
        congr 1; funext c env; congr 1; funext y env2
        cases env2[i]? with
        | none => rfl
        | some z => cases z with
          | none => rfl
          | some z => cases z <;> cases y <;> rfl
      | _ => rfl
theorem s_expr (x : Ex) : exS R (.expr x) (s :: e) = (evE R x (s :: e)).out fun _ env => .nx env := by simp only [exS]
theorem s_if (c : Te) (a b : ISs) : exS R (.ite c a b) (s :: e) = (evT R c (s :: e)).out fun t env => if t then exSs R a env else exSs R b env := by simp only [exS]
theorem s_whl (c : Te) (b : ISs) : exS R (.whl c b) (s :: e) = whlR R c b (s :: e) := by simp only [exS]; try rfl
theorem s_for (t : Tg) (it : It) (b : ISs) : exS R (.for_ t it b) (s :: e) = (evI R it (s :: e)).out fun ds env => forR R t b ds env := by simp only [exS]; try rfl
theorem s_ret (x : Ex) : exS R (.ret x) (s :: e) = (evE R x (s :: e)).out fun c _ => .rt c := by simp only [exS]
theorem s_retV (i : Nat) : exS R (.retV i) (s :: e) = retR (s :: e)[i]? := by
  simp only [exS, retR]
  all_goals
    cases (s :: e)[i]? with
    | none => rfl
    | some z => cases z <;> rfl
theorem s_retN  : exS R (.retN) (s :: e) = .rt (.fz .none) := by simp only [exS]
theorem s_brk  : exS R (.brk) (s :: e) = .bk (s :: e) := by simp only [exS]
theorem s_cont  : exS R (.cont) (s :: e) = .ct (s :: e) := by simp only [exS]
theorem s_pass  : exS R (.pass) (s :: e) = .nx (s :: e) := by simp only [exS]
theorem s_raise (k : Nat) (es : Exs) : exS R (.raise k es) (s :: e) = (evEs R es (s :: e)).out fun ds env => .exc ⟨k, ds⟩ env := by simp only [exS]
theorem s_try (b : ISs) (hs : List Hd) : exS R (.try_ b hs) (s :: e) = tryR (exSs R b (s :: e)) hs := by simp only [exS]; try rfl
theorem q_n : exSs R .n (s :: e) = .nx (s :: e) := by simp only [exSs]
theorem q_c (a : IS) (as : ISs) : exSs R (.c a as) (s :: e) = (exS R a (s :: e)).seq (exSs R as) := by simp only [exSs]
end
section
variable {α β : Type}
theorem b_ok (a : α) (e : Env) (f : α → Env → Res β) : (Res.ok a e).bind f = f a e := rfl
theorem b_exc (x : Exc) (e : Env) (f : α → Env → Res β) : (Res.exc x e : Res α).bind f = .exc x e := rfl
theorem b_bad (f : α → Env → Res β) : (Res.bad : Res α).bind f = .bad := rfl
theorem b_ite (p : Prop) [Decidable p] (a b : Res α) (f : α → Env → Res β) : (if p then a else b : Res α).bind f = if p then a.bind f else b.bind f := by split <;> rfl
theorem u_ok (a : α) (e : Env) (f : α → Env → Out) : (Res.ok a e).out f = f a e := rfl
theorem u_exc (x : Exc) (e : Env) (f : α → Env → Out) : (Res.exc x e : Res α).out f = .exc x e := rfl
theorem u_bad (f : α → Env → Out) : (Res.bad : Res α).out f = .bad := rfl
theorem u_ite (p : Prop) [Decidable p] (a b : Res α) (f : α → Env → Out) : (if p then a else b : Res α).out f = if p then a.out f else b.out f := by split <;> rfl
theorem o_some (a : α) (e : Env) : Res.of (some a) e = .ok a e := rfl
theorem o_none (e : Env) : Res.of (none : Option α) e = .bad := rfl
end
theorem q_nx (e : Env) (f : Env → Out) : (Out.nx e).seq f = f e := rfl
theorem q_rt (c : Cell) (f : Env → Out) : (Out.rt c).seq f = .rt c := rfl
theorem q_bk (e : Env) (f : Env → Out) : (Out.bk e).seq f = .bk e := rfl
theorem q_ct (e : Env) (f : Env → Out) : (Out.ct e).seq f = .ct e := rfl
theorem q_exc (x : Exc) (e : Env) (f : Env → Out) : (Out.exc x e).seq f = .exc x e := rfl
theorem q_bad (f : Env → Out) : Out.bad.seq f = .bad := rfl
theorem q_ite (p : Prop) [Decidable p] (a b : Out) (f : Env → Out) : (if p then a else b : Out).seq f = if p then a.seq f else b.seq f := by split <;> rfl
theorem of_some (e : Env) : Out.of (some e) = .nx e := rfl
theorem f_nx (e : Env) : fin (.nx e) = .ok (.fz .none) := rfl
theorem f_rt (c : Cell) : fin (.rt c) = .ok c := rfl
theorem f_exc (x : Exc) (e : Env) : fin (.exc x e) = .exc x := rfl
theorem f_ite (p : Prop) [Decidable p] (a b : Out) : fin (if p then a else b) = if p then fin a else fin b := by split <;> rfl
theorem c_ok (c : Cell) (e : Env) : callR (.ok c) e = .ok c e := rfl
theorem c_exc (x : Exc) (e : Env) : callR (.exc x) e = .exc x e := rfl
theorem c_ite (p : Prop) [Decidable p] (a b : FR) (e : Env) : callR (if p then a else b) e = if p then callR a e else callR b e := by split <;> rfl
theorem an_t (f : Env → Res Cell) (e : Env) : andR (.fz (.bool true)) f e = f e := rfl
theorem an_b (b : Bool) (f : Env → Res Cell) (e : Env) : andR (.fz (.bool b)) f e = if b then f e else .ok (.fz (.bool false)) e := by cases b <;> rfl
theorem or_b (b : Bool) (f : Env → Res Cell) (e : Env) : orR (.fz (.bool b)) f e = if b then .ok (.fz (.bool true)) e else f e := by cases b <;> rfl
theorem no_b (b : Bool) (e : Env) : notR (.fz (.bool b)) e = .ok (.fz (.bool (!b))) e := rfl
theorem rv_l (ds : List D) (e : Env) : revR (.list ds) e = .ok (.ow ds.reverse) e := rfl
theorem in_i (i : Int) (f : Int → Res (List D)) : intR (.int i) f = f i := rfl
theorem au_s (d : D) (f : D → Out) : augR (some (some (.fz d))) f = f d := rfl
theorem li_s (ds : List D) (f : List D → Out) : listR (some (some (.ow ds))) f = f ds := rfl
theorem re_s (c : Cell) : retR (some (some c)) = .rt c := rfl
theorem nx_s (d : D) (f : D → Env) : nxO (some d) f = .nx (f d) := rfl
theorem en_l (ds : List D) (e : Env) : enumR (.list ds) e = .ok (enumD 0 ds) e := rfl
theorem zi_l (ds es : List D) (e : Env) : zipR (.list ds) (.list es) e = .ok (zipD ds es) e := rfl
theorem ri_l (ds : List D) (e : Env) : revI (.list ds) e = .ok ds.reverse e := rfl
theorem tr_nx (e : Env) (hs : List Hd) : tryR (.nx e) hs = .nx e := rfl
theorem tr_rt (c : Cell) (hs : List Hd) : tryR (.rt c) hs = .rt c := rfl
theorem tr_bk (e : Env) (hs : List Hd) : tryR (.bk e) hs = .bk e := rfl
theorem tr_ct (e : Env) (hs : List Hd) : tryR (.ct e) hs = .ct e := rfl
theorem tr_exc (x : Exc) (e : Env) (hs : List Hd) : tryR (.exc x e) hs = handle x e hs := rfl
theorem tr_ite (p : Prop) [Decidable p] (a b : Out) (hs : List Hd) : tryR (if p then a else b) hs = if p then tryR a hs else tryR b hs := by split <;> rfl
theorem rd_c (s : Option Cell) (e : Env) (i : Nat) : rd (s :: e) i = rdR (s :: e) i (s :: e)[i]? := by
  simp only [rd, rdR]
  all_goals
    cases (s :: e)[i]? with
    | none => rfl
    | some z => cases z <;> rfl
theorem rd_s (e : Env) (i : Nat) (c : Cell) : rdR e i (some (some c)) = .ok (.fz c.d) (e.set i (some (.fz c.d))) := rfl
theorem pk_c (s : Option Cell) (e : Env) (i : Nat) : peek (s :: e) i = pkR (s :: e) i (s :: e)[i]? := by
  simp only [peek, pkR]
  all_goals
    cases (s :: e)[i]? with
    | none => rfl
    | some z => cases z with
      | none => rfl
      | some z => cases z <;> rfl
theorem pk_f (e : Env) (i : Nat) (d : D) : pkR e i (some (some (.fz d))) = .ok d e := rfl
theorem pk_o (e : Env) (i : Nat) (ds : List D) : pkR e i (some (some (.ow ds))) = .ok (.list ds) e := rfl
theorem bo_var (i : Nat) (r : Env → Res Cell) (s : Option Cell) (e : Env) : bor (.var i) r (s :: e) = peek (s :: e) i := rfl
theorem bo_lit (d : D) (r : Env → Res Cell) (s : Option Cell) (e : Env) : bor (.lit d) r (s :: e) = (r (s :: e)).bind fun c env => .ok c.d env := rfl
theorem op_lit (d : D) (r : Env → Res Cell) (s : Option Cell) (e : Env) : opt (.lit d) r (s :: e) = (r (s :: e)).bind fun c env => optR c.d env := by
  simp only [opt]
  congr 1
theorem bo_glob (k : Nat) (r : Env → Res Cell) (s : Option Cell) (e : Env) : bor (.glob k) r (s :: e) = (r (s :: e)).bind fun c env => .ok c.d env := rfl
theorem op_glob (k : Nat) (r : Env → Res Cell) (s : Option Cell) (e : Env) : opt (.glob k) r (s :: e) = (r (s :: e)).bind fun c env => optR c.d env := by
  simp only [opt]
  congr 1
theorem bo_op1 (o : O1) (a : Ex) (r : Env → Res Cell) (s : Option Cell) (e : Env) : bor (.op1 o a) r (s :: e) = (r (s :: e)).bind fun c env => .ok c.d env := rfl
theorem op_op1 (o : O1) (a : Ex) (r : Env → Res Cell) (s : Option Cell) (e : Env) : opt (.op1 o a) r (s :: e) = (r (s :: e)).bind fun c env => optR c.d env := by
  simp only [opt]
  congr 1
theorem bo_op2 (o : O2) (a b : Ex) (r : Env → Res Cell) (s : Option Cell) (e : Env) : bor (.op2 o a b) r (s :: e) = (r (s :: e)).bind fun c env => .ok c.d env := rfl
theorem op_op2 (o : O2) (a b : Ex) (r : Env → Res Cell) (s : Option Cell) (e : Env) : opt (.op2 o a b) r (s :: e) = (r (s :: e)).bind fun c env => optR c.d env := by
  simp only [opt]
  congr 1
theorem bo_sl (a b c : Ex) (r : Env → Res Cell) (s : Option Cell) (e : Env) : bor (.sl a b c) r (s :: e) = (r (s :: e)).bind fun c env => .ok c.d env := rfl
theorem op_sl (a b c : Ex) (r : Env → Res Cell) (s : Option Cell) (e : Env) : opt (.sl a b c) r (s :: e) = (r (s :: e)).bind fun c env => optR c.d env := by
  simp only [opt]
  congr 1
theorem bo_tup (es : Exs) (r : Env → Res Cell) (s : Option Cell) (e : Env) : bor (.tup es) r (s :: e) = (r (s :: e)).bind fun c env => .ok c.d env := rfl
theorem op_tup (es : Exs) (r : Env → Res Cell) (s : Option Cell) (e : Env) : opt (.tup es) r (s :: e) = (r (s :: e)).bind fun c env => optR c.d env := by
  simp only [opt]
  congr 1
theorem bo_lst (es : Exs) (r : Env → Res Cell) (s : Option Cell) (e : Env) : bor (.lst es) r (s :: e) = (r (s :: e)).bind fun c env => .ok c.d env := rfl
theorem op_lst (es : Exs) (r : Env → Res Cell) (s : Option Cell) (e : Env) : opt (.lst es) r (s :: e) = (r (s :: e)).bind fun c env => optR c.d env := by
  simp only [opt]
  congr 1
theorem bo_call (f : Nat) (es : Exs) (r : Env → Res Cell) (s : Option Cell) (e : Env) : bor (.call f es) r (s :: e) = (r (s :: e)).bind fun c env => .ok c.d env := rfl
theorem op_call (f : Nat) (es : Exs) (r : Env → Res Cell) (s : Option Cell) (e : Env) : opt (.call f es) r (s :: e) = (r (s :: e)).bind fun c env => optR c.d env := by
  simp only [opt]
  congr 1
theorem bo_ite (c : Te) (a b : Ex) (r : Env → Res Cell) (s : Option Cell) (e : Env) : bor (.ite c a b) r (s :: e) = (r (s :: e)).bind fun c env => .ok c.d env := rfl
theorem op_ite (c : Te) (a b : Ex) (r : Env → Res Cell) (s : Option Cell) (e : Env) : opt (.ite c a b) r (s :: e) = (r (s :: e)).bind fun c env => optR c.d env := by
  simp only [opt]
  congr 1
theorem bo_andV (a b : Ex) (r : Env → Res Cell) (s : Option Cell) (e : Env) : bor (.andV a b) r (s :: e) = (r (s :: e)).bind fun c env => .ok c.d env := rfl
theorem op_andV (a b : Ex) (r : Env → Res Cell) (s : Option Cell) (e : Env) : opt (.andV a b) r (s :: e) = (r (s :: e)).bind fun c env => optR c.d env := by
  simp only [opt]
  congr 1
theorem bo_orV (a b : Ex) (r : Env → Res Cell) (s : Option Cell) (e : Env) : bor (.orV a b) r (s :: e) = (r (s :: e)).bind fun c env => .ok c.d env := rfl
theorem op_orV (a b : Ex) (r : Env → Res Cell) (s : Option Cell) (e : Env) : opt (.orV a b) r (s :: e) = (r (s :: e)).bind fun c env => optR c.d env := by
  simp only [opt]
  congr 1
theorem bo_notV (a : Ex) (r : Env → Res Cell) (s : Option Cell) (e : Env) : bor (.notV a) r (s :: e) = (r (s :: e)).bind fun c env => .ok c.d env := rfl
theorem op_notV (a : Ex) (r : Env → Res Cell) (s : Option Cell) (e : Env) : opt (.notV a) r (s :: e) = (r (s :: e)).bind fun c env => optR c.d env := by
  simp only [opt]
  congr 1
theorem bo_revL (a : Ex) (r : Env → Res Cell) (s : Option Cell) (e : Env) : bor (.revL a) r (s :: e) = (r (s :: e)).bind fun c env => .ok c.d env := rfl
theorem op_revL (a : Ex) (r : Env → Res Cell) (s : Option Cell) (e : Env) : opt (.revL a) r (s :: e) = (r (s :: e)).bind fun c env => optR c.d env := by
  simp only [opt]
  congr 1
theorem bo_comp (x : Ex) (own : List Nat) (t : Tg) (it : It) (c : Te) (r : Env → Res Cell) (s : Option Cell) (e : Env) : bor (.comp x own t it c) r (s :: e) = (r (s :: e)).bind fun c env => .ok c.d env := rfl
theorem op_comp (x : Ex) (own : List Nat) (t : Tg) (it : It) (c : Te) (r : Env → Res Cell) (s : Option Cell) (e : Env) : opt (.comp x own t it c) r (s :: e) = (r (s :: e)).bind fun c env => optR c.d env := by
  simp only [opt]
  congr 1
theorem op_var (i : Nat) (r : Env → Res Cell) (s : Option Cell) (e : Env) : opt (.var i) r (s :: e) = (r (s :: e)).bind fun c env => optR c.d env := by
  simp only [opt]
  congr 1
theorem op_abs (r : Env → Res Cell) (s : Option Cell) (e : Env) : opt .absent r (s :: e) = .ok none (s :: e) := rfl
theorem opR_i (i : Int) (e : Env) : optR (.int i) e = .ok (some i) e := rfl
theorem g_var (i : Nat) (c : Cell) (s : Option Cell) (e : Env) : asgT (.var i) c (s :: e) = if i < (s :: e).length then some ((s :: e).set i (some c)) else none := by simp only [asgT]
theorem g_tup (ts : Tgs) (ds : List D) (s : Option Cell) (e : Env) : asgT (.tup ts) (.fz (.tuple ds)) (s :: e) = asgTs ts ds (s :: e) := by simp only [asgT]
theorem gs_n (s : Option Cell) (e : Env) : asgTs .n [] (s :: e) = some (s :: e) := by simp only [asgTs]
theorem gs_c (t : Tg) (ts : Tgs) (d : D) (ds : List D) (s : Option Cell) (e : Env) : asgTs (.c t ts) (d :: ds) (s :: e) = (asgT t (.fz d) (s :: e)).bind fun env => asgTs ts ds env := by simp only [asgTs]
theorem d_fz (d : D) : (Cell.fz d).d = d := rfl
theorem d_ow (ds : List D) : (Cell.ow ds).d = .list ds := rfl
theorem a_add (i j : Int) : a2 .add (.int i) (.int j) = some (.fz (.int (i + j))) := by simp only [a2, b2]
theorem a_sub (i j : Int) : a2 .sub (.int i) (.int j) = some (.fz (.int (i - j))) := by simp only [a2, b2]
theorem a_lt (i j : Int) : a2 .lt (.int i) (.int j) = some (.fz (.bool (decide (i < j)))) := by simp only [a2, b2]
theorem a_le (i j : Int) : a2 .le (.int i) (.int j) = some (.fz (.bool (decide (i ≤ j)))) := by simp only [a2, b2]
theorem a_gt (i j : Int) : a2 .gt (.int i) (.int j) = some (.fz (.bool (decide (j < i)))) := by simp only [a2, b2]
theorem a_ge (i j : Int) : a2 .ge (.int i) (.int j) = some (.fz (.bool (decide (j ≤ i)))) := by simp only [a2, b2]
theorem a_max (i j : Int) : a2 .max (.int i) (.int j) = some (.fz (.int (if j > i then j else i))) := by simp only [a2, b2]
theorem a_min (i j : Int) : a2 .min (.int i) (.int j) = some (.fz (.int (if j < i then j else i))) := by simp only [a2, b2]
theorem a_mul (i j : Int) : a2 .mul (.int i) (.int j) = if mulOk i j then some (.fz (.int (i * j))) else none := by simp only [a2]
theorem a_fdiv (i j : Int) : a2 .fdiv (.int i) (.int j) = if divOk j then some (.fz (.int (i / j))) else none := by simp only [a2]
theorem a_mod (i j : Int) : a2 .mod (.int i) (.int j) = if 0 < j then some (.fz (.int (i % j))) else none := by simp only [a2]
theorem a_pow (i j : Int) : a2 .pow (.int i) (.int j) = if powOk i j then some (.fz (.int (i ^ j.toNat))) else none := by simp only [a2]
theorem a_addl (xs ys : List D) : a2 .add (.list xs) (.list ys) = if xs.length + ys.length ≤ sizeLine then some (.ow (xs ++ ys)) else none := by simp only [a2]
theorem a_addt (xs ys : List D) : a2 .add (.tuple xs) (.tuple ys) = if xs.length + ys.length ≤ sizeLine then some (.fz (.tuple (xs ++ ys))) else none := by simp only [a2]
theorem a_adds (x y : Str) : a2 .add (.str x) (.str y) = if x.length + y.length ≤ sizeLine then some (.fz (.str (x ++ y))) else none := by simp only [a2]
theorem a_mull (xs : List D) (k : Int) : a2 .mul (.list xs) (.int k) = if -(2 ^ 63) ≤ k ∧ k < 2 ^ 63 ∧ xs.length * k.toNat ≤ sizeLine then some (.ow (List.replicate k.toNat xs).flatten) else none := by simp only [a2]
theorem a_eqi (i j : Int) : a2 .eq (.int i) (.int j) = some (.fz (.bool (decide (i = j)))) := by
  simp only [a2, eqC, dOk, PyData.depth]
  simp [b2, PyData.eqv]
  first | rfl | done
theorem a_nei (i j : Int) : a2 .ne (.int i) (.int j) = some (.fz (.bool (!decide (i = j)))) := by
  simp only [a2, eqC, dOk, PyData.depth]
  simp [b2, PyData.eqv]
  first | rfl | done
theorem a_ixl (ds : List D) (i : Int) : a2 .ix (.list ds) (.int i) = (L2.atI ds i).map .fz := by simp only [a2]
theorem a_ixt (ds : List D) (i : Int) : a2 .ix (.tuple ds) (.int i) = (L2.atI ds i).map .fz := by simp only [a2]
theorem a1_neg (i : Int) : a1 .neg (.int i) = some (.fz (.int (-i))) := by simp only [a1]
theorem a1_lenl (ds : List D) : a1 .len (.list ds) = some (.fz (.int ds.length)) := by simp only [a1]
theorem a1_lent (ds : List D) : a1 .len (.tuple ds) = some (.fz (.int ds.length)) := by simp only [a1]
theorem a1_lens (x : Str) : a1 .len (.str x) = some (.fz (.int x.length)) := by simp only [a1]
theorem a1_listl (ds : List D) : a1 .list (.list ds) = some (.ow ds) := by simp only [a1]
theorem a1_listt (ds : List D) : a1 .list (.tuple ds) = some (.ow ds) := by simp only [a1]
theorem a1_tupl (ds : List D) : a1 .tuple (.list ds) = some (.fz (.tuple ds)) := by simp only [a1]
theorem a1_tupt (ds : List D) : a1 .tuple (.tuple ds) = some (.fz (.tuple ds)) := by simp only [a1]
theorem a1_int (i : Int) : a1 .int (.int i) = some (.fz (.int i)) := by simp only [a1]
theorem a1_sum (ds : List D) : a1 .sum (.list ds) = (allInts ds).map fun ns => .fz (.int ns.sum) := by simp only [a1]
theorem a1_isN (d : D) : a1 .isN d = some (.fz (.bool (isNone d))) := by simp only [a1, b2]
theorem a1_notN (d : D) : a1 .notN d = some (.fz (.bool (!isNone d))) := by simp only [a1, b2]
theorem y_int_i (i : Int) : a1 (.isi .int) (.int i) = some (.fz (.bool true)) := by simp only [a1, dTy, Option.bind_some, b2]; rfl
theorem y_bool_i (i : Int) : a1 (.isi .bool) (.int i) = some (.fz (.bool false)) := by simp only [a1, dTy, Option.bind_some, b2]; rfl
theorem y_str_i (i : Int) : a1 (.isi .str) (.int i) = some (.fz (.bool false)) := by simp only [a1, dTy, Option.bind_some, b2]; rfl
theorem y_list_i (i : Int) : a1 (.isi .list) (.int i) = some (.fz (.bool false)) := by simp only [a1, dTy, Option.bind_some, b2]; rfl
theorem y_tuple_i (i : Int) : a1 (.isi .tuple) (.int i) = some (.fz (.bool false)) := by simp only [a1, dTy, Option.bind_some, b2]; rfl
theorem nn_i (i : Int) : isNone (.int i) = false := rfl
theorem y_int_s (x : Str) : a1 (.isi .int) (.str x) = some (.fz (.bool false)) := by simp only [a1, dTy, Option.bind_some, b2]; rfl
theorem y_bool_s (x : Str) : a1 (.isi .bool) (.str x) = some (.fz (.bool false)) := by simp only [a1, dTy, Option.bind_some, b2]; rfl
theorem y_str_s (x : Str) : a1 (.isi .str) (.str x) = some (.fz (.bool true)) := by simp only [a1, dTy, Option.bind_some, b2]; rfl
theorem y_list_s (x : Str) : a1 (.isi .list) (.str x) = some (.fz (.bool false)) := by simp only [a1, dTy, Option.bind_some, b2]; rfl
theorem y_tuple_s (x : Str) : a1 (.isi .tuple) (.str x) = some (.fz (.bool false)) := by simp only [a1, dTy, Option.bind_some, b2]; rfl
theorem nn_s (x : Str) : isNone (.str x) = false := rfl
theorem y_int_b (b : Bool) : a1 (.isi .int) (.bool b) = some (.fz (.bool true)) := by simp only [a1, dTy, Option.bind_some, b2]; rfl
theorem y_bool_b (b : Bool) : a1 (.isi .bool) (.bool b) = some (.fz (.bool true)) := by simp only [a1, dTy, Option.bind_some, b2]; rfl
theorem y_str_b (b : Bool) : a1 (.isi .str) (.bool b) = some (.fz (.bool false)) := by simp only [a1, dTy, Option.bind_some, b2]; rfl
theorem y_list_b (b : Bool) : a1 (.isi .list) (.bool b) = some (.fz (.bool false)) := by simp only [a1, dTy, Option.bind_some, b2]; rfl
theorem y_tuple_b (b : Bool) : a1 (.isi .tuple) (.bool b) = some (.fz (.bool false)) := by simp only [a1, dTy, Option.bind_some, b2]; rfl
theorem nn_b (b : Bool) : isNone (.bool b) = false := rfl
theorem y_int_l (ds : List D) : a1 (.isi .int) (.list ds) = some (.fz (.bool false)) := by simp only [a1, dTy, Option.bind_some, b2]; rfl
theorem y_bool_l (ds : List D) : a1 (.isi .bool) (.list ds) = some (.fz (.bool false)) := by simp only [a1, dTy, Option.bind_some, b2]; rfl
theorem y_str_l (ds : List D) : a1 (.isi .str) (.list ds) = some (.fz (.bool false)) := by simp only [a1, dTy, Option.bind_some, b2]; rfl
theorem y_list_l (ds : List D) : a1 (.isi .list) (.list ds) = some (.fz (.bool true)) := by simp only [a1, dTy, Option.bind_some, b2]; rfl
theorem y_tuple_l (ds : List D) : a1 (.isi .tuple) (.list ds) = some (.fz (.bool false)) := by simp only [a1, dTy, Option.bind_some, b2]; rfl
theorem nn_l (ds : List D) : isNone (.list ds) = false := rfl
theorem y_int_t (ds : List D) : a1 (.isi .int) (.tuple ds) = some (.fz (.bool false)) := by simp only [a1, dTy, Option.bind_some, b2]; rfl
theorem y_bool_t (ds : List D) : a1 (.isi .bool) (.tuple ds) = some (.fz (.bool false)) := by simp only [a1, dTy, Option.bind_some, b2]; rfl
theorem y_str_t (ds : List D) : a1 (.isi .str) (.tuple ds) = some (.fz (.bool false)) := by simp only [a1, dTy, Option.bind_some, b2]; rfl
theorem y_list_t (ds : List D) : a1 (.isi .list) (.tuple ds) = some (.fz (.bool false)) := by simp only [a1, dTy, Option.bind_some, b2]; rfl
theorem y_tuple_t (ds : List D) : a1 (.isi .tuple) (.tuple ds) = some (.fz (.bool true)) := by simp only [a1, dTy, Option.bind_some, b2]; rfl
theorem nn_t (ds : List D) : isNone (.tuple ds) = false := rfl
theorem y_int_n : a1 (.isi .int) (.none) = some (.fz (.bool false)) := by simp only [a1, dTy, Option.bind_some, b2]; rfl
theorem y_bool_n : a1 (.isi .bool) (.none) = some (.fz (.bool false)) := by simp only [a1, dTy, Option.bind_some, b2]; rfl
theorem y_str_n : a1 (.isi .str) (.none) = some (.fz (.bool false)) := by simp only [a1, dTy, Option.bind_some, b2]; rfl
theorem y_list_n : a1 (.isi .list) (.none) = some (.fz (.bool false)) := by simp only [a1, dTy, Option.bind_some, b2]; rfl
theorem y_tuple_n : a1 (.isi .tuple) (.none) = some (.fz (.bool false)) := by simp only [a1, dTy, Option.bind_some, b2]; rfl
theorem nn_n : isNone (.none) = true := rfl
theorem tr_b (b : Bool) : truth (.bool b) = some b := by simp only [truth]
theorem tr_i (i : Int) : truth (.int i) = some (i != 0) := by simp only [truth]
theorem tr_l (ds : List D) : truth (.list ds) = some (!ds.isEmpty) := by simp only [truth]
theorem tr_t (ds : List D) : truth (.tuple ds) = some (!ds.isEmpty) := by simp only [truth]
theorem a3_l (ds : List D) (l h : Option Int) : a3 (.list ds) l h = some (.ow (cut ds l h)) := by simp only [a3]
theorem a3_t (ds : List D) (l h : Option Int) : a3 (.tuple ds) l h = some (.fz (.tuple (cut ds l h))) := by simp only [a3]
theorem sq_l (ds : List D) : seqD (.list ds) = some ds := by simp only [seqD]
theorem sq_t (ds : List D) : seqD (.tuple ds) = some ds := by simp only [seqD]
theorem au_add (i j : Int) : aI .add (.int i) (.int j) = some (.int (i + j)) := by simp only [aI]
theorem au_sub (i j : Int) : aI .sub (.int i) (.int j) = some (.int (i - j)) := by simp only [aI]
end PD

end

section
set_option Elab.async false
set_option linter.all false
set_option maxRecDepth 100000
/-! k55: what each def answers. Own work. -/
namespace PD.K55
open PySem
theorem gl0 (cl : Nat → List D → FR) (s : Option Cell) (e : Env) : evE ⟨cl, cfg.consts⟩ (.glob 0) (s :: e) = .ok (.fz (.int 1368)) (s :: e) := x_glob ⟨cl, cfg.consts⟩ s e 0 (Str.ofString "MAX_NUMBER", .int 1368) rfl
theorem gl1 (cl : Nat → List D → FR) (s : Option Cell) (e : Env) : evE ⟨cl, cfg.consts⟩ (.glob 1) (s :: e) = .ok (.fz (.int 200)) (s :: e) := x_glob ⟨cl, cfg.consts⟩ s e 1 (Str.ofString "MAX_SIZES", .int 200) rfl
theorem r_span_sum (n : Nat) (ns : List Int) (a b : Int) : runF cfg (n + 1) 5 [il ns, .int a, .int b] = .ok (.fz (.int (cut ns (some a) (some b)).sum)) := by
  rw [run_at (show cfg.funs[5]? = some f_span_sum from rfl) rfl]
  simp only [f_span_sum, il, x_var, x_lit, x_op1, x_op2, x_sl, x_tup, x_lst, x_call, x_ite, x_andV, x_orV, x_notV, x_revL, x_comp, x_n, x_c, t_val, t_and, t_or, t_not, t_yes, i_seq, i_r1, i_r2, i_enum, i_zip, i_rev, s_asg, s_aug, s_app, s_setI, s_expr, s_if, s_whl, s_for, s_ret, s_retV, s_retN, s_brk, s_cont, s_pass, s_raise, s_try, q_n, q_c, b_ok, b_exc, b_bad, b_ite, u_ok, u_exc, u_bad, u_ite, o_some, o_none, q_nx, q_rt, q_bk, q_ct, q_exc, q_bad, q_ite, of_some, f_nx, f_rt, f_exc, f_ite, c_ok, c_exc, c_ite, an_t, an_b, or_b, no_b, rv_l, in_i, au_s, li_s, re_s, nx_s, en_l, zi_l, ri_l, tr_nx, tr_rt, tr_bk, tr_ct, tr_exc, tr_ite, rd_c, rd_s, pk_c, pk_f, pk_o, bo_var, bo_lit, op_lit, bo_glob, op_glob, bo_op1, op_op1, bo_op2, op_op2, bo_sl, op_sl, bo_tup, op_tup, bo_lst, op_lst, bo_call, op_call, bo_ite, op_ite, bo_andV, op_andV, bo_orV, op_orV, bo_notV, op_notV, bo_revL, op_revL, bo_comp, op_comp, op_var, op_abs, opR_i, g_var, g_tup, gs_n, gs_c, d_fz, d_ow, a_add, a_sub, a_lt, a_le, a_gt, a_ge, a_max, a_min, a_mul, a_fdiv, a_mod, a_pow, a_addl, a_addt, a_adds, a_mull, a_eqi, a_nei, a_ixl, a_ixt, a1_neg, a1_lenl, a1_lent, a1_lens, a1_listl, a1_listt, a1_tupl, a1_tupt, a1_int, a1_sum, a1_isN, a1_notN, y_int_i, y_bool_i, y_str_i, y_list_i, y_tuple_i, nn_i, y_int_s, y_bool_s, y_str_s, y_list_s, y_tuple_s, nn_s, y_int_b, y_bool_b, y_str_b, y_list_b, y_tuple_b, nn_b, y_int_l, y_bool_l, y_str_l, y_list_l, y_tuple_l, nn_l, y_int_t, y_bool_t, y_str_t, y_list_t, y_tuple_t, nn_t, y_int_n, y_bool_n, y_str_n, y_list_n, y_tuple_n, nn_n, tr_b, tr_i, tr_l, tr_t, a3_l, a3_t, sq_l, sq_t, au_add, au_sub, List.getElem?_cons_zero, List.getElem?_cons_succ, List.set_cons_zero, List.set_cons_succ, Option.map_some, Option.bind_some, if_true, if_false, Bool.false_eq_true, reduceIte, Exs.len, Nat.reduceAdd, Nat.reduceLeDiff, Nat.reduceLT, List.length_cons, List.length_nil, Nat.lt_add_left_iff_pos, Nat.zero_lt_succ, decide_true, decide_false, Bool.not_true, Bool.not_false, List.map_cons, List.map_nil, List.replicate, List.cons_append, List.nil_append, decide_eq_true_eq, Bool.not_eq_true', decide_eq_false_iff_not, Bool.and_eq_true, Bool.or_eq_true, or_self, or_false, false_or, or_true, true_or, and_true, true_and, and_self, not_false_eq_true, not_true_eq_false, ite_self, cut_map, forR]
  rw [forL_n (E := fun (s : Int × Option Cell) => [some (.fz (.list (ns.map .int))), some (.fz (.int a)), some (.fz (.int b)), some (.fz (.int s.1)), s.2]) (f := PyData.int) (step := fun s x => (s.1 + x, some (.fz (.int x)))) (fun s x => ⟨_, rfl, by simp only [x_var, x_lit, x_op1, x_op2, x_sl, x_tup, x_lst, x_call, x_ite, x_andV, x_orV, x_notV, x_revL, x_comp, x_n, x_c, t_val, t_and, t_or, t_not, t_yes, i_seq, i_r1, i_r2, i_enum, i_zip, i_rev, s_asg, s_aug, s_app, s_setI, s_expr, s_if, s_whl, s_for, s_ret, s_retV, s_retN, s_brk, s_cont, s_pass, s_raise, s_try, q_n, q_c, b_ok, b_exc, b_bad, b_ite, u_ok, u_exc, u_bad, u_ite, o_some, o_none, q_nx, q_rt, q_bk, q_ct, q_exc, q_bad, q_ite, of_some, f_nx, f_rt, f_exc, f_ite, c_ok, c_exc, c_ite, an_t, an_b, or_b, no_b, rv_l, in_i, au_s, li_s, re_s, nx_s, en_l, zi_l, ri_l, tr_nx, tr_rt, tr_bk, tr_ct, tr_exc, tr_ite, rd_c, rd_s, pk_c, pk_f, pk_o, bo_var, bo_lit, op_lit, bo_glob, op_glob, bo_op1, op_op1, bo_op2, op_op2, bo_sl, op_sl, bo_tup, op_tup, bo_lst, op_lst, bo_call, op_call, bo_ite, op_ite, bo_andV, op_andV, bo_orV, op_orV, bo_notV, op_notV, bo_revL, op_revL, bo_comp, op_comp, op_var, op_abs, opR_i, g_var, g_tup, gs_n, gs_c, d_fz, d_ow, a_add, a_sub, a_lt, a_le, a_gt, a_ge, a_max, a_min, a_mul, a_fdiv, a_mod, a_pow, a_addl, a_addt, a_adds, a_mull, a_eqi, a_nei, a_ixl, a_ixt, a1_neg, a1_lenl, a1_lent, a1_lens, a1_listl, a1_listt, a1_tupl, a1_tupt, a1_int, a1_sum, a1_isN, a1_notN, y_int_i, y_bool_i, y_str_i, y_list_i, y_tuple_i, nn_i, y_int_s, y_bool_s, y_str_s, y_list_s, y_tuple_s, nn_s, y_int_b, y_bool_b, y_str_b, y_list_b, y_tuple_b, nn_b, y_int_l, y_bool_l, y_str_l, y_list_l, y_tuple_l, nn_l, y_int_t, y_bool_t, y_str_t, y_list_t, y_tuple_t, nn_t, y_int_n, y_bool_n, y_str_n, y_list_n, y_tuple_n, nn_n, tr_b, tr_i, tr_l, tr_t, a3_l, a3_t, sq_l, sq_t, au_add, au_sub, List.getElem?_cons_zero, List.getElem?_cons_succ, List.set_cons_zero, List.set_cons_succ, Option.map_some, Option.bind_some, if_true, if_false, Bool.false_eq_true, reduceIte, Exs.len, Nat.reduceAdd, Nat.reduceLeDiff, Nat.reduceLT, List.length_cons, List.length_nil, Nat.lt_add_left_iff_pos, Nat.zero_lt_succ, decide_true, decide_false, Bool.not_true, Bool.not_false, List.map_cons, List.map_nil, List.replicate, List.cons_append, List.nil_append, decide_eq_true_eq, Bool.not_eq_true', decide_eq_false_iff_not, Bool.and_eq_true, Bool.or_eq_true, or_self, or_false, false_or, or_true, true_or, and_true, true_and, and_self, not_false_eq_true, not_true_eq_false, ite_self]⟩) (cut ns (some a) (some b)) (0, none)]
  have key : ∀ (xs : List Int) (s : Int × Option Cell), (xs.foldl (fun (s : Int × Option Cell) x => (s.1 + x, some (Cell.fz (PyData.int x)))) s).1 = s.1 + xs.sum := by
    intro xs
    induction xs with
    | nil => intro s; simp
    | cons x xs ih => intro s; simp [ih, Int.add_assoc]
  simp only [x_var, x_lit, x_op1, x_op2, x_sl, x_tup, x_lst, x_call, x_ite, x_andV, x_orV, x_notV, x_revL, x_comp, x_n, x_c, t_val, t_and, t_or, t_not, t_yes, i_seq, i_r1, i_r2, i_enum, i_zip, i_rev, s_asg, s_aug, s_app, s_setI, s_expr, s_if, s_whl, s_for, s_ret, s_retV, s_retN, s_brk, s_cont, s_pass, s_raise, s_try, q_n, q_c, b_ok, b_exc, b_bad, b_ite, u_ok, u_exc, u_bad, u_ite, o_some, o_none, q_nx, q_rt, q_bk, q_ct, q_exc, q_bad, q_ite, of_some, f_nx, f_rt, f_exc, f_ite, c_ok, c_exc, c_ite, an_t, an_b, or_b, no_b, rv_l, in_i, au_s, li_s, re_s, nx_s, en_l, zi_l, ri_l, tr_nx, tr_rt, tr_bk, tr_ct, tr_exc, tr_ite, rd_c, rd_s, pk_c, pk_f, pk_o, bo_var, bo_lit, op_lit, bo_glob, op_glob, bo_op1, op_op1, bo_op2, op_op2, bo_sl, op_sl, bo_tup, op_tup, bo_lst, op_lst, bo_call, op_call, bo_ite, op_ite, bo_andV, op_andV, bo_orV, op_orV, bo_notV, op_notV, bo_revL, op_revL, bo_comp, op_comp, op_var, op_abs, opR_i, g_var, g_tup, gs_n, gs_c, d_fz, d_ow, a_add, a_sub, a_lt, a_le, a_gt, a_ge, a_max, a_min, a_mul, a_fdiv, a_mod, a_pow, a_addl, a_addt, a_adds, a_mull, a_eqi, a_nei, a_ixl, a_ixt, a1_neg, a1_lenl, a1_lent, a1_lens, a1_listl, a1_listt, a1_tupl, a1_tupt, a1_int, a1_sum, a1_isN, a1_notN, y_int_i, y_bool_i, y_str_i, y_list_i, y_tuple_i, nn_i, y_int_s, y_bool_s, y_str_s, y_list_s, y_tuple_s, nn_s, y_int_b, y_bool_b, y_str_b, y_list_b, y_tuple_b, nn_b, y_int_l, y_bool_l, y_str_l, y_list_l, y_tuple_l, nn_l, y_int_t, y_bool_t, y_str_t, y_list_t, y_tuple_t, nn_t, y_int_n, y_bool_n, y_str_n, y_list_n, y_tuple_n, nn_n, tr_b, tr_i, tr_l, tr_t, a3_l, a3_t, sq_l, sq_t, au_add, au_sub, List.getElem?_cons_zero, List.getElem?_cons_succ, List.set_cons_zero, List.set_cons_succ, Option.map_some, Option.bind_some, if_true, if_false, Bool.false_eq_true, reduceIte, Exs.len, Nat.reduceAdd, Nat.reduceLeDiff, Nat.reduceLT, List.length_cons, List.length_nil, Nat.lt_add_left_iff_pos, Nat.zero_lt_succ, decide_true, decide_false, Bool.not_true, Bool.not_false, List.map_cons, List.map_nil, List.replicate, List.cons_append, List.nil_append, decide_eq_true_eq, Bool.not_eq_true', decide_eq_false_iff_not, Bool.and_eq_true, Bool.or_eq_true, or_self, or_false, false_or, or_true, true_or, and_true, true_and, and_self, not_false_eq_true, not_true_eq_false, ite_self, key, Int.zero_add]

/-! ### check_sizes -/
def chk (ns : List Int) (room : Int) : Option Exc := if room < 1 ∨ 1368 < room then some ⟨1, [.int room]⟩ else if 200 < ns.length then some ⟨2, [.int 200]⟩ else match ns.find? (fun s => decide (s < 1 ∨ room < s)) with
  | some s => some ⟨1, [.int s]⟩
  | none => none
def asFR (o : Option Exc) (c : Cell) : FR := match o with
  | some x => .exc x
  | none => .ok c
theorem r_check (n : Nat) (ns : List Int) (room : Int) : runF cfg (n + 1) 0 [il ns, .int room] = asFR (chk ns room) (.fz .none) := by
  rw [run_at (show cfg.funs[0]? = some f_check_sizes from rfl) rfl]
  simp only [f_check_sizes, il, x_var, x_lit, x_op1, x_op2, x_sl, x_tup, x_lst, x_call, x_ite, x_andV, x_orV, x_notV, x_revL, x_comp, x_n, x_c, t_val, t_and, t_or, t_not, t_yes, i_seq, i_r1, i_r2, i_enum, i_zip, i_rev, s_asg, s_aug, s_app, s_setI, s_expr, s_if, s_whl, s_for, s_ret, s_retV, s_retN, s_brk, s_cont, s_pass, s_raise, s_try, q_n, q_c, b_ok, b_exc, b_bad, b_ite, u_ok, u_exc, u_bad, u_ite, o_some, o_none, q_nx, q_rt, q_bk, q_ct, q_exc, q_bad, q_ite, of_some, f_nx, f_rt, f_exc, f_ite, c_ok, c_exc, c_ite, an_t, an_b, or_b, no_b, rv_l, in_i, au_s, li_s, re_s, nx_s, en_l, zi_l, ri_l, tr_nx, tr_rt, tr_bk, tr_ct, tr_exc, tr_ite, rd_c, rd_s, pk_c, pk_f, pk_o, bo_var, bo_lit, op_lit, bo_glob, op_glob, bo_op1, op_op1, bo_op2, op_op2, bo_sl, op_sl, bo_tup, op_tup, bo_lst, op_lst, bo_call, op_call, bo_ite, op_ite, bo_andV, op_andV, bo_orV, op_orV, bo_notV, op_notV, bo_revL, op_revL, bo_comp, op_comp, op_var, op_abs, opR_i, g_var, g_tup, gs_n, gs_c, d_fz, d_ow, a_add, a_sub, a_lt, a_le, a_gt, a_ge, a_max, a_min, a_mul, a_fdiv, a_mod, a_pow, a_addl, a_addt, a_adds, a_mull, a_eqi, a_nei, a_ixl, a_ixt, a1_neg, a1_lenl, a1_lent, a1_lens, a1_listl, a1_listt, a1_tupl, a1_tupt, a1_int, a1_sum, a1_isN, a1_notN, y_int_i, y_bool_i, y_str_i, y_list_i, y_tuple_i, nn_i, y_int_s, y_bool_s, y_str_s, y_list_s, y_tuple_s, nn_s, y_int_b, y_bool_b, y_str_b, y_list_b, y_tuple_b, nn_b, y_int_l, y_bool_l, y_str_l, y_list_l, y_tuple_l, nn_l, y_int_t, y_bool_t, y_str_t, y_list_t, y_tuple_t, nn_t, y_int_n, y_bool_n, y_str_n, y_list_n, y_tuple_n, nn_n, tr_b, tr_i, tr_l, tr_t, a3_l, a3_t, sq_l, sq_t, au_add, au_sub, List.getElem?_cons_zero, List.getElem?_cons_succ, List.set_cons_zero, List.set_cons_succ, Option.map_some, Option.bind_some, if_true, if_false, Bool.false_eq_true, reduceIte, Exs.len, Nat.reduceAdd, Nat.reduceLeDiff, Nat.reduceLT, List.length_cons, List.length_nil, Nat.lt_add_left_iff_pos, Nat.zero_lt_succ, decide_true, decide_false, Bool.not_true, Bool.not_false, List.map_cons, List.map_nil, List.replicate, List.cons_append, List.nil_append, decide_eq_true_eq, Bool.not_eq_true', decide_eq_false_iff_not, Bool.and_eq_true, Bool.or_eq_true, or_self, or_false, false_or, or_true, true_or, and_true, true_and, and_self, not_false_eq_true, not_true_eq_false, ite_self, gl0, gl1, forR]
  unfold chk
  by_cases h1 : room < 1 ∨ 1368 < room
  · rw [if_pos h1]
    rcases h1 with h1 | h1
    · simp only [h1, x_var, x_lit, x_op1, x_op2, x_sl, x_tup, x_lst, x_call, x_ite, x_andV, x_orV, x_notV, x_revL, x_comp, x_n, x_c, t_val, t_and, t_or, t_not, t_yes, i_seq, i_r1, i_r2, i_enum, i_zip, i_rev, s_asg, s_aug, s_app, s_setI, s_expr, s_if, s_whl, s_for, s_ret, s_retV, s_retN, s_brk, s_cont, s_pass, s_raise, s_try, q_n, q_c, b_ok, b_exc, b_bad, b_ite, u_ok, u_exc, u_bad, u_ite, o_some, o_none, q_nx, q_rt, q_bk, q_ct, q_exc, q_bad, q_ite, of_some, f_nx, f_rt, f_exc, f_ite, c_ok, c_exc, c_ite, an_t, an_b, or_b, no_b, rv_l, in_i, au_s, li_s, re_s, nx_s, en_l, zi_l, ri_l, tr_nx, tr_rt, tr_bk, tr_ct, tr_exc, tr_ite, rd_c, rd_s, pk_c, pk_f, pk_o, bo_var, bo_lit, op_lit, bo_glob, op_glob, bo_op1, op_op1, bo_op2, op_op2, bo_sl, op_sl, bo_tup, op_tup, bo_lst, op_lst, bo_call, op_call, bo_ite, op_ite, bo_andV, op_andV, bo_orV, op_orV, bo_notV, op_notV, bo_revL, op_revL, bo_comp, op_comp, op_var, op_abs, opR_i, g_var, g_tup, gs_n, gs_c, d_fz, d_ow, a_add, a_sub, a_lt, a_le, a_gt, a_ge, a_max, a_min, a_mul, a_fdiv, a_mod, a_pow, a_addl, a_addt, a_adds, a_mull, a_eqi, a_nei, a_ixl, a_ixt, a1_neg, a1_lenl, a1_lent, a1_lens, a1_listl, a1_listt, a1_tupl, a1_tupt, a1_int, a1_sum, a1_isN, a1_notN, y_int_i, y_bool_i, y_str_i, y_list_i, y_tuple_i, nn_i, y_int_s, y_bool_s, y_str_s, y_list_s, y_tuple_s, nn_s, y_int_b, y_bool_b, y_str_b, y_list_b, y_tuple_b, nn_b, y_int_l, y_bool_l, y_str_l, y_list_l, y_tuple_l, nn_l, y_int_t, y_bool_t, y_str_t, y_list_t, y_tuple_t, nn_t, y_int_n, y_bool_n, y_str_n, y_list_n, y_tuple_n, nn_n, tr_b, tr_i, tr_l, tr_t, a3_l, a3_t, sq_l, sq_t, au_add, au_sub, List.getElem?_cons_zero, List.getElem?_cons_succ, List.set_cons_zero, List.set_cons_succ, Option.map_some, Option.bind_some, if_true, if_false, Bool.false_eq_true, reduceIte, Exs.len, Nat.reduceAdd, Nat.reduceLeDiff, Nat.reduceLT, List.length_cons, List.length_nil, Nat.lt_add_left_iff_pos, Nat.zero_lt_succ, decide_true, decide_false, Bool.not_true, Bool.not_false, List.map_cons, List.map_nil, List.replicate, List.cons_append, List.nil_append, decide_eq_true_eq, Bool.not_eq_true', decide_eq_false_iff_not, Bool.and_eq_true, Bool.or_eq_true, or_self, or_false, false_or, or_true, true_or, and_true, true_and, and_self, not_false_eq_true, not_true_eq_false, ite_self]
      rfl
    · by_cases h2 : room < 1
      · simp only [h2, x_var, x_lit, x_op1, x_op2, x_sl, x_tup, x_lst, x_call, x_ite, x_andV, x_orV, x_notV, x_revL, x_comp, x_n, x_c, t_val, t_and, t_or, t_not, t_yes, i_seq, i_r1, i_r2, i_enum, i_zip, i_rev, s_asg, s_aug, s_app, s_setI, s_expr, s_if, s_whl, s_for, s_ret, s_retV, s_retN, s_brk, s_cont, s_pass, s_raise, s_try, q_n, q_c, b_ok, b_exc, b_bad, b_ite, u_ok, u_exc, u_bad, u_ite, o_some, o_none, q_nx, q_rt, q_bk, q_ct, q_exc, q_bad, q_ite, of_some, f_nx, f_rt, f_exc, f_ite, c_ok, c_exc, c_ite, an_t, an_b, or_b, no_b, rv_l, in_i, au_s, li_s, re_s, nx_s, en_l, zi_l, ri_l, tr_nx, tr_rt, tr_bk, tr_ct, tr_exc, tr_ite, rd_c, rd_s, pk_c, pk_f, pk_o, bo_var, bo_lit, op_lit, bo_glob, op_glob, bo_op1, op_op1, bo_op2, op_op2, bo_sl, op_sl, bo_tup, op_tup, bo_lst, op_lst, bo_call, op_call, bo_ite, op_ite, bo_andV, op_andV, bo_orV, op_orV, bo_notV, op_notV, bo_revL, op_revL, bo_comp, op_comp, op_var, op_abs, opR_i, g_var, g_tup, gs_n, gs_c, d_fz, d_ow, a_add, a_sub, a_lt, a_le, a_gt, a_ge, a_max, a_min, a_mul, a_fdiv, a_mod, a_pow, a_addl, a_addt, a_adds, a_mull, a_eqi, a_nei, a_ixl, a_ixt, a1_neg, a1_lenl, a1_lent, a1_lens, a1_listl, a1_listt, a1_tupl, a1_tupt, a1_int, a1_sum, a1_isN, a1_notN, y_int_i, y_bool_i, y_str_i, y_list_i, y_tuple_i, nn_i, y_int_s, y_bool_s, y_str_s, y_list_s, y_tuple_s, nn_s, y_int_b, y_bool_b, y_str_b, y_list_b, y_tuple_b, nn_b, y_int_l, y_bool_l, y_str_l, y_list_l, y_tuple_l, nn_l, y_int_t, y_bool_t, y_str_t, y_list_t, y_tuple_t, nn_t, y_int_n, y_bool_n, y_str_n, y_list_n, y_tuple_n, nn_n, tr_b, tr_i, tr_l, tr_t, a3_l, a3_t, sq_l, sq_t, au_add, au_sub, List.getElem?_cons_zero, List.getElem?_cons_succ, List.set_cons_zero, List.set_cons_succ, Option.map_some, Option.bind_some, if_true, if_false, Bool.false_eq_true, reduceIte, Exs.len, Nat.reduceAdd, Nat.reduceLeDiff, Nat.reduceLT, List.length_cons, List.length_nil, Nat.lt_add_left_iff_pos, Nat.zero_lt_succ, decide_true, decide_false, Bool.not_true, Bool.not_false, List.map_cons, List.map_nil, List.replicate, List.cons_append, List.nil_append, decide_eq_true_eq, Bool.not_eq_true', decide_eq_false_iff_not, Bool.and_eq_true, Bool.or_eq_true, or_self, or_false, false_or, or_true, true_or, and_true, true_and, and_self, not_false_eq_true, not_true_eq_false, ite_self]
        rfl
      · simp only [h1, h2, x_var, x_lit, x_op1, x_op2, x_sl, x_tup, x_lst, x_call, x_ite, x_andV, x_orV, x_notV, x_revL, x_comp, x_n, x_c, t_val, t_and, t_or, t_not, t_yes, i_seq, i_r1, i_r2, i_enum, i_zip, i_rev, s_asg, s_aug, s_app, s_setI, s_expr, s_if, s_whl, s_for, s_ret, s_retV, s_retN, s_brk, s_cont, s_pass, s_raise, s_try, q_n, q_c, b_ok, b_exc, b_bad, b_ite, u_ok, u_exc, u_bad, u_ite, o_some, o_none, q_nx, q_rt, q_bk, q_ct, q_exc, q_bad, q_ite, of_some, f_nx, f_rt, f_exc, f_ite, c_ok, c_exc, c_ite, an_t, an_b, or_b, no_b, rv_l, in_i, au_s, li_s, re_s, nx_s, en_l, zi_l, ri_l, tr_nx, tr_rt, tr_bk, tr_ct, tr_exc, tr_ite, rd_c, rd_s, pk_c, pk_f, pk_o, bo_var, bo_lit, op_lit, bo_glob, op_glob, bo_op1, op_op1, bo_op2, op_op2, bo_sl, op_sl, bo_tup, op_tup, bo_lst, op_lst, bo_call, op_call, bo_ite, op_ite, bo_andV, op_andV, bo_orV, op_orV, bo_notV, op_notV, bo_revL, op_revL, bo_comp, op_comp, op_var, op_abs, opR_i, g_var, g_tup, gs_n, gs_c, d_fz, d_ow, a_add, a_sub, a_lt, a_le, a_gt, a_ge, a_max, a_min, a_mul, a_fdiv, a_mod, a_pow, a_addl, a_addt, a_adds, a_mull, a_eqi, a_nei, a_ixl, a_ixt, a1_neg, a1_lenl, a1_lent, a1_lens, a1_listl, a1_listt, a1_tupl, a1_tupt, a1_int, a1_sum, a1_isN, a1_notN, y_int_i, y_bool_i, y_str_i, y_list_i, y_tuple_i, nn_i, y_int_s, y_bool_s, y_str_s, y_list_s, y_tuple_s, nn_s, y_int_b, y_bool_b, y_str_b, y_list_b, y_tuple_b, nn_b, y_int_l, y_bool_l, y_str_l, y_list_l, y_tuple_l, nn_l, y_int_t, y_bool_t, y_str_t, y_list_t, y_tuple_t, nn_t, y_int_n, y_bool_n, y_str_n, y_list_n, y_tuple_n, nn_n, tr_b, tr_i, tr_l, tr_t, a3_l, a3_t, sq_l, sq_t, au_add, au_sub, List.getElem?_cons_zero, List.getElem?_cons_succ, List.set_cons_zero, List.set_cons_succ, Option.map_some, Option.bind_some, if_true, if_false, Bool.false_eq_true, reduceIte, Exs.len, Nat.reduceAdd, Nat.reduceLeDiff, Nat.reduceLT, List.length_cons, List.length_nil, Nat.lt_add_left_iff_pos, Nat.zero_lt_succ, decide_true, decide_false, Bool.not_true, Bool.not_false, List.map_cons, List.map_nil, List.replicate, List.cons_append, List.nil_append, decide_eq_true_eq, Bool.not_eq_true', decide_eq_false_iff_not, Bool.and_eq_true, Bool.or_eq_true, or_self, or_false, false_or, or_true, true_or, and_true, true_and, and_self, not_false_eq_true, not_true_eq_false, ite_self]
        rfl
  · rw [if_neg h1]
    have h2 : ¬ room < 1 := fun z => h1 (.inl z)
    have h3 : ¬ 1368 < room := fun z => h1 (.inr z)
    simp only [h2, h3, x_var, x_lit, x_op1, x_op2, x_sl, x_tup, x_lst, x_call, x_ite, x_andV, x_orV, x_notV, x_revL, x_comp, x_n, x_c, t_val, t_and, t_or, t_not, t_yes, i_seq, i_r1, i_r2, i_enum, i_zip, i_rev, s_asg, s_aug, s_app, s_setI, s_expr, s_if, s_whl, s_for, s_ret, s_retV, s_retN, s_brk, s_cont, s_pass, s_raise, s_try, q_n, q_c, b_ok, b_exc, b_bad, b_ite, u_ok, u_exc, u_bad, u_ite, o_some, o_none, q_nx, q_rt, q_bk, q_ct, q_exc, q_bad, q_ite, of_some, f_nx, f_rt, f_exc, f_ite, c_ok, c_exc, c_ite, an_t, an_b, or_b, no_b, rv_l, in_i, au_s, li_s, re_s, nx_s, en_l, zi_l, ri_l, tr_nx, tr_rt, tr_bk, tr_ct, tr_exc, tr_ite, rd_c, rd_s, pk_c, pk_f, pk_o, bo_var, bo_lit, op_lit, bo_glob, op_glob, bo_op1, op_op1, bo_op2, op_op2, bo_sl, op_sl, bo_tup, op_tup, bo_lst, op_lst, bo_call, op_call, bo_ite, op_ite, bo_andV, op_andV, bo_orV, op_orV, bo_notV, op_notV, bo_revL, op_revL, bo_comp, op_comp, op_var, op_abs, opR_i, g_var, g_tup, gs_n, gs_c, d_fz, d_ow, a_add, a_sub, a_lt, a_le, a_gt, a_ge, a_max, a_min, a_mul, a_fdiv, a_mod, a_pow, a_addl, a_addt, a_adds, a_mull, a_eqi, a_nei, a_ixl, a_ixt, a1_neg, a1_lenl, a1_lent, a1_lens, a1_listl, a1_listt, a1_tupl, a1_tupt, a1_int, a1_sum, a1_isN, a1_notN, y_int_i, y_bool_i, y_str_i, y_list_i, y_tuple_i, nn_i, y_int_s, y_bool_s, y_str_s, y_list_s, y_tuple_s, nn_s, y_int_b, y_bool_b, y_str_b, y_list_b, y_tuple_b, nn_b, y_int_l, y_bool_l, y_str_l, y_list_l, y_tuple_l, nn_l, y_int_t, y_bool_t, y_str_t, y_list_t, y_tuple_t, nn_t, y_int_n, y_bool_n, y_str_n, y_list_n, y_tuple_n, nn_n, tr_b, tr_i, tr_l, tr_t, a3_l, a3_t, sq_l, sq_t, au_add, au_sub, List.getElem?_cons_zero, List.getElem?_cons_succ, List.set_cons_zero, List.set_cons_succ, Option.map_some, Option.bind_some, if_true, if_false, Bool.false_eq_true, reduceIte, Exs.len, Nat.reduceAdd, Nat.reduceLeDiff, Nat.reduceLT, List.length_cons, List.length_nil, Nat.lt_add_left_iff_pos, Nat.zero_lt_succ, decide_true, decide_false, Bool.not_true, Bool.not_false, List.map_cons, List.map_nil, List.replicate, List.cons_append, List.nil_append, decide_eq_true_eq, Bool.not_eq_true', decide_eq_false_iff_not, Bool.and_eq_true, Bool.or_eq_true, or_self, or_false, false_or, or_true, true_or, and_true, true_and, and_self, not_false_eq_true, not_true_eq_false, ite_self]
    by_cases h4 : 200 < ns.length
    · have h5 : (200 : Int) < (ns.length : Int) := by omega
      simp only [List.length_map, h5, h4, x_var, x_lit, x_op1, x_op2, x_sl, x_tup, x_lst, x_call, x_ite, x_andV, x_orV, x_notV, x_revL, x_comp, x_n, x_c, t_val, t_and, t_or, t_not, t_yes, i_seq, i_r1, i_r2, i_enum, i_zip, i_rev, s_asg, s_aug, s_app, s_setI, s_expr, s_if, s_whl, s_for, s_ret, s_retV, s_retN, s_brk, s_cont, s_pass, s_raise, s_try, q_n, q_c, b_ok, b_exc, b_bad, b_ite, u_ok, u_exc, u_bad, u_ite, o_some, o_none, q_nx, q_rt, q_bk, q_ct, q_exc, q_bad, q_ite, of_some, f_nx, f_rt, f_exc, f_ite, c_ok, c_exc, c_ite, an_t, an_b, or_b, no_b, rv_l, in_i, au_s, li_s, re_s, nx_s, en_l, zi_l, ri_l, tr_nx, tr_rt, tr_bk, tr_ct, tr_exc, tr_ite, rd_c, rd_s, pk_c, pk_f, pk_o, bo_var, bo_lit, op_lit, bo_glob, op_glob, bo_op1, op_op1, bo_op2, op_op2, bo_sl, op_sl, bo_tup, op_tup, bo_lst, op_lst, bo_call, op_call, bo_ite, op_ite, bo_andV, op_andV, bo_orV, op_orV, bo_notV, op_notV, bo_revL, op_revL, bo_comp, op_comp, op_var, op_abs, opR_i, g_var, g_tup, gs_n, gs_c, d_fz, d_ow, a_add, a_sub, a_lt, a_le, a_gt, a_ge, a_max, a_min, a_mul, a_fdiv, a_mod, a_pow, a_addl, a_addt, a_adds, a_mull, a_eqi, a_nei, a_ixl, a_ixt, a1_neg, a1_lenl, a1_lent, a1_lens, a1_listl, a1_listt, a1_tupl, a1_tupt, a1_int, a1_sum, a1_isN, a1_notN, y_int_i, y_bool_i, y_str_i, y_list_i, y_tuple_i, nn_i, y_int_s, y_bool_s, y_str_s, y_list_s, y_tuple_s, nn_s, y_int_b, y_bool_b, y_str_b, y_list_b, y_tuple_b, nn_b, y_int_l, y_bool_l, y_str_l, y_list_l, y_tuple_l, nn_l, y_int_t, y_bool_t, y_str_t, y_list_t, y_tuple_t, nn_t, y_int_n, y_bool_n, y_str_n, y_list_n, y_tuple_n, nn_n, tr_b, tr_i, tr_l, tr_t, a3_l, a3_t, sq_l, sq_t, au_add, au_sub, List.getElem?_cons_zero, List.getElem?_cons_succ, List.set_cons_zero, List.set_cons_succ, Option.map_some, Option.bind_some, if_true, if_false, Bool.false_eq_true, reduceIte, Exs.len, Nat.reduceAdd, Nat.reduceLeDiff, Nat.reduceLT, List.length_cons, List.length_nil, Nat.lt_add_left_iff_pos, Nat.zero_lt_succ, decide_true, decide_false, Bool.not_true, Bool.not_false, List.map_cons, List.map_nil, List.replicate, List.cons_append, List.nil_append, decide_eq_true_eq, Bool.not_eq_true', decide_eq_false_iff_not, Bool.and_eq_true, Bool.or_eq_true, or_self, or_false, false_or, or_true, true_or, and_true, true_and, and_self, not_false_eq_true, not_true_eq_false, ite_self]
      rfl
    · have h5 : ¬ (200 : Int) < (ns.length : Int) := by omega
      simp only [List.length_map, h5, h4, x_var, x_lit, x_op1, x_op2, x_sl, x_tup, x_lst, x_call, x_ite, x_andV, x_orV, x_notV, x_revL, x_comp, x_n, x_c, t_val, t_and, t_or, t_not, t_yes, i_seq, i_r1, i_r2, i_enum, i_zip, i_rev, s_asg, s_aug, s_app, s_setI, s_expr, s_if, s_whl, s_for, s_ret, s_retV, s_retN, s_brk, s_cont, s_pass, s_raise, s_try, q_n, q_c, b_ok, b_exc, b_bad, b_ite, u_ok, u_exc, u_bad, u_ite, o_some, o_none, q_nx, q_rt, q_bk, q_ct, q_exc, q_bad, q_ite, of_some, f_nx, f_rt, f_exc, f_ite, c_ok, c_exc, c_ite, an_t, an_b, or_b, no_b, rv_l, in_i, au_s, li_s, re_s, nx_s, en_l, zi_l, ri_l, tr_nx, tr_rt, tr_bk, tr_ct, tr_exc, tr_ite, rd_c, rd_s, pk_c, pk_f, pk_o, bo_var, bo_lit, op_lit, bo_glob, op_glob, bo_op1, op_op1, bo_op2, op_op2, bo_sl, op_sl, bo_tup, op_tup, bo_lst, op_lst, bo_call, op_call, bo_ite, op_ite, bo_andV, op_andV, bo_orV, op_orV, bo_notV, op_notV, bo_revL, op_revL, bo_comp, op_comp, op_var, op_abs, opR_i, g_var, g_tup, gs_n, gs_c, d_fz, d_ow, a_add, a_sub, a_lt, a_le, a_gt, a_ge, a_max, a_min, a_mul, a_fdiv, a_mod, a_pow, a_addl, a_addt, a_adds, a_mull, a_eqi, a_nei, a_ixl, a_ixt, a1_neg, a1_lenl, a1_lent, a1_lens, a1_listl, a1_listt, a1_tupl, a1_tupt, a1_int, a1_sum, a1_isN, a1_notN, y_int_i, y_bool_i, y_str_i, y_list_i, y_tuple_i, nn_i, y_int_s, y_bool_s, y_str_s, y_list_s, y_tuple_s, nn_s, y_int_b, y_bool_b, y_str_b, y_list_b, y_tuple_b, nn_b, y_int_l, y_bool_l, y_str_l, y_list_l, y_tuple_l, nn_l, y_int_t, y_bool_t, y_str_t, y_list_t, y_tuple_t, nn_t, y_int_n, y_bool_n, y_str_n, y_list_n, y_tuple_n, nn_n, tr_b, tr_i, tr_l, tr_t, a3_l, a3_t, sq_l, sq_t, au_add, au_sub, List.getElem?_cons_zero, List.getElem?_cons_succ, List.set_cons_zero, List.set_cons_succ, Option.map_some, Option.bind_some, if_true, if_false, Bool.false_eq_true, reduceIte, Exs.len, Nat.reduceAdd, Nat.reduceLeDiff, Nat.reduceLT, List.length_cons, List.length_nil, Nat.lt_add_left_iff_pos, Nat.zero_lt_succ, decide_true, decide_false, Bool.not_true, Bool.not_false, List.map_cons, List.map_nil, List.replicate, List.cons_append, List.nil_append, decide_eq_true_eq, Bool.not_eq_true', decide_eq_false_iff_not, Bool.and_eq_true, Bool.or_eq_true, or_self, or_false, false_or, or_true, true_or, and_true, true_and, and_self, not_false_eq_true, not_true_eq_false, ite_self]
      rw [forL_x (E := fun (s : Option Cell) => [some (.fz (.list (ns.map .int))), some (.fz (.int room)), s]) (f := PyData.int) (step := fun s x => if x < 1 ∨ room < x then .inr (.exc ⟨1, [.int x]⟩ [some (.fz (.list (ns.map .int))), some (.fz (.int room)), some (.fz (.int x))]) else .inl (some (.fz (.int x)))) (fun _ => True)
        (fun s x _ => ⟨_, rfl, by
          by_cases h : x < 1 ∨ room < x
          · rw [if_pos h]
            rcases h with h | h
            · simp only [h, x_var, x_lit, x_op1, x_op2, x_sl, x_tup, x_lst, x_call, x_ite, x_andV, x_orV, x_notV, x_revL, x_comp, x_n, x_c, t_val, t_and, t_or, t_not, t_yes, i_seq, i_r1, i_r2, i_enum, i_zip, i_rev, s_asg, s_aug, s_app, s_setI, s_expr, s_if, s_whl, s_for, s_ret, s_retV, s_retN, s_brk, s_cont, s_pass, s_raise, s_try, q_n, q_c, b_ok, b_exc, b_bad, b_ite, u_ok, u_exc, u_bad, u_ite, o_some, o_none, q_nx, q_rt, q_bk, q_ct, q_exc, q_bad, q_ite, of_some, f_nx, f_rt, f_exc, f_ite, c_ok, c_exc, c_ite, an_t, an_b, or_b, no_b, rv_l, in_i, au_s, li_s, re_s, nx_s, en_l, zi_l, ri_l, tr_nx, tr_rt, tr_bk, tr_ct, tr_exc, tr_ite, rd_c, rd_s, pk_c, pk_f, pk_o, bo_var, bo_lit, op_lit, bo_glob, op_glob, bo_op1, op_op1, bo_op2, op_op2, bo_sl, op_sl, bo_tup, op_tup, bo_lst, op_lst, bo_call, op_call, bo_ite, op_ite, bo_andV, op_andV, bo_orV, op_orV, bo_notV, op_notV, bo_revL, op_revL, bo_comp, op_comp, op_var, op_abs, opR_i, g_var, g_tup, gs_n, gs_c, d_fz, d_ow, a_add, a_sub, a_lt, a_le, a_gt, a_ge, a_max, a_min, a_mul, a_fdiv, a_mod, a_pow, a_addl, a_addt, a_adds, a_mull, a_eqi, a_nei, a_ixl, a_ixt, a1_neg, a1_lenl, a1_lent, a1_lens, a1_listl, a1_listt, a1_tupl, a1_tupt, a1_int, a1_sum, a1_isN, a1_notN, y_int_i, y_bool_i, y_str_i, y_list_i, y_tuple_i, nn_i, y_int_s, y_bool_s, y_str_s, y_list_s, y_tuple_s, nn_s, y_int_b, y_bool_b, y_str_b, y_list_b, y_tuple_b, nn_b, y_int_l, y_bool_l, y_str_l, y_list_l, y_tuple_l, nn_l, y_int_t, y_bool_t, y_str_t, y_list_t, y_tuple_t, nn_t, y_int_n, y_bool_n, y_str_n, y_list_n, y_tuple_n, nn_n, tr_b, tr_i, tr_l, tr_t, a3_l, a3_t, sq_l, sq_t, au_add, au_sub, List.getElem?_cons_zero, List.getElem?_cons_succ, List.set_cons_zero, List.set_cons_succ, Option.map_some, Option.bind_some, if_true, if_false, Bool.false_eq_true, reduceIte, Exs.len, Nat.reduceAdd, Nat.reduceLeDiff, Nat.reduceLT, List.length_cons, List.length_nil, Nat.lt_add_left_iff_pos, Nat.zero_lt_succ, decide_true, decide_false, Bool.not_true, Bool.not_false, List.map_cons, List.map_nil, List.replicate, List.cons_append, List.nil_append, decide_eq_true_eq, Bool.not_eq_true', decide_eq_false_iff_not, Bool.and_eq_true, Bool.or_eq_true, or_self, or_false, false_or, or_true, true_or, and_true, true_and, and_self, not_false_eq_true, not_true_eq_false, ite_self, Out.ends]
            · by_cases h' : x < 1
              · simp only [h', x_var, x_lit, x_op1, x_op2, x_sl, x_tup, x_lst, x_call, x_ite, x_andV, x_orV, x_notV, x_revL, x_comp, x_n, x_c, t_val, t_and, t_or, t_not, t_yes, i_seq, i_r1, i_r2, i_enum, i_zip, i_rev, s_asg, s_aug, s_app, s_setI, s_expr, s_if, s_whl, s_for, s_ret, s_retV, s_retN, s_brk, s_cont, s_pass, s_raise, s_try, q_n, q_c, b_ok, b_exc, b_bad, b_ite, u_ok, u_exc, u_bad, u_ite, o_some, o_none, q_nx, q_rt, q_bk, q_ct, q_exc, q_bad, q_ite, of_some, f_nx, f_rt, f_exc, f_ite, c_ok, c_exc, c_ite, an_t, an_b, or_b, no_b, rv_l, in_i, au_s, li_s, re_s, nx_s, en_l, zi_l, ri_l, tr_nx, tr_rt, tr_bk, tr_ct, tr_exc, tr_ite, rd_c, rd_s, pk_c, pk_f, pk_o, bo_var, bo_lit, op_lit, bo_glob, op_glob, bo_op1, op_op1, bo_op2, op_op2, bo_sl, op_sl, bo_tup, op_tup, bo_lst, op_lst, bo_call, op_call, bo_ite, op_ite, bo_andV, op_andV, bo_orV, op_orV, bo_notV, op_notV, bo_revL, op_revL, bo_comp, op_comp, op_var, op_abs, opR_i, g_var, g_tup, gs_n, gs_c, d_fz, d_ow, a_add, a_sub, a_lt, a_le, a_gt, a_ge, a_max, a_min, a_mul, a_fdiv, a_mod, a_pow, a_addl, a_addt, a_adds, a_mull, a_eqi, a_nei, a_ixl, a_ixt, a1_neg, a1_lenl, a1_lent, a1_lens, a1_listl, a1_listt, a1_tupl, a1_tupt, a1_int, a1_sum, a1_isN, a1_notN, y_int_i, y_bool_i, y_str_i, y_list_i, y_tuple_i, nn_i, y_int_s, y_bool_s, y_str_s, y_list_s, y_tuple_s, nn_s, y_int_b, y_bool_b, y_str_b, y_list_b, y_tuple_b, nn_b, y_int_l, y_bool_l, y_str_l, y_list_l, y_tuple_l, nn_l, y_int_t, y_bool_t, y_str_t, y_list_t, y_tuple_t, nn_t, y_int_n, y_bool_n, y_str_n, y_list_n, y_tuple_n, nn_n, tr_b, tr_i, tr_l, tr_t, a3_l, a3_t, sq_l, sq_t, au_add, au_sub, List.getElem?_cons_zero, List.getElem?_cons_succ, List.set_cons_zero, List.set_cons_succ, Option.map_some, Option.bind_some, if_true, if_false, Bool.false_eq_true, reduceIte, Exs.len, Nat.reduceAdd, Nat.reduceLeDiff, Nat.reduceLT, List.length_cons, List.length_nil, Nat.lt_add_left_iff_pos, Nat.zero_lt_succ, decide_true, decide_false, Bool.not_true, Bool.not_false, List.map_cons, List.map_nil, List.replicate, List.cons_append, List.nil_append, decide_eq_true_eq, Bool.not_eq_true', decide_eq_false_iff_not, Bool.and_eq_true, Bool.or_eq_true, or_self, or_false, false_or, or_true, true_or, and_true, true_and, and_self, not_false_eq_true, not_true_eq_false, ite_self, Out.ends]
              · simp only [h', h, x_var, x_lit, x_op1, x_op2, x_sl, x_tup, x_lst, x_call, x_ite, x_andV, x_orV, x_notV, x_revL, x_comp, x_n, x_c, t_val, t_and, t_or, t_not, t_yes, i_seq, i_r1, i_r2, i_enum, i_zip, i_rev, s_asg, s_aug, s_app, s_setI, s_expr, s_if, s_whl, s_for, s_ret, s_retV, s_retN, s_brk, s_cont, s_pass, s_raise, s_try, q_n, q_c, b_ok, b_exc, b_bad, b_ite, u_ok, u_exc, u_bad, u_ite, o_some, o_none, q_nx, q_rt, q_bk, q_ct, q_exc, q_bad, q_ite, of_some, f_nx, f_rt, f_exc, f_ite, c_ok, c_exc, c_ite, an_t, an_b, or_b, no_b, rv_l, in_i, au_s, li_s, re_s, nx_s, en_l, zi_l, ri_l, tr_nx, tr_rt, tr_bk, tr_ct, tr_exc, tr_ite, rd_c, rd_s, pk_c, pk_f, pk_o, bo_var, bo_lit, op_lit, bo_glob, op_glob, bo_op1, op_op1, bo_op2, op_op2, bo_sl, op_sl, bo_tup, op_tup, bo_lst, op_lst, bo_call, op_call, bo_ite, op_ite, bo_andV, op_andV, bo_orV, op_orV, bo_notV, op_notV, bo_revL, op_revL, bo_comp, op_comp, op_var, op_abs, opR_i, g_var, g_tup, gs_n, gs_c, d_fz, d_ow, a_add, a_sub, a_lt, a_le, a_gt, a_ge, a_max, a_min, a_mul, a_fdiv, a_mod, a_pow, a_addl, a_addt, a_adds, a_mull, a_eqi, a_nei, a_ixl, a_ixt, a1_neg, a1_lenl, a1_lent, a1_lens, a1_listl, a1_listt, a1_tupl, a1_tupt, a1_int, a1_sum, a1_isN, a1_notN, y_int_i, y_bool_i, y_str_i, y_list_i, y_tuple_i, nn_i, y_int_s, y_bool_s, y_str_s, y_list_s, y_tuple_s, nn_s, y_int_b, y_bool_b, y_str_b, y_list_b, y_tuple_b, nn_b, y_int_l, y_bool_l, y_str_l, y_list_l, y_tuple_l, nn_l, y_int_t, y_bool_t, y_str_t, y_list_t, y_tuple_t, nn_t, y_int_n, y_bool_n, y_str_n, y_list_n, y_tuple_n, nn_n, tr_b, tr_i, tr_l, tr_t, a3_l, a3_t, sq_l, sq_t, au_add, au_sub, List.getElem?_cons_zero, List.getElem?_cons_succ, List.set_cons_zero, List.set_cons_succ, Option.map_some, Option.bind_some, if_true, if_false, Bool.false_eq_true, reduceIte, Exs.len, Nat.reduceAdd, Nat.reduceLeDiff, Nat.reduceLT, List.length_cons, List.length_nil, Nat.lt_add_left_iff_pos, Nat.zero_lt_succ, decide_true, decide_false, Bool.not_true, Bool.not_false, List.map_cons, List.map_nil, List.replicate, List.cons_append, List.nil_append, decide_eq_true_eq, Bool.not_eq_true', decide_eq_false_iff_not, Bool.and_eq_true, Bool.or_eq_true, or_self, or_false, false_or, or_true, true_or, and_true, true_and, and_self, not_false_eq_true, not_true_eq_false, ite_self, Out.ends]
          · rw [if_neg h]
            have g1 : ¬ x < 1 := fun z => h (.inl z)
            have g2 : ¬ room < x := fun z => h (.inr z)
            simp only [g1, g2, x_var, x_lit, x_op1, x_op2, x_sl, x_tup, x_lst, x_call, x_ite, x_andV, x_orV, x_notV, x_revL, x_comp, x_n, x_c, t_val, t_and, t_or, t_not, t_yes, i_seq, i_r1, i_r2, i_enum, i_zip, i_rev, s_asg, s_aug, s_app, s_setI, s_expr, s_if, s_whl, s_for, s_ret, s_retV, s_retN, s_brk, s_cont, s_pass, s_raise, s_try, q_n, q_c, b_ok, b_exc, b_bad, b_ite, u_ok, u_exc, u_bad, u_ite, o_some, o_none, q_nx, q_rt, q_bk, q_ct, q_exc, q_bad, q_ite, of_some, f_nx, f_rt, f_exc, f_ite, c_ok, c_exc, c_ite, an_t, an_b, or_b, no_b, rv_l, in_i, au_s, li_s, re_s, nx_s, en_l, zi_l, ri_l, tr_nx, tr_rt, tr_bk, tr_ct, tr_exc, tr_ite, rd_c, rd_s, pk_c, pk_f, pk_o, bo_var, bo_lit, op_lit, bo_glob, op_glob, bo_op1, op_op1, bo_op2, op_op2, bo_sl, op_sl, bo_tup, op_tup, bo_lst, op_lst, bo_call, op_call, bo_ite, op_ite, bo_andV, op_andV, bo_orV, op_orV, bo_notV, op_notV, bo_revL, op_revL, bo_comp, op_comp, op_var, op_abs, opR_i, g_var, g_tup, gs_n, gs_c, d_fz, d_ow, a_add, a_sub, a_lt, a_le, a_gt, a_ge, a_max, a_min, a_mul, a_fdiv, a_mod, a_pow, a_addl, a_addt, a_adds, a_mull, a_eqi, a_nei, a_ixl, a_ixt, a1_neg, a1_lenl, a1_lent, a1_lens, a1_listl, a1_listt, a1_tupl, a1_tupt, a1_int, a1_sum, a1_isN, a1_notN, y_int_i, y_bool_i, y_str_i, y_list_i, y_tuple_i, nn_i, y_int_s, y_bool_s, y_str_s, y_list_s, y_tuple_s, nn_s, y_int_b, y_bool_b, y_str_b, y_list_b, y_tuple_b, nn_b, y_int_l, y_bool_l, y_str_l, y_list_l, y_tuple_l, nn_l, y_int_t, y_bool_t, y_str_t, y_list_t, y_tuple_t, nn_t, y_int_n, y_bool_n, y_str_n, y_list_n, y_tuple_n, nn_n, tr_b, tr_i, tr_l, tr_t, a3_l, a3_t, sq_l, sq_t, au_add, au_sub, List.getElem?_cons_zero, List.getElem?_cons_succ, List.set_cons_zero, List.set_cons_succ, Option.map_some, Option.bind_some, if_true, if_false, Bool.false_eq_true, reduceIte, Exs.len, Nat.reduceAdd, Nat.reduceLeDiff, Nat.reduceLT, List.length_cons, List.length_nil, Nat.lt_add_left_iff_pos, Nat.zero_lt_succ, decide_true, decide_false, Bool.not_true, Bool.not_false, List.map_cons, List.map_nil, List.replicate, List.cons_append, List.nil_append, decide_eq_true_eq, Bool.not_eq_true', decide_eq_false_iff_not, Bool.and_eq_true, Bool.or_eq_true, or_self, or_false, false_or, or_true, true_or, and_true, true_and, and_self, not_false_eq_true, not_true_eq_false, ite_self]⟩) ns none trivial]
      have key : ∀ (xs : List Int) (z : Option Cell), (∃ z', foldX (fun (s : Option Cell) x => if x < 1 ∨ room < x then .inr (.exc ⟨1, [.int x]⟩ [some (.fz (.list (ns.map .int))), some (.fz (.int room)), some (.fz (.int x))]) else .inl (some (.fz (.int x)))) z xs = match xs.find? (fun s => decide (s < 1 ∨ room < s)) with
          | some s => .inr (.exc ⟨1, [.int s]⟩ z')
          | none => .inl (z'.getD 2 none)) := by
        intro xs
        induction xs with
        | nil => intro z; exact ⟨[none, none, z], rfl⟩
        | cons x xs ih =>
          intro z
          by_cases h : x < 1 ∨ room < x
          · refine ⟨[some (.fz (.list (ns.map .int))), some (.fz (.int room)), some (.fz (.int x))], ?_⟩
            rw [List.find?_cons, decide_eq_true h]
            simp only [foldX, if_pos h]
          · obtain ⟨z', e⟩ := ih (some (.fz (.int x)))
            refine ⟨z', ?_⟩
            rw [List.find?_cons, decide_eq_false h]
            simp only [foldX, if_neg h, e]
      obtain ⟨z', e⟩ := key ns none
      rw [e]
      cases ns.find? (fun s => decide (s < 1 ∨ room < s)) with
      | some s => rfl
      | none => rfl
end PD.K55

end

section
set_option Elab.async false
set_option linter.all false
set_option maxRecDepth 100000
namespace PD.K55
open PySem
theorem ix_int (ns : List Int) (i : Nat) (h : i < ns.length) : L2.atI (ns.map PyData.int) (i : Int) = some (.int (ns.getD i 0)) := by
  rw [atI_nat _ i (by simpa using h)]
  simp [List.getD, h]
/-- how many more fit on -/
def tf (room : Int) : Int → List Int → Nat
  | _, [] => 0
  | used, x :: xs => if used + x ≤ room then tf room (used + x) xs + 1 else 0
theorem tf_le (room : Int) : ∀ (xs : List Int) (u : Int), tf room u xs ≤ xs.length
  | [], _ => Nat.le_refl _
  | x :: xs, u => by
    unfold tf
    split
    · have := tf_le room xs (u + x)
      simp
      omega
    · simp
theorem r_end (n : Nat) (ns : List Int) (room : Int) (start : Nat) (hs : start ≤ ns.length) (hl : ns.length ≤ 100000) : runF cfg (n + 1) 1 [il ns, .int room, .int start] = .ok (.fz (.int ((start + tf room 0 (ns.drop start) : Nat) : Int))) := by
  rw [run_at (show cfg.funs[1]? = some f_carrier_end from rfl) rfl]
  simp only [f_carrier_end, il, x_var, x_lit, x_op1, x_op2, x_sl, x_tup, x_lst, x_call, x_ite, x_andV, x_orV, x_notV, x_revL, x_comp, x_n, x_c, t_val, t_and, t_or, t_not, t_yes, i_seq, i_r1, i_r2, i_enum, i_zip, i_rev, s_asg, s_aug, s_app, s_setI, s_expr, s_if, s_whl, s_for, s_ret, s_retV, s_retN, s_brk, s_cont, s_pass, s_raise, s_try, q_n, q_c, b_ok, b_exc, b_bad, b_ite, u_ok, u_exc, u_bad, u_ite, o_some, o_none, q_nx, q_rt, q_bk, q_ct, q_exc, q_bad, q_ite, of_some, f_nx, f_rt, f_exc, f_ite, c_ok, c_exc, c_ite, an_t, an_b, or_b, no_b, rv_l, in_i, au_s, li_s, re_s, nx_s, en_l, zi_l, ri_l, tr_nx, tr_rt, tr_bk, tr_ct, tr_exc, tr_ite, rd_c, rd_s, pk_c, pk_f, pk_o, bo_var, bo_lit, op_lit, bo_glob, op_glob, bo_op1, op_op1, bo_op2, op_op2, bo_sl, op_sl, bo_tup, op_tup, bo_lst, op_lst, bo_call, op_call, bo_ite, op_ite, bo_andV, op_andV, bo_orV, op_orV, bo_notV, op_notV, bo_revL, op_revL, bo_comp, op_comp, op_var, op_abs, opR_i, g_var, g_tup, gs_n, gs_c, d_fz, d_ow, a_add, a_sub, a_lt, a_le, a_gt, a_ge, a_max, a_min, a_mul, a_fdiv, a_mod, a_pow, a_addl, a_addt, a_adds, a_mull, a_eqi, a_nei, a_ixl, a_ixt, a1_neg, a1_lenl, a1_lent, a1_lens, a1_listl, a1_listt, a1_tupl, a1_tupt, a1_int, a1_sum, a1_isN, a1_notN, y_int_i, y_bool_i, y_str_i, y_list_i, y_tuple_i, nn_i, y_int_s, y_bool_s, y_str_s, y_list_s, y_tuple_s, nn_s, y_int_b, y_bool_b, y_str_b, y_list_b, y_tuple_b, nn_b, y_int_l, y_bool_l, y_str_l, y_list_l, y_tuple_l, nn_l, y_int_t, y_bool_t, y_str_t, y_list_t, y_tuple_t, nn_t, y_int_n, y_bool_n, y_str_n, y_list_n, y_tuple_n, nn_n, tr_b, tr_i, tr_l, tr_t, a3_l, a3_t, sq_l, sq_t, au_add, au_sub, List.getElem?_cons_zero, List.getElem?_cons_succ, List.set_cons_zero, List.set_cons_succ, Option.map_some, Option.bind_some, if_true, if_false, Bool.false_eq_true, reduceIte, Exs.len, Nat.reduceAdd, Nat.reduceLeDiff, Nat.reduceLT, List.length_cons, List.length_nil, Nat.lt_add_left_iff_pos, Nat.zero_lt_succ, decide_true, decide_false, Bool.not_true, Bool.not_false, List.map_cons, List.map_nil, List.replicate, List.cons_append, List.nil_append, decide_eq_true_eq, Bool.not_eq_true', decide_eq_false_iff_not, Bool.and_eq_true, Bool.or_eq_true, or_self, or_false, false_or, or_true, true_or, and_true, true_and, and_self, not_false_eq_true, not_true_eq_false, ite_self, whlR]
  refine Exists.elim (whl_n (c := evT ⟨runF cfg n, cfg.consts⟩ (Te.and (Te.val (Ex.op2 O2.lt (Ex.var 4) (Ex.op1 O1.len (Ex.var 0)))) (Te.val (Ex.op2 O2.le (Ex.op2 O2.add (Ex.var 3) (Ex.op2 O2.ix (Ex.var 0) (Ex.var 4))) (Ex.var 1)))))
    (b := exSs ⟨runF cfg n, cfg.consts⟩ (ISs.c (IS.asg (Tg.var 3) (Ex.op2 O2.add (Ex.var 3) (Ex.op2 O2.ix (Ex.var 0) (Ex.var 4)))) (ISs.c (IS.aug 4 O2.add (Ex.lit (PyData.int 1))) ISs.n)))
    (E := fun (s : Int × Nat) => [some (.fz (.list (ns.map .int))), some (.fz (.int room)), some (.fz (.int start)), some (.fz (.int s.1)), some (.fz (.int (s.2 : Int)))])
    (cond := fun s => decide (s.2 < ns.length ∧ s.1 + ns.getD s.2 0 ≤ room)) (step := fun s => (s.1 + ns.getD s.2 0, s.2 + 1))
    (fun s => s.2 ≤ ns.length ∧ s.2 + tf room s.1 (ns.drop s.2) = start + tf room 0 (ns.drop start)) (fun s => ns.length - s.2) (fun s hp => ?_) (fun s hp hc => ?_) fuelW (0, start) ⟨hs, rfl⟩ (by show ns.length - start < 1000000000; omega)) fun s' hh => ?_
  rotate_left 2
  · obtain ⟨e1, ⟨e2, e3⟩, e4⟩ := hh
    rw [e1]
    simp only [x_var, x_lit, x_op1, x_op2, x_sl, x_tup, x_lst, x_call, x_ite, x_andV, x_orV, x_notV, x_revL, x_comp, x_n, x_c, t_val, t_and, t_or, t_not, t_yes, i_seq, i_r1, i_r2, i_enum, i_zip, i_rev, s_asg, s_aug, s_app, s_setI, s_expr, s_if, s_whl, s_for, s_ret, s_retV, s_retN, s_brk, s_cont, s_pass, s_raise, s_try, q_n, q_c, b_ok, b_exc, b_bad, b_ite, u_ok, u_exc, u_bad, u_ite, o_some, o_none, q_nx, q_rt, q_bk, q_ct, q_exc, q_bad, q_ite, of_some, f_nx, f_rt, f_exc, f_ite, c_ok, c_exc, c_ite, an_t, an_b, or_b, no_b, rv_l, in_i, au_s, li_s, re_s, nx_s, en_l, zi_l, ri_l, tr_nx, tr_rt, tr_bk, tr_ct, tr_exc, tr_ite, rd_c, rd_s, pk_c, pk_f, pk_o, bo_var, bo_lit, op_lit, bo_glob, op_glob, bo_op1, op_op1, bo_op2, op_op2, bo_sl, op_sl, bo_tup, op_tup, bo_lst, op_lst, bo_call, op_call, bo_ite, op_ite, bo_andV, op_andV, bo_orV, op_orV, bo_notV, op_notV, bo_revL, op_revL, bo_comp, op_comp, op_var, op_abs, opR_i, g_var, g_tup, gs_n, gs_c, d_fz, d_ow, a_add, a_sub, a_lt, a_le, a_gt, a_ge, a_max, a_min, a_mul, a_fdiv, a_mod, a_pow, a_addl, a_addt, a_adds, a_mull, a_eqi, a_nei, a_ixl, a_ixt, a1_neg, a1_lenl, a1_lent, a1_lens, a1_listl, a1_listt, a1_tupl, a1_tupt, a1_int, a1_sum, a1_isN, a1_notN, y_int_i, y_bool_i, y_str_i, y_list_i, y_tuple_i, nn_i, y_int_s, y_bool_s, y_str_s, y_list_s, y_tuple_s, nn_s, y_int_b, y_bool_b, y_str_b, y_list_b, y_tuple_b, nn_b, y_int_l, y_bool_l, y_str_l, y_list_l, y_tuple_l, nn_l, y_int_t, y_bool_t, y_str_t, y_list_t, y_tuple_t, nn_t, y_int_n, y_bool_n, y_str_n, y_list_n, y_tuple_n, nn_n, tr_b, tr_i, tr_l, tr_t, a3_l, a3_t, sq_l, sq_t, au_add, au_sub, List.getElem?_cons_zero, List.getElem?_cons_succ, List.set_cons_zero, List.set_cons_succ, Option.map_some, Option.bind_some, if_true, if_false, Bool.false_eq_true, reduceIte, Exs.len, Nat.reduceAdd, Nat.reduceLeDiff, Nat.reduceLT, List.length_cons, List.length_nil, Nat.lt_add_left_iff_pos, Nat.zero_lt_succ, decide_true, decide_false, Bool.not_true, Bool.not_false, List.map_cons, List.map_nil, List.replicate, List.cons_append, List.nil_append, decide_eq_true_eq, Bool.not_eq_true', decide_eq_false_iff_not, Bool.and_eq_true, Bool.or_eq_true, or_self, or_false, false_or, or_true, true_or, and_true, true_and, and_self, not_false_eq_true, not_true_eq_false, ite_self]
    have e5 : ¬ (s'.2 < ns.length ∧ s'.1 + ns.getD s'.2 0 ≤ room) := of_decide_eq_false e4
    have e6 : tf room s'.1 (ns.drop s'.2) = 0 := by
      by_cases h : s'.2 < ns.length
      · rw [List.drop_eq_getElem_cons h]
        unfold tf
        rw [if_neg]
        intro z
        exact e5 ⟨h, by simpa [List.getD, h] using z⟩
      · rw [List.drop_eq_nil_of_le (by omega)]
        rfl
    rw [← e3, e6]
    rfl
  · by_cases h : s.2 < ns.length
    · have h' : (s.2 : Int) < (ns.length : Int) := by omega
      simp only [x_var, x_lit, x_op1, x_op2, x_sl, x_tup, x_lst, x_call, x_ite, x_andV, x_orV, x_notV, x_revL, x_comp, x_n, x_c, t_val, t_and, t_or, t_not, t_yes, i_seq, i_r1, i_r2, i_enum, i_zip, i_rev, s_asg, s_aug, s_app, s_setI, s_expr, s_if, s_whl, s_for, s_ret, s_retV, s_retN, s_brk, s_cont, s_pass, s_raise, s_try, q_n, q_c, b_ok, b_exc, b_bad, b_ite, u_ok, u_exc, u_bad, u_ite, o_some, o_none, q_nx, q_rt, q_bk, q_ct, q_exc, q_bad, q_ite, of_some, f_nx, f_rt, f_exc, f_ite, c_ok, c_exc, c_ite, an_t, an_b, or_b, no_b, rv_l, in_i, au_s, li_s, re_s, nx_s, en_l, zi_l, ri_l, tr_nx, tr_rt, tr_bk, tr_ct, tr_exc, tr_ite, rd_c, rd_s, pk_c, pk_f, pk_o, bo_var, bo_lit, op_lit, bo_glob, op_glob, bo_op1, op_op1, bo_op2, op_op2, bo_sl, op_sl, bo_tup, op_tup, bo_lst, op_lst, bo_call, op_call, bo_ite, op_ite, bo_andV, op_andV, bo_orV, op_orV, bo_notV, op_notV, bo_revL, op_revL, bo_comp, op_comp, op_var, op_abs, opR_i, g_var, g_tup, gs_n, gs_c, d_fz, d_ow, a_add, a_sub, a_lt, a_le, a_gt, a_ge, a_max, a_min, a_mul, a_fdiv, a_mod, a_pow, a_addl, a_addt, a_adds, a_mull, a_eqi, a_nei, a_ixl, a_ixt, a1_neg, a1_lenl, a1_lent, a1_lens, a1_listl, a1_listt, a1_tupl, a1_tupt, a1_int, a1_sum, a1_isN, a1_notN, y_int_i, y_bool_i, y_str_i, y_list_i, y_tuple_i, nn_i, y_int_s, y_bool_s, y_str_s, y_list_s, y_tuple_s, nn_s, y_int_b, y_bool_b, y_str_b, y_list_b, y_tuple_b, nn_b, y_int_l, y_bool_l, y_str_l, y_list_l, y_tuple_l, nn_l, y_int_t, y_bool_t, y_str_t, y_list_t, y_tuple_t, nn_t, y_int_n, y_bool_n, y_str_n, y_list_n, y_tuple_n, nn_n, tr_b, tr_i, tr_l, tr_t, a3_l, a3_t, sq_l, sq_t, au_add, au_sub, List.getElem?_cons_zero, List.getElem?_cons_succ, List.set_cons_zero, List.set_cons_succ, Option.map_some, Option.bind_some, if_true, if_false, Bool.false_eq_true, reduceIte, Exs.len, Nat.reduceAdd, Nat.reduceLeDiff, Nat.reduceLT, List.length_cons, List.length_nil, Nat.lt_add_left_iff_pos, Nat.zero_lt_succ, decide_true, decide_false, Bool.not_true, Bool.not_false, List.map_cons, List.map_nil, List.replicate, List.cons_append, List.nil_append, decide_eq_true_eq, Bool.not_eq_true', decide_eq_false_iff_not, Bool.and_eq_true, Bool.or_eq_true, or_self, or_false, false_or, or_true, true_or, and_true, true_and, and_self, not_false_eq_true, not_true_eq_false, ite_self, List.length_map, h', ix_int ns s.2 h, h]
    · have h' : ¬ (s.2 : Int) < (ns.length : Int) := by omega
      simp only [x_var, x_lit, x_op1, x_op2, x_sl, x_tup, x_lst, x_call, x_ite, x_andV, x_orV, x_notV, x_revL, x_comp, x_n, x_c, t_val, t_and, t_or, t_not, t_yes, i_seq, i_r1, i_r2, i_enum, i_zip, i_rev, s_asg, s_aug, s_app, s_setI, s_expr, s_if, s_whl, s_for, s_ret, s_retV, s_retN, s_brk, s_cont, s_pass, s_raise, s_try, q_n, q_c, b_ok, b_exc, b_bad, b_ite, u_ok, u_exc, u_bad, u_ite, o_some, o_none, q_nx, q_rt, q_bk, q_ct, q_exc, q_bad, q_ite, of_some, f_nx, f_rt, f_exc, f_ite, c_ok, c_exc, c_ite, an_t, an_b, or_b, no_b, rv_l, in_i, au_s, li_s, re_s, nx_s, en_l, zi_l, ri_l, tr_nx, tr_rt, tr_bk, tr_ct, tr_exc, tr_ite, rd_c, rd_s, pk_c, pk_f, pk_o, bo_var, bo_lit, op_lit, bo_glob, op_glob, bo_op1, op_op1, bo_op2, op_op2, bo_sl, op_sl, bo_tup, op_tup, bo_lst, op_lst, bo_call, op_call, bo_ite, op_ite, bo_andV, op_andV, bo_orV, op_orV, bo_notV, op_notV, bo_revL, op_revL, bo_comp, op_comp, op_var, op_abs, opR_i, g_var, g_tup, gs_n, gs_c, d_fz, d_ow, a_add, a_sub, a_lt, a_le, a_gt, a_ge, a_max, a_min, a_mul, a_fdiv, a_mod, a_pow, a_addl, a_addt, a_adds, a_mull, a_eqi, a_nei, a_ixl, a_ixt, a1_neg, a1_lenl, a1_lent, a1_lens, a1_listl, a1_listt, a1_tupl, a1_tupt, a1_int, a1_sum, a1_isN, a1_notN, y_int_i, y_bool_i, y_str_i, y_list_i, y_tuple_i, nn_i, y_int_s, y_bool_s, y_str_s, y_list_s, y_tuple_s, nn_s, y_int_b, y_bool_b, y_str_b, y_list_b, y_tuple_b, nn_b, y_int_l, y_bool_l, y_str_l, y_list_l, y_tuple_l, nn_l, y_int_t, y_bool_t, y_str_t, y_list_t, y_tuple_t, nn_t, y_int_n, y_bool_n, y_str_n, y_list_n, y_tuple_n, nn_n, tr_b, tr_i, tr_l, tr_t, a3_l, a3_t, sq_l, sq_t, au_add, au_sub, List.getElem?_cons_zero, List.getElem?_cons_succ, List.set_cons_zero, List.set_cons_succ, Option.map_some, Option.bind_some, if_true, if_false, Bool.false_eq_true, reduceIte, Exs.len, Nat.reduceAdd, Nat.reduceLeDiff, Nat.reduceLT, List.length_cons, List.length_nil, Nat.lt_add_left_iff_pos, Nat.zero_lt_succ, decide_true, decide_false, Bool.not_true, Bool.not_false, List.map_cons, List.map_nil, List.replicate, List.cons_append, List.nil_append, decide_eq_true_eq, Bool.not_eq_true', decide_eq_false_iff_not, Bool.and_eq_true, Bool.or_eq_true, or_self, or_false, false_or, or_true, true_or, and_true, true_and, and_self, not_false_eq_true, not_true_eq_false, ite_self, List.length_map, h', h, false_and]
  · obtain ⟨c1, c2⟩ := of_decide_eq_true hc
    refine ⟨?_, ⟨by show s.2 + 1 ≤ _; omega, ?_⟩, by show ns.length - (s.2 + 1) < _; omega⟩
    · simp only [x_var, x_lit, x_op1, x_op2, x_sl, x_tup, x_lst, x_call, x_ite, x_andV, x_orV, x_notV, x_revL, x_comp, x_n, x_c, t_val, t_and, t_or, t_not, t_yes, i_seq, i_r1, i_r2, i_enum, i_zip, i_rev, s_asg, s_aug, s_app, s_setI, s_expr, s_if, s_whl, s_for, s_ret, s_retV, s_retN, s_brk, s_cont, s_pass, s_raise, s_try, q_n, q_c, b_ok, b_exc, b_bad, b_ite, u_ok, u_exc, u_bad, u_ite, o_some, o_none, q_nx, q_rt, q_bk, q_ct, q_exc, q_bad, q_ite, of_some, f_nx, f_rt, f_exc, f_ite, c_ok, c_exc, c_ite, an_t, an_b, or_b, no_b, rv_l, in_i, au_s, li_s, re_s, nx_s, en_l, zi_l, ri_l, tr_nx, tr_rt, tr_bk, tr_ct, tr_exc, tr_ite, rd_c, rd_s, pk_c, pk_f, pk_o, bo_var, bo_lit, op_lit, bo_glob, op_glob, bo_op1, op_op1, bo_op2, op_op2, bo_sl, op_sl, bo_tup, op_tup, bo_lst, op_lst, bo_call, op_call, bo_ite, op_ite, bo_andV, op_andV, bo_orV, op_orV, bo_notV, op_notV, bo_revL, op_revL, bo_comp, op_comp, op_var, op_abs, opR_i, g_var, g_tup, gs_n, gs_c, d_fz, d_ow, a_add, a_sub, a_lt, a_le, a_gt, a_ge, a_max, a_min, a_mul, a_fdiv, a_mod, a_pow, a_addl, a_addt, a_adds, a_mull, a_eqi, a_nei, a_ixl, a_ixt, a1_neg, a1_lenl, a1_lent, a1_lens, a1_listl, a1_listt, a1_tupl, a1_tupt, a1_int, a1_sum, a1_isN, a1_notN, y_int_i, y_bool_i, y_str_i, y_list_i, y_tuple_i, nn_i, y_int_s, y_bool_s, y_str_s, y_list_s, y_tuple_s, nn_s, y_int_b, y_bool_b, y_str_b, y_list_b, y_tuple_b, nn_b, y_int_l, y_bool_l, y_str_l, y_list_l, y_tuple_l, nn_l, y_int_t, y_bool_t, y_str_t, y_list_t, y_tuple_t, nn_t, y_int_n, y_bool_n, y_str_n, y_list_n, y_tuple_n, nn_n, tr_b, tr_i, tr_l, tr_t, a3_l, a3_t, sq_l, sq_t, au_add, au_sub, List.getElem?_cons_zero, List.getElem?_cons_succ, List.set_cons_zero, List.set_cons_succ, Option.map_some, Option.bind_some, if_true, if_false, Bool.false_eq_true, reduceIte, Exs.len, Nat.reduceAdd, Nat.reduceLeDiff, Nat.reduceLT, List.length_cons, List.length_nil, Nat.lt_add_left_iff_pos, Nat.zero_lt_succ, decide_true, decide_false, Bool.not_true, Bool.not_false, List.map_cons, List.map_nil, List.replicate, List.cons_append, List.nil_append, decide_eq_true_eq, Bool.not_eq_true', decide_eq_false_iff_not, Bool.and_eq_true, Bool.or_eq_true, or_self, or_false, false_or, or_true, true_or, and_true, true_and, and_self, not_false_eq_true, not_true_eq_false, ite_self, ix_int ns s.2 c1]
      simp
    · show s.2 + 1 + tf room (s.1 + ns.getD s.2 0) (ns.drop (s.2 + 1)) = _
      rw [← hp.2, List.drop_eq_getElem_cons c1]
      have e : ns.getD s.2 0 = ns[s.2] := by simp [List.getD, c1]
      rw [e] at c2 ⊢
      rw [tf, if_pos c2]
      omega

/-! ### the spans, by one walk -/
def go (room : Int) : Nat → Nat → Int → List Int → List (Int × Int)
  | st, k, _, [] => [((st : Int), (k : Int))]
  | st, k, used, x :: xs => if used + x > room then ((st : Int), (k : Int)) :: go room k (k + 1) (0 + x) xs else go room st (k + 1) (used + x) xs
def rest (room : Int) (st : Nat) (xs : List Int) : List (Int × Int) := if xs = [] then [] else go room st st 0 xs
theorem go_tf (room : Int) : ∀ (xs : List Int) (st k : Nat) (used : Int), (∀ x ∈ xs, x ≤ room) → go room st k used xs = ((st : Int), ((k + tf room used xs : Nat) : Int)) :: rest room (k + tf room used xs) (xs.drop (tf room used xs))
  | [], st, k, used, _ => by simp [go, tf, rest]
  | x :: xs, st, k, used, hx => by
    by_cases h : used + x > room
    · have h' : ¬ used + x ≤ room := by omega
      have h0 : ¬ (0 + x > room) := by have := hx x (List.mem_cons_self ..); omega
      rw [go, if_pos h, tf, if_neg h', Nat.add_zero, List.drop_zero, rest, if_neg (List.cons_ne_nil _ _), go, if_neg h0]
      rfl
    · have h' : used + x ≤ room := by omega
      rw [go, if_neg h, go_tf room xs st (k + 1) (used + x) (fun y hy => hx y (List.mem_cons_of_mem _ hy)), tf, if_pos h']
      rw [show k + 1 + tf room (used + x) xs = k + (tf room (used + x) xs + 1) by omega, List.drop_succ_cons]
def spans (room : Int) (ns : List Int) : List (Int × Int) := rest room 0 ns
theorem chk_none {ns : List Int} {room : Int} (h : chk ns room = none) : 1 ≤ room ∧ room ≤ 1368 ∧ ns.length ≤ 200 ∧ ∀ x ∈ ns, 1 ≤ x ∧ x ≤ room := by
  unfold chk at h
  split at h
  · cases h
  · rename_i h1
    split at h
    · cases h
    · rename_i h2
      split at h
      · cases h
      · rename_i h3
        refine ⟨by omega, by omega, by omega, fun x hx => ?_⟩
        have := List.find?_eq_none.mp h3 x hx
        simp only [decide_eq_true_eq] at this
        omega
theorem r_spread (n : Nat) (ns : List Int) (room : Int) : runF cfg (n + 2) 2 [il ns, .int room] = asFR (chk ns room) (.ow ((spans room ns).map pr)) := by
  rw [run_at (show cfg.funs[2]? = some f_spread from rfl) rfl]
  simp only [f_spread, il, x_var, x_lit, x_op1, x_op2, x_sl, x_tup, x_lst, x_call, x_ite, x_andV, x_orV, x_notV, x_revL, x_comp, x_n, x_c, t_val, t_and, t_or, t_not, t_yes, i_seq, i_r1, i_r2, i_enum, i_zip, i_rev, s_asg, s_aug, s_app, s_setI, s_expr, s_if, s_whl, s_for, s_ret, s_retV, s_retN, s_brk, s_cont, s_pass, s_raise, s_try, q_n, q_c, b_ok, b_exc, b_bad, b_ite, u_ok, u_exc, u_bad, u_ite, o_some, o_none, q_nx, q_rt, q_bk, q_ct, q_exc, q_bad, q_ite, of_some, f_nx, f_rt, f_exc, f_ite, c_ok, c_exc, c_ite, an_t, an_b, or_b, no_b, rv_l, in_i, au_s, li_s, re_s, nx_s, en_l, zi_l, ri_l, tr_nx, tr_rt, tr_bk, tr_ct, tr_exc, tr_ite, rd_c, rd_s, pk_c, pk_f, pk_o, bo_var, bo_lit, op_lit, bo_glob, op_glob, bo_op1, op_op1, bo_op2, op_op2, bo_sl, op_sl, bo_tup, op_tup, bo_lst, op_lst, bo_call, op_call, bo_ite, op_ite, bo_andV, op_andV, bo_orV, op_orV, bo_notV, op_notV, bo_revL, op_revL, bo_comp, op_comp, op_var, op_abs, opR_i, g_var, g_tup, gs_n, gs_c, d_fz, d_ow, a_add, a_sub, a_lt, a_le, a_gt, a_ge, a_max, a_min, a_mul, a_fdiv, a_mod, a_pow, a_addl, a_addt, a_adds, a_mull, a_eqi, a_nei, a_ixl, a_ixt, a1_neg, a1_lenl, a1_lent, a1_lens, a1_listl, a1_listt, a1_tupl, a1_tupt, a1_int, a1_sum, a1_isN, a1_notN, y_int_i, y_bool_i, y_str_i, y_list_i, y_tuple_i, nn_i, y_int_s, y_bool_s, y_str_s, y_list_s, y_tuple_s, nn_s, y_int_b, y_bool_b, y_str_b, y_list_b, y_tuple_b, nn_b, y_int_l, y_bool_l, y_str_l, y_list_l, y_tuple_l, nn_l, y_int_t, y_bool_t, y_str_t, y_list_t, y_tuple_t, nn_t, y_int_n, y_bool_n, y_str_n, y_list_n, y_tuple_n, nn_n, tr_b, tr_i, tr_l, tr_t, a3_l, a3_t, sq_l, sq_t, au_add, au_sub, List.getElem?_cons_zero, List.getElem?_cons_succ, List.set_cons_zero, List.set_cons_succ, Option.map_some, Option.bind_some, if_true, if_false, Bool.false_eq_true, reduceIte, Exs.len, Nat.reduceAdd, Nat.reduceLeDiff, Nat.reduceLT, List.length_cons, List.length_nil, Nat.lt_add_left_iff_pos, Nat.zero_lt_succ, decide_true, decide_false, Bool.not_true, Bool.not_false, List.map_cons, List.map_nil, List.replicate, List.cons_append, List.nil_append, decide_eq_true_eq, Bool.not_eq_true', decide_eq_false_iff_not, Bool.and_eq_true, Bool.or_eq_true, or_self, or_false, false_or, or_true, true_or, and_true, true_and, and_self, not_false_eq_true, not_true_eq_false, ite_self]
  rw [r_check]
  cases hc : chk ns room with
  | some x => simp only [asFR, x_var, x_lit, x_op1, x_op2, x_sl, x_tup, x_lst, x_call, x_ite, x_andV, x_orV, x_notV, x_revL, x_comp, x_n, x_c, t_val, t_and, t_or, t_not, t_yes, i_seq, i_r1, i_r2, i_enum, i_zip, i_rev, s_asg, s_aug, s_app, s_setI, s_expr, s_if, s_whl, s_for, s_ret, s_retV, s_retN, s_brk, s_cont, s_pass, s_raise, s_try, q_n, q_c, b_ok, b_exc, b_bad, b_ite, u_ok, u_exc, u_bad, u_ite, o_some, o_none, q_nx, q_rt, q_bk, q_ct, q_exc, q_bad, q_ite, of_some, f_nx, f_rt, f_exc, f_ite, c_ok, c_exc, c_ite, an_t, an_b, or_b, no_b, rv_l, in_i, au_s, li_s, re_s, nx_s, en_l, zi_l, ri_l, tr_nx, tr_rt, tr_bk, tr_ct, tr_exc, tr_ite, rd_c, rd_s, pk_c, pk_f, pk_o, bo_var, bo_lit, op_lit, bo_glob, op_glob, bo_op1, op_op1, bo_op2, op_op2, bo_sl, op_sl, bo_tup, op_tup, bo_lst, op_lst, bo_call, op_call, bo_ite, op_ite, bo_andV, op_andV, bo_orV, op_orV, bo_notV, op_notV, bo_revL, op_revL, bo_comp, op_comp, op_var, op_abs, opR_i, g_var, g_tup, gs_n, gs_c, d_fz, d_ow, a_add, a_sub, a_lt, a_le, a_gt, a_ge, a_max, a_min, a_mul, a_fdiv, a_mod, a_pow, a_addl, a_addt, a_adds, a_mull, a_eqi, a_nei, a_ixl, a_ixt, a1_neg, a1_lenl, a1_lent, a1_lens, a1_listl, a1_listt, a1_tupl, a1_tupt, a1_int, a1_sum, a1_isN, a1_notN, y_int_i, y_bool_i, y_str_i, y_list_i, y_tuple_i, nn_i, y_int_s, y_bool_s, y_str_s, y_list_s, y_tuple_s, nn_s, y_int_b, y_bool_b, y_str_b, y_list_b, y_tuple_b, nn_b, y_int_l, y_bool_l, y_str_l, y_list_l, y_tuple_l, nn_l, y_int_t, y_bool_t, y_str_t, y_list_t, y_tuple_t, nn_t, y_int_n, y_bool_n, y_str_n, y_list_n, y_tuple_n, nn_n, tr_b, tr_i, tr_l, tr_t, a3_l, a3_t, sq_l, sq_t, au_add, au_sub, List.getElem?_cons_zero, List.getElem?_cons_succ, List.set_cons_zero, List.set_cons_succ, Option.map_some, Option.bind_some, if_true, if_false, Bool.false_eq_true, reduceIte, Exs.len, Nat.reduceAdd, Nat.reduceLeDiff, Nat.reduceLT, List.length_cons, List.length_nil, Nat.lt_add_left_iff_pos, Nat.zero_lt_succ, decide_true, decide_false, Bool.not_true, Bool.not_false, List.map_cons, List.map_nil, List.replicate, List.cons_append, List.nil_append, decide_eq_true_eq, Bool.not_eq_true', decide_eq_false_iff_not, Bool.and_eq_true, Bool.or_eq_true, or_self, or_false, false_or, or_true, true_or, and_true, true_and, and_self, not_false_eq_true, not_true_eq_false, ite_self]
  | none =>
    obtain ⟨v1, v2, v3, v4⟩ := chk_none hc
    simp only [asFR, x_var, x_lit, x_op1, x_op2, x_sl, x_tup, x_lst, x_call, x_ite, x_andV, x_orV, x_notV, x_revL, x_comp, x_n, x_c, t_val, t_and, t_or, t_not, t_yes, i_seq, i_r1, i_r2, i_enum, i_zip, i_rev, s_asg, s_aug, s_app, s_setI, s_expr, s_if, s_whl, s_for, s_ret, s_retV, s_retN, s_brk, s_cont, s_pass, s_raise, s_try, q_n, q_c, b_ok, b_exc, b_bad, b_ite, u_ok, u_exc, u_bad, u_ite, o_some, o_none, q_nx, q_rt, q_bk, q_ct, q_exc, q_bad, q_ite, of_some, f_nx, f_rt, f_exc, f_ite, c_ok, c_exc, c_ite, an_t, an_b, or_b, no_b, rv_l, in_i, au_s, li_s, re_s, nx_s, en_l, zi_l, ri_l, tr_nx, tr_rt, tr_bk, tr_ct, tr_exc, tr_ite, rd_c, rd_s, pk_c, pk_f, pk_o, bo_var, bo_lit, op_lit, bo_glob, op_glob, bo_op1, op_op1, bo_op2, op_op2, bo_sl, op_sl, bo_tup, op_tup, bo_lst, op_lst, bo_call, op_call, bo_ite, op_ite, bo_andV, op_andV, bo_orV, op_orV, bo_notV, op_notV, bo_revL, op_revL, bo_comp, op_comp, op_var, op_abs, opR_i, g_var, g_tup, gs_n, gs_c, d_fz, d_ow, a_add, a_sub, a_lt, a_le, a_gt, a_ge, a_max, a_min, a_mul, a_fdiv, a_mod, a_pow, a_addl, a_addt, a_adds, a_mull, a_eqi, a_nei, a_ixl, a_ixt, a1_neg, a1_lenl, a1_lent, a1_lens, a1_listl, a1_listt, a1_tupl, a1_tupt, a1_int, a1_sum, a1_isN, a1_notN, y_int_i, y_bool_i, y_str_i, y_list_i, y_tuple_i, nn_i, y_int_s, y_bool_s, y_str_s, y_list_s, y_tuple_s, nn_s, y_int_b, y_bool_b, y_str_b, y_list_b, y_tuple_b, nn_b, y_int_l, y_bool_l, y_str_l, y_list_l, y_tuple_l, nn_l, y_int_t, y_bool_t, y_str_t, y_list_t, y_tuple_t, nn_t, y_int_n, y_bool_n, y_str_n, y_list_n, y_tuple_n, nn_n, tr_b, tr_i, tr_l, tr_t, a3_l, a3_t, sq_l, sq_t, au_add, au_sub, List.getElem?_cons_zero, List.getElem?_cons_succ, List.set_cons_zero, List.set_cons_succ, Option.map_some, Option.bind_some, if_true, if_false, Bool.false_eq_true, reduceIte, Exs.len, Nat.reduceAdd, Nat.reduceLeDiff, Nat.reduceLT, List.length_cons, List.length_nil, Nat.lt_add_left_iff_pos, Nat.zero_lt_succ, decide_true, decide_false, Bool.not_true, Bool.not_false, List.map_cons, List.map_nil, List.replicate, List.cons_append, List.nil_append, decide_eq_true_eq, Bool.not_eq_true', decide_eq_false_iff_not, Bool.and_eq_true, Bool.or_eq_true, or_self, or_false, false_or, or_true, true_or, and_true, true_and, and_self, not_false_eq_true, not_true_eq_false, ite_self, whlR]
    refine Exists.elim (whl_n (c := evT ⟨runF cfg (n + 1), cfg.consts⟩ (Te.val (Ex.op2 O2.lt (Ex.var 3) (Ex.op1 O1.len (Ex.var 0)))))
      (b := exSs ⟨runF cfg (n + 1), cfg.consts⟩ (ISs.c (IS.asg (Tg.var 4) (Ex.call 1 (Exs.c (Ex.var 0) (Exs.c (Ex.var 1) (Exs.c (Ex.var 3) Exs.n))))) (ISs.c (IS.app 2 (Ex.tup (Exs.c (Ex.var 3) (Exs.c (Ex.var 4) Exs.n)))) (ISs.c (IS.asg (Tg.var 3) (Ex.var 4)) ISs.n))))
      (E := fun (s : List (Int × Int) × Nat × Option Cell) => [some (.fz (.list (ns.map .int))), some (.fz (.int room)), some (.ow (s.1.map pr)), some (.fz (.int (s.2.1 : Int))), s.2.2])
      (cond := fun s => decide (s.2.1 < ns.length)) (step := fun s => (s.1 ++ [((s.2.1 : Int), ((s.2.1 + tf room 0 (ns.drop s.2.1) : Nat) : Int))], s.2.1 + tf room 0 (ns.drop s.2.1), some (.fz (.int ((s.2.1 + tf room 0 (ns.drop s.2.1) : Nat) : Int)))))
      (fun s => s.2.1 ≤ ns.length ∧ s.1.length ≤ s.2.1 ∧ s.1 ++ rest room s.2.1 (ns.drop s.2.1) = spans room ns) (fun s => ns.length - s.2.1) (fun s hp => ?_) (fun s hp hc => ?_) fuelW ([], 0, none) ⟨Nat.zero_le _, Nat.le_refl _, rfl⟩ (by show ns.length - 0 < 1000000000; omega)) fun s' hh => ?_
    rotate_left 2
    · obtain ⟨e1, ⟨e2, e3⟩, e4⟩ := hh
      simp only [List.map_nil, Int.ofNat_eq_natCast, Int.natCast_zero] at e1
      rw [e1]
      simp only [x_var, x_lit, x_op1, x_op2, x_sl, x_tup, x_lst, x_call, x_ite, x_andV, x_orV, x_notV, x_revL, x_comp, x_n, x_c, t_val, t_and, t_or, t_not, t_yes, i_seq, i_r1, i_r2, i_enum, i_zip, i_rev, s_asg, s_aug, s_app, s_setI, s_expr, s_if, s_whl, s_for, s_ret, s_retV, s_retN, s_brk, s_cont, s_pass, s_raise, s_try, q_n, q_c, b_ok, b_exc, b_bad, b_ite, u_ok, u_exc, u_bad, u_ite, o_some, o_none, q_nx, q_rt, q_bk, q_ct, q_exc, q_bad, q_ite, of_some, f_nx, f_rt, f_exc, f_ite, c_ok, c_exc, c_ite, an_t, an_b, or_b, no_b, rv_l, in_i, au_s, li_s, re_s, nx_s, en_l, zi_l, ri_l, tr_nx, tr_rt, tr_bk, tr_ct, tr_exc, tr_ite, rd_c, rd_s, pk_c, pk_f, pk_o, bo_var, bo_lit, op_lit, bo_glob, op_glob, bo_op1, op_op1, bo_op2, op_op2, bo_sl, op_sl, bo_tup, op_tup, bo_lst, op_lst, bo_call, op_call, bo_ite, op_ite, bo_andV, op_andV, bo_orV, op_orV, bo_notV, op_notV, bo_revL, op_revL, bo_comp, op_comp, op_var, op_abs, opR_i, g_var, g_tup, gs_n, gs_c, d_fz, d_ow, a_add, a_sub, a_lt, a_le, a_gt, a_ge, a_max, a_min, a_mul, a_fdiv, a_mod, a_pow, a_addl, a_addt, a_adds, a_mull, a_eqi, a_nei, a_ixl, a_ixt, a1_neg, a1_lenl, a1_lent, a1_lens, a1_listl, a1_listt, a1_tupl, a1_tupt, a1_int, a1_sum, a1_isN, a1_notN, y_int_i, y_bool_i, y_str_i, y_list_i, y_tuple_i, nn_i, y_int_s, y_bool_s, y_str_s, y_list_s, y_tuple_s, nn_s, y_int_b, y_bool_b, y_str_b, y_list_b, y_tuple_b, nn_b, y_int_l, y_bool_l, y_str_l, y_list_l, y_tuple_l, nn_l, y_int_t, y_bool_t, y_str_t, y_list_t, y_tuple_t, nn_t, y_int_n, y_bool_n, y_str_n, y_list_n, y_tuple_n, nn_n, tr_b, tr_i, tr_l, tr_t, a3_l, a3_t, sq_l, sq_t, au_add, au_sub, List.getElem?_cons_zero, List.getElem?_cons_succ, List.set_cons_zero, List.set_cons_succ, Option.map_some, Option.bind_some, if_true, if_false, Bool.false_eq_true, reduceIte, Exs.len, Nat.reduceAdd, Nat.reduceLeDiff, Nat.reduceLT, List.length_cons, List.length_nil, Nat.lt_add_left_iff_pos, Nat.zero_lt_succ, decide_true, decide_false, Bool.not_true, Bool.not_false, List.map_cons, List.map_nil, List.replicate, List.cons_append, List.nil_append, decide_eq_true_eq, Bool.not_eq_true', decide_eq_false_iff_not, Bool.and_eq_true, Bool.or_eq_true, or_self, or_false, false_or, or_true, true_or, and_true, true_and, and_self, not_false_eq_true, not_true_eq_false, ite_self]
      have e5 : ¬ s'.2.1 < ns.length := of_decide_eq_false e4
      obtain ⟨e6, e7⟩ := e3
      rw [List.drop_eq_nil_of_le (by omega)] at e7
      rw [← e7]
      simp [rest]
    · simp only [x_var, x_lit, x_op1, x_op2, x_sl, x_tup, x_lst, x_call, x_ite, x_andV, x_orV, x_notV, x_revL, x_comp, x_n, x_c, t_val, t_and, t_or, t_not, t_yes, i_seq, i_r1, i_r2, i_enum, i_zip, i_rev, s_asg, s_aug, s_app, s_setI, s_expr, s_if, s_whl, s_for, s_ret, s_retV, s_retN, s_brk, s_cont, s_pass, s_raise, s_try, q_n, q_c, b_ok, b_exc, b_bad, b_ite, u_ok, u_exc, u_bad, u_ite, o_some, o_none, q_nx, q_rt, q_bk, q_ct, q_exc, q_bad, q_ite, of_some, f_nx, f_rt, f_exc, f_ite, c_ok, c_exc, c_ite, an_t, an_b, or_b, no_b, rv_l, in_i, au_s, li_s, re_s, nx_s, en_l, zi_l, ri_l, tr_nx, tr_rt, tr_bk, tr_ct, tr_exc, tr_ite, rd_c, rd_s, pk_c, pk_f, pk_o, bo_var, bo_lit, op_lit, bo_glob, op_glob, bo_op1, op_op1, bo_op2, op_op2, bo_sl, op_sl, bo_tup, op_tup, bo_lst, op_lst, bo_call, op_call, bo_ite, op_ite, bo_andV, op_andV, bo_orV, op_orV, bo_notV, op_notV, bo_revL, op_revL, bo_comp, op_comp, op_var, op_abs, opR_i, g_var, g_tup, gs_n, gs_c, d_fz, d_ow, a_add, a_sub, a_lt, a_le, a_gt, a_ge, a_max, a_min, a_mul, a_fdiv, a_mod, a_pow, a_addl, a_addt, a_adds, a_mull, a_eqi, a_nei, a_ixl, a_ixt, a1_neg, a1_lenl, a1_lent, a1_lens, a1_listl, a1_listt, a1_tupl, a1_tupt, a1_int, a1_sum, a1_isN, a1_notN, y_int_i, y_bool_i, y_str_i, y_list_i, y_tuple_i, nn_i, y_int_s, y_bool_s, y_str_s, y_list_s, y_tuple_s, nn_s, y_int_b, y_bool_b, y_str_b, y_list_b, y_tuple_b, nn_b, y_int_l, y_bool_l, y_str_l, y_list_l, y_tuple_l, nn_l, y_int_t, y_bool_t, y_str_t, y_list_t, y_tuple_t, nn_t, y_int_n, y_bool_n, y_str_n, y_list_n, y_tuple_n, nn_n, tr_b, tr_i, tr_l, tr_t, a3_l, a3_t, sq_l, sq_t, au_add, au_sub, List.getElem?_cons_zero, List.getElem?_cons_succ, List.set_cons_zero, List.set_cons_succ, Option.map_some, Option.bind_some, if_true, if_false, Bool.false_eq_true, reduceIte, Exs.len, Nat.reduceAdd, Nat.reduceLeDiff, Nat.reduceLT, List.length_cons, List.length_nil, Nat.lt_add_left_iff_pos, Nat.zero_lt_succ, decide_true, decide_false, Bool.not_true, Bool.not_false, List.map_cons, List.map_nil, List.replicate, List.cons_append, List.nil_append, decide_eq_true_eq, Bool.not_eq_true', decide_eq_false_iff_not, Bool.and_eq_true, Bool.or_eq_true, or_self, or_false, false_or, or_true, true_or, and_true, true_and, and_self, not_false_eq_true, not_true_eq_false, ite_self, List.length_map, Int.ofNat_lt]
    · have c1 : s.2.1 < ns.length := of_decide_eq_true hc
      obtain ⟨p1, p2, p3⟩ := hp
      have hne : ns.drop s.2.1 ≠ [] := by
        intro z
        have := congrArg List.length z
        simp at this
        omega
      have hpos : 1 ≤ tf room 0 (ns.drop s.2.1) := by
        rw [List.drop_eq_getElem_cons c1, tf, if_pos (by have := (v4 ns[s.2.1] (List.getElem_mem c1)).2; omega)]
        omega
      have hle := tf_le room (ns.drop s.2.1) 0
      rw [List.length_drop] at hle
      refine ⟨?_, ⟨by show s.2.1 + tf room 0 (ns.drop s.2.1) ≤ _; omega, by show (s.1 ++ [_]).length ≤ _; rw [List.length_append]; simp; omega, ?_⟩, by show ns.length - (s.2.1 + _) < _; omega⟩
      · have hsz : (s.1.map pr).length < sizeLine := by
          rw [List.length_map]
          exact Nat.lt_of_le_of_lt (by omega : s.1.length ≤ 1000) (by decide)
        simp only [x_var, x_lit, x_op1, x_op2, x_sl, x_tup, x_lst, x_call, x_ite, x_andV, x_orV, x_notV, x_revL, x_comp, x_n, x_c, t_val, t_and, t_or, t_not, t_yes, i_seq, i_r1, i_r2, i_enum, i_zip, i_rev, s_asg, s_aug, s_app, s_setI, s_expr, s_if, s_whl, s_for, s_ret, s_retV, s_retN, s_brk, s_cont, s_pass, s_raise, s_try, q_n, q_c, b_ok, b_exc, b_bad, b_ite, u_ok, u_exc, u_bad, u_ite, o_some, o_none, q_nx, q_rt, q_bk, q_ct, q_exc, q_bad, q_ite, of_some, f_nx, f_rt, f_exc, f_ite, c_ok, c_exc, c_ite, an_t, an_b, or_b, no_b, rv_l, in_i, au_s, li_s, re_s, nx_s, en_l, zi_l, ri_l, tr_nx, tr_rt, tr_bk, tr_ct, tr_exc, tr_ite, rd_c, rd_s, pk_c, pk_f, pk_o, bo_var, bo_lit, op_lit, bo_glob, op_glob, bo_op1, op_op1, bo_op2, op_op2, bo_sl, op_sl, bo_tup, op_tup, bo_lst, op_lst, bo_call, op_call, bo_ite, op_ite, bo_andV, op_andV, bo_orV, op_orV, bo_notV, op_notV, bo_revL, op_revL, bo_comp, op_comp, op_var, op_abs, opR_i, g_var, g_tup, gs_n, gs_c, d_fz, d_ow, a_add, a_sub, a_lt, a_le, a_gt, a_ge, a_max, a_min, a_mul, a_fdiv, a_mod, a_pow, a_addl, a_addt, a_adds, a_mull, a_eqi, a_nei, a_ixl, a_ixt, a1_neg, a1_lenl, a1_lent, a1_lens, a1_listl, a1_listt, a1_tupl, a1_tupt, a1_int, a1_sum, a1_isN, a1_notN, y_int_i, y_bool_i, y_str_i, y_list_i, y_tuple_i, nn_i, y_int_s, y_bool_s, y_str_s, y_list_s, y_tuple_s, nn_s, y_int_b, y_bool_b, y_str_b, y_list_b, y_tuple_b, nn_b, y_int_l, y_bool_l, y_str_l, y_list_l, y_tuple_l, nn_l, y_int_t, y_bool_t, y_str_t, y_list_t, y_tuple_t, nn_t, y_int_n, y_bool_n, y_str_n, y_list_n, y_tuple_n, nn_n, tr_b, tr_i, tr_l, tr_t, a3_l, a3_t, sq_l, sq_t, au_add, au_sub, List.getElem?_cons_zero, List.getElem?_cons_succ, List.set_cons_zero, List.set_cons_succ, Option.map_some, Option.bind_some, if_true, if_false, Bool.false_eq_true, reduceIte, Exs.len, Nat.reduceAdd, Nat.reduceLeDiff, Nat.reduceLT, List.length_cons, List.length_nil, Nat.lt_add_left_iff_pos, Nat.zero_lt_succ, decide_true, decide_false, Bool.not_true, Bool.not_false, List.map_cons, List.map_nil, List.replicate, List.cons_append, List.nil_append, decide_eq_true_eq, Bool.not_eq_true', decide_eq_false_iff_not, Bool.and_eq_true, Bool.or_eq_true, or_self, or_false, false_or, or_true, true_or, and_true, true_and, and_self, not_false_eq_true, not_true_eq_false, ite_self]
        have r := r_end n ns room s.2.1 p1 (by omega)
        rw [il] at r
        rw [r]
        simp only [x_var, x_lit, x_op1, x_op2, x_sl, x_tup, x_lst, x_call, x_ite, x_andV, x_orV, x_notV, x_revL, x_comp, x_n, x_c, t_val, t_and, t_or, t_not, t_yes, i_seq, i_r1, i_r2, i_enum, i_zip, i_rev, s_asg, s_aug, s_app, s_setI, s_expr, s_if, s_whl, s_for, s_ret, s_retV, s_retN, s_brk, s_cont, s_pass, s_raise, s_try, q_n, q_c, b_ok, b_exc, b_bad, b_ite, u_ok, u_exc, u_bad, u_ite, o_some, o_none, q_nx, q_rt, q_bk, q_ct, q_exc, q_bad, q_ite, of_some, f_nx, f_rt, f_exc, f_ite, c_ok, c_exc, c_ite, an_t, an_b, or_b, no_b, rv_l, in_i, au_s, li_s, re_s, nx_s, en_l, zi_l, ri_l, tr_nx, tr_rt, tr_bk, tr_ct, tr_exc, tr_ite, rd_c, rd_s, pk_c, pk_f, pk_o, bo_var, bo_lit, op_lit, bo_glob, op_glob, bo_op1, op_op1, bo_op2, op_op2, bo_sl, op_sl, bo_tup, op_tup, bo_lst, op_lst, bo_call, op_call, bo_ite, op_ite, bo_andV, op_andV, bo_orV, op_orV, bo_notV, op_notV, bo_revL, op_revL, bo_comp, op_comp, op_var, op_abs, opR_i, g_var, g_tup, gs_n, gs_c, d_fz, d_ow, a_add, a_sub, a_lt, a_le, a_gt, a_ge, a_max, a_min, a_mul, a_fdiv, a_mod, a_pow, a_addl, a_addt, a_adds, a_mull, a_eqi, a_nei, a_ixl, a_ixt, a1_neg, a1_lenl, a1_lent, a1_lens, a1_listl, a1_listt, a1_tupl, a1_tupt, a1_int, a1_sum, a1_isN, a1_notN, y_int_i, y_bool_i, y_str_i, y_list_i, y_tuple_i, nn_i, y_int_s, y_bool_s, y_str_s, y_list_s, y_tuple_s, nn_s, y_int_b, y_bool_b, y_str_b, y_list_b, y_tuple_b, nn_b, y_int_l, y_bool_l, y_str_l, y_list_l, y_tuple_l, nn_l, y_int_t, y_bool_t, y_str_t, y_list_t, y_tuple_t, nn_t, y_int_n, y_bool_n, y_str_n, y_list_n, y_tuple_n, nn_n, tr_b, tr_i, tr_l, tr_t, a3_l, a3_t, sq_l, sq_t, au_add, au_sub, List.getElem?_cons_zero, List.getElem?_cons_succ, List.set_cons_zero, List.set_cons_succ, Option.map_some, Option.bind_some, if_true, if_false, Bool.false_eq_true, reduceIte, Exs.len, Nat.reduceAdd, Nat.reduceLeDiff, Nat.reduceLT, List.length_cons, List.length_nil, Nat.lt_add_left_iff_pos, Nat.zero_lt_succ, decide_true, decide_false, Bool.not_true, Bool.not_false, List.map_cons, List.map_nil, List.replicate, List.cons_append, List.nil_append, decide_eq_true_eq, Bool.not_eq_true', decide_eq_false_iff_not, Bool.and_eq_true, Bool.or_eq_true, or_self, or_false, false_or, or_true, true_or, and_true, true_and, and_self, not_false_eq_true, not_true_eq_false, ite_self, hsz]
        simp
      · show (s.1 ++ [_]) ++ rest room (s.2.1 + tf room 0 (ns.drop s.2.1)) (ns.drop (s.2.1 + tf room 0 (ns.drop s.2.1))) = _
        have er : rest room s.2.1 (ns.drop s.2.1) = ((s.2.1 : Int), ((s.2.1 + tf room 0 (ns.drop s.2.1) : Nat) : Int)) :: rest room (s.2.1 + tf room 0 (ns.drop s.2.1)) (ns.drop (s.2.1 + tf room 0 (ns.drop s.2.1))) := by
          rw [rest, if_neg hne, go_tf room _ _ _ _ (fun x hx => (v4 x (List.mem_of_mem_drop hx)).2), List.drop_drop]
        rw [← p3, er, List.append_assoc]
        rfl
end PD.K55

end

section
set_option Elab.async false
set_option linter.all false
set_option maxRecDepth 100000
namespace PD.K55
open PySem
def win (sp : List (Int × Int)) : List (Int × Int) := sp.dropLast.map fun p => (p.1, p.2 + 1)
theorem go_len (room : Int) : ∀ (xs : List Int) (st k : Nat) (u : Int), (go room st k u xs).length ≤ xs.length + 1
  | [], _, _, _ => by simp [go]
  | x :: xs, st, k, u => by
    unfold go
    split
    · have := go_len room xs k (k + 1) (0 + x)
      rw [List.length_cons, List.length_cons]
      omega
    · have := go_len room xs st (k + 1) (u + x)
      rw [List.length_cons]
      omega
theorem spans_len (room : Int) (ns : List Int) : (spans room ns).length ≤ ns.length + 1 := by
  unfold spans rest
  split
  · simp
  · exact go_len room ns 0 0 0
theorem r_windows (n : Nat) (ns : List Int) (room : Int) : runF cfg (n + 3) 3 [il ns, .int room] = asFR (chk ns room) (.ow ((win (spans room ns)).map pr)) := by
  rw [run_at (show cfg.funs[3]? = some f_windows from rfl) rfl]
  simp only [f_windows, il, x_var, x_lit, x_op1, x_op2, x_sl, x_tup, x_lst, x_call, x_ite, x_andV, x_orV, x_notV, x_revL, x_comp, x_n, x_c, t_val, t_and, t_or, t_not, t_yes, i_seq, i_r1, i_r2, i_enum, i_zip, i_rev, s_asg, s_aug, s_app, s_setI, s_expr, s_if, s_whl, s_for, s_ret, s_retV, s_retN, s_brk, s_cont, s_pass, s_raise, s_try, q_n, q_c, b_ok, b_exc, b_bad, b_ite, u_ok, u_exc, u_bad, u_ite, o_some, o_none, q_nx, q_rt, q_bk, q_ct, q_exc, q_bad, q_ite, of_some, f_nx, f_rt, f_exc, f_ite, c_ok, c_exc, c_ite, an_t, an_b, or_b, no_b, rv_l, in_i, au_s, li_s, re_s, nx_s, en_l, zi_l, ri_l, tr_nx, tr_rt, tr_bk, tr_ct, tr_exc, tr_ite, rd_c, rd_s, pk_c, pk_f, pk_o, bo_var, bo_lit, op_lit, bo_glob, op_glob, bo_op1, op_op1, bo_op2, op_op2, bo_sl, op_sl, bo_tup, op_tup, bo_lst, op_lst, bo_call, op_call, bo_ite, op_ite, bo_andV, op_andV, bo_orV, op_orV, bo_notV, op_notV, bo_revL, op_revL, bo_comp, op_comp, op_var, op_abs, opR_i, g_var, g_tup, gs_n, gs_c, d_fz, d_ow, a_add, a_sub, a_lt, a_le, a_gt, a_ge, a_max, a_min, a_mul, a_fdiv, a_mod, a_pow, a_addl, a_addt, a_adds, a_mull, a_eqi, a_nei, a_ixl, a_ixt, a1_neg, a1_lenl, a1_lent, a1_lens, a1_listl, a1_listt, a1_tupl, a1_tupt, a1_int, a1_sum, a1_isN, a1_notN, y_int_i, y_bool_i, y_str_i, y_list_i, y_tuple_i, nn_i, y_int_s, y_bool_s, y_str_s, y_list_s, y_tuple_s, nn_s, y_int_b, y_bool_b, y_str_b, y_list_b, y_tuple_b, nn_b, y_int_l, y_bool_l, y_str_l, y_list_l, y_tuple_l, nn_l, y_int_t, y_bool_t, y_str_t, y_list_t, y_tuple_t, nn_t, y_int_n, y_bool_n, y_str_n, y_list_n, y_tuple_n, nn_n, tr_b, tr_i, tr_l, tr_t, a3_l, a3_t, sq_l, sq_t, au_add, au_sub, List.getElem?_cons_zero, List.getElem?_cons_succ, List.set_cons_zero, List.set_cons_succ, Option.map_some, Option.bind_some, if_true, if_false, Bool.false_eq_true, reduceIte, Exs.len, Nat.reduceAdd, Nat.reduceLeDiff, Nat.reduceLT, List.length_cons, List.length_nil, Nat.lt_add_left_iff_pos, Nat.zero_lt_succ, decide_true, decide_false, Bool.not_true, Bool.not_false, List.map_cons, List.map_nil, List.replicate, List.cons_append, List.nil_append, decide_eq_true_eq, Bool.not_eq_true', decide_eq_false_iff_not, Bool.and_eq_true, Bool.or_eq_true, or_self, or_false, false_or, or_true, true_or, and_true, true_and, and_self, not_false_eq_true, not_true_eq_false, ite_self]
  rw [r_spread]
  cases hc : chk ns room with
  | some x => simp only [asFR, x_var, x_lit, x_op1, x_op2, x_sl, x_tup, x_lst, x_call, x_ite, x_andV, x_orV, x_notV, x_revL, x_comp, x_n, x_c, t_val, t_and, t_or, t_not, t_yes, i_seq, i_r1, i_r2, i_enum, i_zip, i_rev, s_asg, s_aug, s_app, s_setI, s_expr, s_if, s_whl, s_for, s_ret, s_retV, s_retN, s_brk, s_cont, s_pass, s_raise, s_try, q_n, q_c, b_ok, b_exc, b_bad, b_ite, u_ok, u_exc, u_bad, u_ite, o_some, o_none, q_nx, q_rt, q_bk, q_ct, q_exc, q_bad, q_ite, of_some, f_nx, f_rt, f_exc, f_ite, c_ok, c_exc, c_ite, an_t, an_b, or_b, no_b, rv_l, in_i, au_s, li_s, re_s, nx_s, en_l, zi_l, ri_l, tr_nx, tr_rt, tr_bk, tr_ct, tr_exc, tr_ite, rd_c, rd_s, pk_c, pk_f, pk_o, bo_var, bo_lit, op_lit, bo_glob, op_glob, bo_op1, op_op1, bo_op2, op_op2, bo_sl, op_sl, bo_tup, op_tup, bo_lst, op_lst, bo_call, op_call, bo_ite, op_ite, bo_andV, op_andV, bo_orV, op_orV, bo_notV, op_notV, bo_revL, op_revL, bo_comp, op_comp, op_var, op_abs, opR_i, g_var, g_tup, gs_n, gs_c, d_fz, d_ow, a_add, a_sub, a_lt, a_le, a_gt, a_ge, a_max, a_min, a_mul, a_fdiv, a_mod, a_pow, a_addl, a_addt, a_adds, a_mull, a_eqi, a_nei, a_ixl, a_ixt, a1_neg, a1_lenl, a1_lent, a1_lens, a1_listl, a1_listt, a1_tupl, a1_tupt, a1_int, a1_sum, a1_isN, a1_notN, y_int_i, y_bool_i, y_str_i, y_list_i, y_tuple_i, nn_i, y_int_s, y_bool_s, y_str_s, y_list_s, y_tuple_s, nn_s, y_int_b, y_bool_b, y_str_b, y_list_b, y_tuple_b, nn_b, y_int_l, y_bool_l, y_str_l, y_list_l, y_tuple_l, nn_l, y_int_t, y_bool_t, y_str_t, y_list_t, y_tuple_t, nn_t, y_int_n, y_bool_n, y_str_n, y_list_n, y_tuple_n, nn_n, tr_b, tr_i, tr_l, tr_t, a3_l, a3_t, sq_l, sq_t, au_add, au_sub, List.getElem?_cons_zero, List.getElem?_cons_succ, List.set_cons_zero, List.set_cons_succ, Option.map_some, Option.bind_some, if_true, if_false, Bool.false_eq_true, reduceIte, Exs.len, Nat.reduceAdd, Nat.reduceLeDiff, Nat.reduceLT, List.length_cons, List.length_nil, Nat.lt_add_left_iff_pos, Nat.zero_lt_succ, decide_true, decide_false, Bool.not_true, Bool.not_false, List.map_cons, List.map_nil, List.replicate, List.cons_append, List.nil_append, decide_eq_true_eq, Bool.not_eq_true', decide_eq_false_iff_not, Bool.and_eq_true, Bool.or_eq_true, or_self, or_false, false_or, or_true, true_or, and_true, true_and, and_self, not_false_eq_true, not_true_eq_false, ite_self]
  | none =>
    obtain ⟨v1, v2, v3, v4⟩ := chk_none hc
    have hl := spans_len room ns
    simp only [asFR, x_var, x_lit, x_op1, x_op2, x_sl, x_tup, x_lst, x_call, x_ite, x_andV, x_orV, x_notV, x_revL, x_comp, x_n, x_c, t_val, t_and, t_or, t_not, t_yes, i_seq, i_r1, i_r2, i_enum, i_zip, i_rev, s_asg, s_aug, s_app, s_setI, s_expr, s_if, s_whl, s_for, s_ret, s_retV, s_retN, s_brk, s_cont, s_pass, s_raise, s_try, q_n, q_c, b_ok, b_exc, b_bad, b_ite, u_ok, u_exc, u_bad, u_ite, o_some, o_none, q_nx, q_rt, q_bk, q_ct, q_exc, q_bad, q_ite, of_some, f_nx, f_rt, f_exc, f_ite, c_ok, c_exc, c_ite, an_t, an_b, or_b, no_b, rv_l, in_i, au_s, li_s, re_s, nx_s, en_l, zi_l, ri_l, tr_nx, tr_rt, tr_bk, tr_ct, tr_exc, tr_ite, rd_c, rd_s, pk_c, pk_f, pk_o, bo_var, bo_lit, op_lit, bo_glob, op_glob, bo_op1, op_op1, bo_op2, op_op2, bo_sl, op_sl, bo_tup, op_tup, bo_lst, op_lst, bo_call, op_call, bo_ite, op_ite, bo_andV, op_andV, bo_orV, op_orV, bo_notV, op_notV, bo_revL, op_revL, bo_comp, op_comp, op_var, op_abs, opR_i, g_var, g_tup, gs_n, gs_c, d_fz, d_ow, a_add, a_sub, a_lt, a_le, a_gt, a_ge, a_max, a_min, a_mul, a_fdiv, a_mod, a_pow, a_addl, a_addt, a_adds, a_mull, a_eqi, a_nei, a_ixl, a_ixt, a1_neg, a1_lenl, a1_lent, a1_lens, a1_listl, a1_listt, a1_tupl, a1_tupt, a1_int, a1_sum, a1_isN, a1_notN, y_int_i, y_bool_i, y_str_i, y_list_i, y_tuple_i, nn_i, y_int_s, y_bool_s, y_str_s, y_list_s, y_tuple_s, nn_s, y_int_b, y_bool_b, y_str_b, y_list_b, y_tuple_b, nn_b, y_int_l, y_bool_l, y_str_l, y_list_l, y_tuple_l, nn_l, y_int_t, y_bool_t, y_str_t, y_list_t, y_tuple_t, nn_t, y_int_n, y_bool_n, y_str_n, y_list_n, y_tuple_n, nn_n, tr_b, tr_i, tr_l, tr_t, a3_l, a3_t, sq_l, sq_t, au_add, au_sub, List.getElem?_cons_zero, List.getElem?_cons_succ, List.set_cons_zero, List.set_cons_succ, Option.map_some, Option.bind_some, if_true, if_false, Bool.false_eq_true, reduceIte, Exs.len, Nat.reduceAdd, Nat.reduceLeDiff, Nat.reduceLT, List.length_cons, List.length_nil, Nat.lt_add_left_iff_pos, Nat.zero_lt_succ, decide_true, decide_false, Bool.not_true, Bool.not_false, List.map_cons, List.map_nil, List.replicate, List.cons_append, List.nil_append, decide_eq_true_eq, Bool.not_eq_true', decide_eq_false_iff_not, Bool.and_eq_true, Bool.or_eq_true, or_self, or_false, false_or, or_true, true_or, and_true, true_and, and_self, not_false_eq_true, not_true_eq_false, ite_self, compR, wipeE, cut_map, List.length_map, cut_init]
    rw [lcT_n (own := [3, 4]) (E0 := [some (.fz (.list (ns.map .int))), some (.fz (.int room)), some (.ow ((spans room ns).map pr)), none, none]) (f := pr) (g := fun p => pr (p.1, p.2 + 1)) (fun p => ⟨_, _, _, _, by simp only [x_var, x_lit, x_op1, x_op2, x_sl, x_tup, x_lst, x_call, x_ite, x_andV, x_orV, x_notV, x_revL, x_comp, x_n, x_c, t_val, t_and, t_or, t_not, t_yes, i_seq, i_r1, i_r2, i_enum, i_zip, i_rev, s_asg, s_aug, s_app, s_setI, s_expr, s_if, s_whl, s_for, s_ret, s_retV, s_retN, s_brk, s_cont, s_pass, s_raise, s_try, q_n, q_c, b_ok, b_exc, b_bad, b_ite, u_ok, u_exc, u_bad, u_ite, o_some, o_none, q_nx, q_rt, q_bk, q_ct, q_exc, q_bad, q_ite, of_some, f_nx, f_rt, f_exc, f_ite, c_ok, c_exc, c_ite, an_t, an_b, or_b, no_b, rv_l, in_i, au_s, li_s, re_s, nx_s, en_l, zi_l, ri_l, tr_nx, tr_rt, tr_bk, tr_ct, tr_exc, tr_ite, rd_c, rd_s, pk_c, pk_f, pk_o, bo_var, bo_lit, op_lit, bo_glob, op_glob, bo_op1, op_op1, bo_op2, op_op2, bo_sl, op_sl, bo_tup, op_tup, bo_lst, op_lst, bo_call, op_call, bo_ite, op_ite, bo_andV, op_andV, bo_orV, op_orV, bo_notV, op_notV, bo_revL, op_revL, bo_comp, op_comp, op_var, op_abs, opR_i, g_var, g_tup, gs_n, gs_c, d_fz, d_ow, a_add, a_sub, a_lt, a_le, a_gt, a_ge, a_max, a_min, a_mul, a_fdiv, a_mod, a_pow, a_addl, a_addt, a_adds, a_mull, a_eqi, a_nei, a_ixl, a_ixt, a1_neg, a1_lenl, a1_lent, a1_lens, a1_listl, a1_listt, a1_tupl, a1_tupt, a1_int, a1_sum, a1_isN, a1_notN, y_int_i, y_bool_i, y_str_i, y_list_i, y_tuple_i, nn_i, y_int_s, y_bool_s, y_str_s, y_list_s, y_tuple_s, nn_s, y_int_b, y_bool_b, y_str_b, y_list_b, y_tuple_b, nn_b, y_int_l, y_bool_l, y_str_l, y_list_l, y_tuple_l, nn_l, y_int_t, y_bool_t, y_str_t, y_list_t, y_tuple_t, nn_t, y_int_n, y_bool_n, y_str_n, y_list_n, y_tuple_n, nn_n, tr_b, tr_i, tr_l, tr_t, a3_l, a3_t, sq_l, sq_t, au_add, au_sub, List.getElem?_cons_zero, List.getElem?_cons_succ, List.set_cons_zero, List.set_cons_succ, Option.map_some, Option.bind_some, if_true, if_false, Bool.false_eq_true, reduceIte, Exs.len, Nat.reduceAdd, Nat.reduceLeDiff, Nat.reduceLT, List.length_cons, List.length_nil, Nat.lt_add_left_iff_pos, Nat.zero_lt_succ, decide_true, decide_false, Bool.not_true, Bool.not_false, List.map_cons, List.map_nil, List.replicate, List.cons_append, List.nil_append, decide_eq_true_eq, Bool.not_eq_true', decide_eq_false_iff_not, Bool.and_eq_true, Bool.or_eq_true, or_self, or_false, false_or, or_true, true_or, and_true, true_and, and_self, not_false_eq_true, not_true_eq_false, ite_self]; rfl, by simp only [x_var, x_lit, x_op1, x_op2, x_sl, x_tup, x_lst, x_call, x_ite, x_andV, x_orV, x_notV, x_revL, x_comp, x_n, x_c, t_val, t_and, t_or, t_not, t_yes, i_seq, i_r1, i_r2, i_enum, i_zip, i_rev, s_asg, s_aug, s_app, s_setI, s_expr, s_if, s_whl, s_for, s_ret, s_retV, s_retN, s_brk, s_cont, s_pass, s_raise, s_try, q_n, q_c, b_ok, b_exc, b_bad, b_ite, u_ok, u_exc, u_bad, u_ite, o_some, o_none, q_nx, q_rt, q_bk, q_ct, q_exc, q_bad, q_ite, of_some, f_nx, f_rt, f_exc, f_ite, c_ok, c_exc, c_ite, an_t, an_b, or_b, no_b, rv_l, in_i, au_s, li_s, re_s, nx_s, en_l, zi_l, ri_l, tr_nx, tr_rt, tr_bk, tr_ct, tr_exc, tr_ite, rd_c, rd_s, pk_c, pk_f, pk_o, bo_var, bo_lit, op_lit, bo_glob, op_glob, bo_op1, op_op1, bo_op2, op_op2, bo_sl, op_sl, bo_tup, op_tup, bo_lst, op_lst, bo_call, op_call, bo_ite, op_ite, bo_andV, op_andV, bo_orV, op_orV, bo_notV, op_notV, bo_revL, op_revL, bo_comp, op_comp, op_var, op_abs, opR_i, g_var, g_tup, gs_n, gs_c, d_fz, d_ow, a_add, a_sub, a_lt, a_le, a_gt, a_ge, a_max, a_min, a_mul, a_fdiv, a_mod, a_pow, a_addl, a_addt, a_adds, a_mull, a_eqi, a_nei, a_ixl, a_ixt, a1_neg, a1_lenl, a1_lent, a1_lens, a1_listl, a1_listt, a1_tupl, a1_tupt, a1_int, a1_sum, a1_isN, a1_notN, y_int_i, y_bool_i, y_str_i, y_list_i, y_tuple_i, nn_i, y_int_s, y_bool_s, y_str_s, y_list_s, y_tuple_s, nn_s, y_int_b, y_bool_b, y_str_b, y_list_b, y_tuple_b, nn_b, y_int_l, y_bool_l, y_str_l, y_list_l, y_tuple_l, nn_l, y_int_t, y_bool_t, y_str_t, y_list_t, y_tuple_t, nn_t, y_int_n, y_bool_n, y_str_n, y_list_n, y_tuple_n, nn_n, tr_b, tr_i, tr_l, tr_t, a3_l, a3_t, sq_l, sq_t, au_add, au_sub, List.getElem?_cons_zero, List.getElem?_cons_succ, List.set_cons_zero, List.set_cons_succ, Option.map_some, Option.bind_some, if_true, if_false, Bool.false_eq_true, reduceIte, Exs.len, Nat.reduceAdd, Nat.reduceLeDiff, Nat.reduceLT, List.length_cons, List.length_nil, Nat.lt_add_left_iff_pos, Nat.zero_lt_succ, decide_true, decide_false, Bool.not_true, Bool.not_false, List.map_cons, List.map_nil, List.replicate, List.cons_append, List.nil_append, decide_eq_true_eq, Bool.not_eq_true', decide_eq_false_iff_not, Bool.and_eq_true, Bool.or_eq_true, or_self, or_false, false_or, or_true, true_or, and_true, true_and, and_self, not_false_eq_true, not_true_eq_false, ite_self]; rfl, by simp only [x_var, x_lit, x_op1, x_op2, x_sl, x_tup, x_lst, x_call, x_ite, x_andV, x_orV, x_notV, x_revL, x_comp, x_n, x_c, t_val, t_and, t_or, t_not, t_yes, i_seq, i_r1, i_r2, i_enum, i_zip, i_rev, s_asg, s_aug, s_app, s_setI, s_expr, s_if, s_whl, s_for, s_ret, s_retV, s_retN, s_brk, s_cont, s_pass, s_raise, s_try, q_n, q_c, b_ok, b_exc, b_bad, b_ite, u_ok, u_exc, u_bad, u_ite, o_some, o_none, q_nx, q_rt, q_bk, q_ct, q_exc, q_bad, q_ite, of_some, f_nx, f_rt, f_exc, f_ite, c_ok, c_exc, c_ite, an_t, an_b, or_b, no_b, rv_l, in_i, au_s, li_s, re_s, nx_s, en_l, zi_l, ri_l, tr_nx, tr_rt, tr_bk, tr_ct, tr_exc, tr_ite, rd_c, rd_s, pk_c, pk_f, pk_o, bo_var, bo_lit, op_lit, bo_glob, op_glob, bo_op1, op_op1, bo_op2, op_op2, bo_sl, op_sl, bo_tup, op_tup, bo_lst, op_lst, bo_call, op_call, bo_ite, op_ite, bo_andV, op_andV, bo_orV, op_orV, bo_notV, op_notV, bo_revL, op_revL, bo_comp, op_comp, op_var, op_abs, opR_i, g_var, g_tup, gs_n, gs_c, d_fz, d_ow, a_add, a_sub, a_lt, a_le, a_gt, a_ge, a_max, a_min, a_mul, a_fdiv, a_mod, a_pow, a_addl, a_addt, a_adds, a_mull, a_eqi, a_nei, a_ixl, a_ixt, a1_neg, a1_lenl, a1_lent, a1_lens, a1_listl, a1_listt, a1_tupl, a1_tupt, a1_int, a1_sum, a1_isN, a1_notN, y_int_i, y_bool_i, y_str_i, y_list_i, y_tuple_i, nn_i, y_int_s, y_bool_s, y_str_s, y_list_s, y_tuple_s, nn_s, y_int_b, y_bool_b, y_str_b, y_list_b, y_tuple_b, nn_b, y_int_l, y_bool_l, y_str_l, y_list_l, y_tuple_l, nn_l, y_int_t, y_bool_t, y_str_t, y_list_t, y_tuple_t, nn_t, y_int_n, y_bool_n, y_str_n, y_list_n, y_tuple_n, nn_n, tr_b, tr_i, tr_l, tr_t, a3_l, a3_t, sq_l, sq_t, au_add, au_sub, List.getElem?_cons_zero, List.getElem?_cons_succ, List.set_cons_zero, List.set_cons_succ, Option.map_some, Option.bind_some, if_true, if_false, Bool.false_eq_true, reduceIte, Exs.len, Nat.reduceAdd, Nat.reduceLeDiff, Nat.reduceLT, List.length_cons, List.length_nil, Nat.lt_add_left_iff_pos, Nat.zero_lt_succ, decide_true, decide_false, Bool.not_true, Bool.not_false, List.map_cons, List.map_nil, List.replicate, List.cons_append, List.nil_append, decide_eq_true_eq, Bool.not_eq_true', decide_eq_false_iff_not, Bool.and_eq_true, Bool.or_eq_true, or_self, or_false, false_or, or_true, true_or, and_true, true_and, and_self, not_false_eq_true, not_true_eq_false, ite_self]; rfl, rfl, rfl⟩) (spans room ns).dropLast [] (by
      rw [List.length_dropLast, List.length_nil]
      exact Nat.le_trans (by omega : _ ≤ 1000) (by decide))]
    simp only [x_var, x_lit, x_op1, x_op2, x_sl, x_tup, x_lst, x_call, x_ite, x_andV, x_orV, x_notV, x_revL, x_comp, x_n, x_c, t_val, t_and, t_or, t_not, t_yes, i_seq, i_r1, i_r2, i_enum, i_zip, i_rev, s_asg, s_aug, s_app, s_setI, s_expr, s_if, s_whl, s_for, s_ret, s_retV, s_retN, s_brk, s_cont, s_pass, s_raise, s_try, q_n, q_c, b_ok, b_exc, b_bad, b_ite, u_ok, u_exc, u_bad, u_ite, o_some, o_none, q_nx, q_rt, q_bk, q_ct, q_exc, q_bad, q_ite, of_some, f_nx, f_rt, f_exc, f_ite, c_ok, c_exc, c_ite, an_t, an_b, or_b, no_b, rv_l, in_i, au_s, li_s, re_s, nx_s, en_l, zi_l, ri_l, tr_nx, tr_rt, tr_bk, tr_ct, tr_exc, tr_ite, rd_c, rd_s, pk_c, pk_f, pk_o, bo_var, bo_lit, op_lit, bo_glob, op_glob, bo_op1, op_op1, bo_op2, op_op2, bo_sl, op_sl, bo_tup, op_tup, bo_lst, op_lst, bo_call, op_call, bo_ite, op_ite, bo_andV, op_andV, bo_orV, op_orV, bo_notV, op_notV, bo_revL, op_revL, bo_comp, op_comp, op_var, op_abs, opR_i, g_var, g_tup, gs_n, gs_c, d_fz, d_ow, a_add, a_sub, a_lt, a_le, a_gt, a_ge, a_max, a_min, a_mul, a_fdiv, a_mod, a_pow, a_addl, a_addt, a_adds, a_mull, a_eqi, a_nei, a_ixl, a_ixt, a1_neg, a1_lenl, a1_lent, a1_lens, a1_listl, a1_listt, a1_tupl, a1_tupt, a1_int, a1_sum, a1_isN, a1_notN, y_int_i, y_bool_i, y_str_i, y_list_i, y_tuple_i, nn_i, y_int_s, y_bool_s, y_str_s, y_list_s, y_tuple_s, nn_s, y_int_b, y_bool_b, y_str_b, y_list_b, y_tuple_b, nn_b, y_int_l, y_bool_l, y_str_l, y_list_l, y_tuple_l, nn_l, y_int_t, y_bool_t, y_str_t, y_list_t, y_tuple_t, nn_t, y_int_n, y_bool_n, y_str_n, y_list_n, y_tuple_n, nn_n, tr_b, tr_i, tr_l, tr_t, a3_l, a3_t, sq_l, sq_t, au_add, au_sub, List.getElem?_cons_zero, List.getElem?_cons_succ, List.set_cons_zero, List.set_cons_succ, Option.map_some, Option.bind_some, if_true, if_false, Bool.false_eq_true, reduceIte, Exs.len, Nat.reduceAdd, Nat.reduceLeDiff, Nat.reduceLT, List.length_cons, List.length_nil, Nat.lt_add_left_iff_pos, Nat.zero_lt_succ, decide_true, decide_false, Bool.not_true, Bool.not_false, List.map_cons, List.map_nil, List.replicate, List.cons_append, List.nil_append, decide_eq_true_eq, Bool.not_eq_true', decide_eq_false_iff_not, Bool.and_eq_true, Bool.or_eq_true, or_self, or_false, false_or, or_true, true_or, and_true, true_and, and_self, not_false_eq_true, not_true_eq_false, ite_self, Res.nox, win, List.map_map]
    rfl
theorem r_fits (n : Nat) (ns : List Int) (room carriers : Int) : runF cfg (n + 4) 4 [il ns, .int room, .int carriers] = match chk ns room with
    | some x => .exc x
    | none => if carriers < 0 then .exc ⟨1, [.int carriers]⟩ else if ((spans room ns).length : Int) ≤ carriers then .ok (.fz (.tuple [.str (Str.ofString "spread"), .list ((spans room ns).map pr)])) else .ok (.fz (.tuple [.str (Str.ofString "windows"), .list ((cut (win (spans room ns)) none (some carriers)).map pr)])) := by
  rw [run_at (show cfg.funs[4]? = some f_fits_on from rfl) rfl]
  simp only [f_fits_on, il, x_var, x_lit, x_op1, x_op2, x_sl, x_tup, x_lst, x_call, x_ite, x_andV, x_orV, x_notV, x_revL, x_comp, x_n, x_c, t_val, t_and, t_or, t_not, t_yes, i_seq, i_r1, i_r2, i_enum, i_zip, i_rev, s_asg, s_aug, s_app, s_setI, s_expr, s_if, s_whl, s_for, s_ret, s_retV, s_retN, s_brk, s_cont, s_pass, s_raise, s_try, q_n, q_c, b_ok, b_exc, b_bad, b_ite, u_ok, u_exc, u_bad, u_ite, o_some, o_none, q_nx, q_rt, q_bk, q_ct, q_exc, q_bad, q_ite, of_some, f_nx, f_rt, f_exc, f_ite, c_ok, c_exc, c_ite, an_t, an_b, or_b, no_b, rv_l, in_i, au_s, li_s, re_s, nx_s, en_l, zi_l, ri_l, tr_nx, tr_rt, tr_bk, tr_ct, tr_exc, tr_ite, rd_c, rd_s, pk_c, pk_f, pk_o, bo_var, bo_lit, op_lit, bo_glob, op_glob, bo_op1, op_op1, bo_op2, op_op2, bo_sl, op_sl, bo_tup, op_tup, bo_lst, op_lst, bo_call, op_call, bo_ite, op_ite, bo_andV, op_andV, bo_orV, op_orV, bo_notV, op_notV, bo_revL, op_revL, bo_comp, op_comp, op_var, op_abs, opR_i, g_var, g_tup, gs_n, gs_c, d_fz, d_ow, a_add, a_sub, a_lt, a_le, a_gt, a_ge, a_max, a_min, a_mul, a_fdiv, a_mod, a_pow, a_addl, a_addt, a_adds, a_mull, a_eqi, a_nei, a_ixl, a_ixt, a1_neg, a1_lenl, a1_lent, a1_lens, a1_listl, a1_listt, a1_tupl, a1_tupt, a1_int, a1_sum, a1_isN, a1_notN, y_int_i, y_bool_i, y_str_i, y_list_i, y_tuple_i, nn_i, y_int_s, y_bool_s, y_str_s, y_list_s, y_tuple_s, nn_s, y_int_b, y_bool_b, y_str_b, y_list_b, y_tuple_b, nn_b, y_int_l, y_bool_l, y_str_l, y_list_l, y_tuple_l, nn_l, y_int_t, y_bool_t, y_str_t, y_list_t, y_tuple_t, nn_t, y_int_n, y_bool_n, y_str_n, y_list_n, y_tuple_n, nn_n, tr_b, tr_i, tr_l, tr_t, a3_l, a3_t, sq_l, sq_t, au_add, au_sub, List.getElem?_cons_zero, List.getElem?_cons_succ, List.set_cons_zero, List.set_cons_succ, Option.map_some, Option.bind_some, if_true, if_false, Bool.false_eq_true, reduceIte, Exs.len, Nat.reduceAdd, Nat.reduceLeDiff, Nat.reduceLT, List.length_cons, List.length_nil, Nat.lt_add_left_iff_pos, Nat.zero_lt_succ, decide_true, decide_false, Bool.not_true, Bool.not_false, List.map_cons, List.map_nil, List.replicate, List.cons_append, List.nil_append, decide_eq_true_eq, Bool.not_eq_true', decide_eq_false_iff_not, Bool.and_eq_true, Bool.or_eq_true, or_self, or_false, false_or, or_true, true_or, and_true, true_and, and_self, not_false_eq_true, not_true_eq_false, ite_self]
  rw [r_spread]
  cases hc : chk ns room with
  | some x => simp only [asFR, x_var, x_lit, x_op1, x_op2, x_sl, x_tup, x_lst, x_call, x_ite, x_andV, x_orV, x_notV, x_revL, x_comp, x_n, x_c, t_val, t_and, t_or, t_not, t_yes, i_seq, i_r1, i_r2, i_enum, i_zip, i_rev, s_asg, s_aug, s_app, s_setI, s_expr, s_if, s_whl, s_for, s_ret, s_retV, s_retN, s_brk, s_cont, s_pass, s_raise, s_try, q_n, q_c, b_ok, b_exc, b_bad, b_ite, u_ok, u_exc, u_bad, u_ite, o_some, o_none, q_nx, q_rt, q_bk, q_ct, q_exc, q_bad, q_ite, of_some, f_nx, f_rt, f_exc, f_ite, c_ok, c_exc, c_ite, an_t, an_b, or_b, no_b, rv_l, in_i, au_s, li_s, re_s, nx_s, en_l, zi_l, ri_l, tr_nx, tr_rt, tr_bk, tr_ct, tr_exc, tr_ite, rd_c, rd_s, pk_c, pk_f, pk_o, bo_var, bo_lit, op_lit, bo_glob, op_glob, bo_op1, op_op1, bo_op2, op_op2, bo_sl, op_sl, bo_tup, op_tup, bo_lst, op_lst, bo_call, op_call, bo_ite, op_ite, bo_andV, op_andV, bo_orV, op_orV, bo_notV, op_notV, bo_revL, op_revL, bo_comp, op_comp, op_var, op_abs, opR_i, g_var, g_tup, gs_n, gs_c, d_fz, d_ow, a_add, a_sub, a_lt, a_le, a_gt, a_ge, a_max, a_min, a_mul, a_fdiv, a_mod, a_pow, a_addl, a_addt, a_adds, a_mull, a_eqi, a_nei, a_ixl, a_ixt, a1_neg, a1_lenl, a1_lent, a1_lens, a1_listl, a1_listt, a1_tupl, a1_tupt, a1_int, a1_sum, a1_isN, a1_notN, y_int_i, y_bool_i, y_str_i, y_list_i, y_tuple_i, nn_i, y_int_s, y_bool_s, y_str_s, y_list_s, y_tuple_s, nn_s, y_int_b, y_bool_b, y_str_b, y_list_b, y_tuple_b, nn_b, y_int_l, y_bool_l, y_str_l, y_list_l, y_tuple_l, nn_l, y_int_t, y_bool_t, y_str_t, y_list_t, y_tuple_t, nn_t, y_int_n, y_bool_n, y_str_n, y_list_n, y_tuple_n, nn_n, tr_b, tr_i, tr_l, tr_t, a3_l, a3_t, sq_l, sq_t, au_add, au_sub, List.getElem?_cons_zero, List.getElem?_cons_succ, List.set_cons_zero, List.set_cons_succ, Option.map_some, Option.bind_some, if_true, if_false, Bool.false_eq_true, reduceIte, Exs.len, Nat.reduceAdd, Nat.reduceLeDiff, Nat.reduceLT, List.length_cons, List.length_nil, Nat.lt_add_left_iff_pos, Nat.zero_lt_succ, decide_true, decide_false, Bool.not_true, Bool.not_false, List.map_cons, List.map_nil, List.replicate, List.cons_append, List.nil_append, decide_eq_true_eq, Bool.not_eq_true', decide_eq_false_iff_not, Bool.and_eq_true, Bool.or_eq_true, or_self, or_false, false_or, or_true, true_or, and_true, true_and, and_self, not_false_eq_true, not_true_eq_false, ite_self]
  | none =>
    simp only [asFR, x_var, x_lit, x_op1, x_op2, x_sl, x_tup, x_lst, x_call, x_ite, x_andV, x_orV, x_notV, x_revL, x_comp, x_n, x_c, t_val, t_and, t_or, t_not, t_yes, i_seq, i_r1, i_r2, i_enum, i_zip, i_rev, s_asg, s_aug, s_app, s_setI, s_expr, s_if, s_whl, s_for, s_ret, s_retV, s_retN, s_brk, s_cont, s_pass, s_raise, s_try, q_n, q_c, b_ok, b_exc, b_bad, b_ite, u_ok, u_exc, u_bad, u_ite, o_some, o_none, q_nx, q_rt, q_bk, q_ct, q_exc, q_bad, q_ite, of_some, f_nx, f_rt, f_exc, f_ite, c_ok, c_exc, c_ite, an_t, an_b, or_b, no_b, rv_l, in_i, au_s, li_s, re_s, nx_s, en_l, zi_l, ri_l, tr_nx, tr_rt, tr_bk, tr_ct, tr_exc, tr_ite, rd_c, rd_s, pk_c, pk_f, pk_o, bo_var, bo_lit, op_lit, bo_glob, op_glob, bo_op1, op_op1, bo_op2, op_op2, bo_sl, op_sl, bo_tup, op_tup, bo_lst, op_lst, bo_call, op_call, bo_ite, op_ite, bo_andV, op_andV, bo_orV, op_orV, bo_notV, op_notV, bo_revL, op_revL, bo_comp, op_comp, op_var, op_abs, opR_i, g_var, g_tup, gs_n, gs_c, d_fz, d_ow, a_add, a_sub, a_lt, a_le, a_gt, a_ge, a_max, a_min, a_mul, a_fdiv, a_mod, a_pow, a_addl, a_addt, a_adds, a_mull, a_eqi, a_nei, a_ixl, a_ixt, a1_neg, a1_lenl, a1_lent, a1_lens, a1_listl, a1_listt, a1_tupl, a1_tupt, a1_int, a1_sum, a1_isN, a1_notN, y_int_i, y_bool_i, y_str_i, y_list_i, y_tuple_i, nn_i, y_int_s, y_bool_s, y_str_s, y_list_s, y_tuple_s, nn_s, y_int_b, y_bool_b, y_str_b, y_list_b, y_tuple_b, nn_b, y_int_l, y_bool_l, y_str_l, y_list_l, y_tuple_l, nn_l, y_int_t, y_bool_t, y_str_t, y_list_t, y_tuple_t, nn_t, y_int_n, y_bool_n, y_str_n, y_list_n, y_tuple_n, nn_n, tr_b, tr_i, tr_l, tr_t, a3_l, a3_t, sq_l, sq_t, au_add, au_sub, List.getElem?_cons_zero, List.getElem?_cons_succ, List.set_cons_zero, List.set_cons_succ, Option.map_some, Option.bind_some, if_true, if_false, Bool.false_eq_true, reduceIte, Exs.len, Nat.reduceAdd, Nat.reduceLeDiff, Nat.reduceLT, List.length_cons, List.length_nil, Nat.lt_add_left_iff_pos, Nat.zero_lt_succ, decide_true, decide_false, Bool.not_true, Bool.not_false, List.map_cons, List.map_nil, List.replicate, List.cons_append, List.nil_append, decide_eq_true_eq, Bool.not_eq_true', decide_eq_false_iff_not, Bool.and_eq_true, Bool.or_eq_true, or_self, or_false, false_or, or_true, true_or, and_true, true_and, and_self, not_false_eq_true, not_true_eq_false, ite_self]
    by_cases h : carriers < 0
    · simp only [h, x_var, x_lit, x_op1, x_op2, x_sl, x_tup, x_lst, x_call, x_ite, x_andV, x_orV, x_notV, x_revL, x_comp, x_n, x_c, t_val, t_and, t_or, t_not, t_yes, i_seq, i_r1, i_r2, i_enum, i_zip, i_rev, s_asg, s_aug, s_app, s_setI, s_expr, s_if, s_whl, s_for, s_ret, s_retV, s_retN, s_brk, s_cont, s_pass, s_raise, s_try, q_n, q_c, b_ok, b_exc, b_bad, b_ite, u_ok, u_exc, u_bad, u_ite, o_some, o_none, q_nx, q_rt, q_bk, q_ct, q_exc, q_bad, q_ite, of_some, f_nx, f_rt, f_exc, f_ite, c_ok, c_exc, c_ite, an_t, an_b, or_b, no_b, rv_l, in_i, au_s, li_s, re_s, nx_s, en_l, zi_l, ri_l, tr_nx, tr_rt, tr_bk, tr_ct, tr_exc, tr_ite, rd_c, rd_s, pk_c, pk_f, pk_o, bo_var, bo_lit, op_lit, bo_glob, op_glob, bo_op1, op_op1, bo_op2, op_op2, bo_sl, op_sl, bo_tup, op_tup, bo_lst, op_lst, bo_call, op_call, bo_ite, op_ite, bo_andV, op_andV, bo_orV, op_orV, bo_notV, op_notV, bo_revL, op_revL, bo_comp, op_comp, op_var, op_abs, opR_i, g_var, g_tup, gs_n, gs_c, d_fz, d_ow, a_add, a_sub, a_lt, a_le, a_gt, a_ge, a_max, a_min, a_mul, a_fdiv, a_mod, a_pow, a_addl, a_addt, a_adds, a_mull, a_eqi, a_nei, a_ixl, a_ixt, a1_neg, a1_lenl, a1_lent, a1_lens, a1_listl, a1_listt, a1_tupl, a1_tupt, a1_int, a1_sum, a1_isN, a1_notN, y_int_i, y_bool_i, y_str_i, y_list_i, y_tuple_i, nn_i, y_int_s, y_bool_s, y_str_s, y_list_s, y_tuple_s, nn_s, y_int_b, y_bool_b, y_str_b, y_list_b, y_tuple_b, nn_b, y_int_l, y_bool_l, y_str_l, y_list_l, y_tuple_l, nn_l, y_int_t, y_bool_t, y_str_t, y_list_t, y_tuple_t, nn_t, y_int_n, y_bool_n, y_str_n, y_list_n, y_tuple_n, nn_n, tr_b, tr_i, tr_l, tr_t, a3_l, a3_t, sq_l, sq_t, au_add, au_sub, List.getElem?_cons_zero, List.getElem?_cons_succ, List.set_cons_zero, List.set_cons_succ, Option.map_some, Option.bind_some, if_true, if_false, Bool.false_eq_true, reduceIte, Exs.len, Nat.reduceAdd, Nat.reduceLeDiff, Nat.reduceLT, List.length_cons, List.length_nil, Nat.lt_add_left_iff_pos, Nat.zero_lt_succ, decide_true, decide_false, Bool.not_true, Bool.not_false, List.map_cons, List.map_nil, List.replicate, List.cons_append, List.nil_append, decide_eq_true_eq, Bool.not_eq_true', decide_eq_false_iff_not, Bool.and_eq_true, Bool.or_eq_true, or_self, or_false, false_or, or_true, true_or, and_true, true_and, and_self, not_false_eq_true, not_true_eq_false, ite_self]
    · simp only [h, x_var, x_lit, x_op1, x_op2, x_sl, x_tup, x_lst, x_call, x_ite, x_andV, x_orV, x_notV, x_revL, x_comp, x_n, x_c, t_val, t_and, t_or, t_not, t_yes, i_seq, i_r1, i_r2, i_enum, i_zip, i_rev, s_asg, s_aug, s_app, s_setI, s_expr, s_if, s_whl, s_for, s_ret, s_retV, s_retN, s_brk, s_cont, s_pass, s_raise, s_try, q_n, q_c, b_ok, b_exc, b_bad, b_ite, u_ok, u_exc, u_bad, u_ite, o_some, o_none, q_nx, q_rt, q_bk, q_ct, q_exc, q_bad, q_ite, of_some, f_nx, f_rt, f_exc, f_ite, c_ok, c_exc, c_ite, an_t, an_b, or_b, no_b, rv_l, in_i, au_s, li_s, re_s, nx_s, en_l, zi_l, ri_l, tr_nx, tr_rt, tr_bk, tr_ct, tr_exc, tr_ite, rd_c, rd_s, pk_c, pk_f, pk_o, bo_var, bo_lit, op_lit, bo_glob, op_glob, bo_op1, op_op1, bo_op2, op_op2, bo_sl, op_sl, bo_tup, op_tup, bo_lst, op_lst, bo_call, op_call, bo_ite, op_ite, bo_andV, op_andV, bo_orV, op_orV, bo_notV, op_notV, bo_revL, op_revL, bo_comp, op_comp, op_var, op_abs, opR_i, g_var, g_tup, gs_n, gs_c, d_fz, d_ow, a_add, a_sub, a_lt, a_le, a_gt, a_ge, a_max, a_min, a_mul, a_fdiv, a_mod, a_pow, a_addl, a_addt, a_adds, a_mull, a_eqi, a_nei, a_ixl, a_ixt, a1_neg, a1_lenl, a1_lent, a1_lens, a1_listl, a1_listt, a1_tupl, a1_tupt, a1_int, a1_sum, a1_isN, a1_notN, y_int_i, y_bool_i, y_str_i, y_list_i, y_tuple_i, nn_i, y_int_s, y_bool_s, y_str_s, y_list_s, y_tuple_s, nn_s, y_int_b, y_bool_b, y_str_b, y_list_b, y_tuple_b, nn_b, y_int_l, y_bool_l, y_str_l, y_list_l, y_tuple_l, nn_l, y_int_t, y_bool_t, y_str_t, y_list_t, y_tuple_t, nn_t, y_int_n, y_bool_n, y_str_n, y_list_n, y_tuple_n, nn_n, tr_b, tr_i, tr_l, tr_t, a3_l, a3_t, sq_l, sq_t, au_add, au_sub, List.getElem?_cons_zero, List.getElem?_cons_succ, List.set_cons_zero, List.set_cons_succ, Option.map_some, Option.bind_some, if_true, if_false, Bool.false_eq_true, reduceIte, Exs.len, Nat.reduceAdd, Nat.reduceLeDiff, Nat.reduceLT, List.length_cons, List.length_nil, Nat.lt_add_left_iff_pos, Nat.zero_lt_succ, decide_true, decide_false, Bool.not_true, Bool.not_false, List.map_cons, List.map_nil, List.replicate, List.cons_append, List.nil_append, decide_eq_true_eq, Bool.not_eq_true', decide_eq_false_iff_not, Bool.and_eq_true, Bool.or_eq_true, or_self, or_false, false_or, or_true, true_or, and_true, true_and, and_self, not_false_eq_true, not_true_eq_false, ite_self, List.length_map]
      by_cases h2 : ((spans room ns).length : Int) ≤ carriers
      · simp only [h2, x_var, x_lit, x_op1, x_op2, x_sl, x_tup, x_lst, x_call, x_ite, x_andV, x_orV, x_notV, x_revL, x_comp, x_n, x_c, t_val, t_and, t_or, t_not, t_yes, i_seq, i_r1, i_r2, i_enum, i_zip, i_rev, s_asg, s_aug, s_app, s_setI, s_expr, s_if, s_whl, s_for, s_ret, s_retV, s_retN, s_brk, s_cont, s_pass, s_raise, s_try, q_n, q_c, b_ok, b_exc, b_bad, b_ite, u_ok, u_exc, u_bad, u_ite, o_some, o_none, q_nx, q_rt, q_bk, q_ct, q_exc, q_bad, q_ite, of_some, f_nx, f_rt, f_exc, f_ite, c_ok, c_exc, c_ite, an_t, an_b, or_b, no_b, rv_l, in_i, au_s, li_s, re_s, nx_s, en_l, zi_l, ri_l, tr_nx, tr_rt, tr_bk, tr_ct, tr_exc, tr_ite, rd_c, rd_s, pk_c, pk_f, pk_o, bo_var, bo_lit, op_lit, bo_glob, op_glob, bo_op1, op_op1, bo_op2, op_op2, bo_sl, op_sl, bo_tup, op_tup, bo_lst, op_lst, bo_call, op_call, bo_ite, op_ite, bo_andV, op_andV, bo_orV, op_orV, bo_notV, op_notV, bo_revL, op_revL, bo_comp, op_comp, op_var, op_abs, opR_i, g_var, g_tup, gs_n, gs_c, d_fz, d_ow, a_add, a_sub, a_lt, a_le, a_gt, a_ge, a_max, a_min, a_mul, a_fdiv, a_mod, a_pow, a_addl, a_addt, a_adds, a_mull, a_eqi, a_nei, a_ixl, a_ixt, a1_neg, a1_lenl, a1_lent, a1_lens, a1_listl, a1_listt, a1_tupl, a1_tupt, a1_int, a1_sum, a1_isN, a1_notN, y_int_i, y_bool_i, y_str_i, y_list_i, y_tuple_i, nn_i, y_int_s, y_bool_s, y_str_s, y_list_s, y_tuple_s, nn_s, y_int_b, y_bool_b, y_str_b, y_list_b, y_tuple_b, nn_b, y_int_l, y_bool_l, y_str_l, y_list_l, y_tuple_l, nn_l, y_int_t, y_bool_t, y_str_t, y_list_t, y_tuple_t, nn_t, y_int_n, y_bool_n, y_str_n, y_list_n, y_tuple_n, nn_n, tr_b, tr_i, tr_l, tr_t, a3_l, a3_t, sq_l, sq_t, au_add, au_sub, List.getElem?_cons_zero, List.getElem?_cons_succ, List.set_cons_zero, List.set_cons_succ, Option.map_some, Option.bind_some, if_true, if_false, Bool.false_eq_true, reduceIte, Exs.len, Nat.reduceAdd, Nat.reduceLeDiff, Nat.reduceLT, List.length_cons, List.length_nil, Nat.lt_add_left_iff_pos, Nat.zero_lt_succ, decide_true, decide_false, Bool.not_true, Bool.not_false, List.map_cons, List.map_nil, List.replicate, List.cons_append, List.nil_append, decide_eq_true_eq, Bool.not_eq_true', decide_eq_false_iff_not, Bool.and_eq_true, Bool.or_eq_true, or_self, or_false, false_or, or_true, true_or, and_true, true_and, and_self, not_false_eq_true, not_true_eq_false, ite_self, Nat.reduceLeDiff]
      · simp only [h2, x_var, x_lit, x_op1, x_op2, x_sl, x_tup, x_lst, x_call, x_ite, x_andV, x_orV, x_notV, x_revL, x_comp, x_n, x_c, t_val, t_and, t_or, t_not, t_yes, i_seq, i_r1, i_r2, i_enum, i_zip, i_rev, s_asg, s_aug, s_app, s_setI, s_expr, s_if, s_whl, s_for, s_ret, s_retV, s_retN, s_brk, s_cont, s_pass, s_raise, s_try, q_n, q_c, b_ok, b_exc, b_bad, b_ite, u_ok, u_exc, u_bad, u_ite, o_some, o_none, q_nx, q_rt, q_bk, q_ct, q_exc, q_bad, q_ite, of_some, f_nx, f_rt, f_exc, f_ite, c_ok, c_exc, c_ite, an_t, an_b, or_b, no_b, rv_l, in_i, au_s, li_s, re_s, nx_s, en_l, zi_l, ri_l, tr_nx, tr_rt, tr_bk, tr_ct, tr_exc, tr_ite, rd_c, rd_s, pk_c, pk_f, pk_o, bo_var, bo_lit, op_lit, bo_glob, op_glob, bo_op1, op_op1, bo_op2, op_op2, bo_sl, op_sl, bo_tup, op_tup, bo_lst, op_lst, bo_call, op_call, bo_ite, op_ite, bo_andV, op_andV, bo_orV, op_orV, bo_notV, op_notV, bo_revL, op_revL, bo_comp, op_comp, op_var, op_abs, opR_i, g_var, g_tup, gs_n, gs_c, d_fz, d_ow, a_add, a_sub, a_lt, a_le, a_gt, a_ge, a_max, a_min, a_mul, a_fdiv, a_mod, a_pow, a_addl, a_addt, a_adds, a_mull, a_eqi, a_nei, a_ixl, a_ixt, a1_neg, a1_lenl, a1_lent, a1_lens, a1_listl, a1_listt, a1_tupl, a1_tupt, a1_int, a1_sum, a1_isN, a1_notN, y_int_i, y_bool_i, y_str_i, y_list_i, y_tuple_i, nn_i, y_int_s, y_bool_s, y_str_s, y_list_s, y_tuple_s, nn_s, y_int_b, y_bool_b, y_str_b, y_list_b, y_tuple_b, nn_b, y_int_l, y_bool_l, y_str_l, y_list_l, y_tuple_l, nn_l, y_int_t, y_bool_t, y_str_t, y_list_t, y_tuple_t, nn_t, y_int_n, y_bool_n, y_str_n, y_list_n, y_tuple_n, nn_n, tr_b, tr_i, tr_l, tr_t, a3_l, a3_t, sq_l, sq_t, au_add, au_sub, List.getElem?_cons_zero, List.getElem?_cons_succ, List.set_cons_zero, List.set_cons_succ, Option.map_some, Option.bind_some, if_true, if_false, Bool.false_eq_true, reduceIte, Exs.len, Nat.reduceAdd, Nat.reduceLeDiff, Nat.reduceLT, List.length_cons, List.length_nil, Nat.lt_add_left_iff_pos, Nat.zero_lt_succ, decide_true, decide_false, Bool.not_true, Bool.not_false, List.map_cons, List.map_nil, List.replicate, List.cons_append, List.nil_append, decide_eq_true_eq, Bool.not_eq_true', decide_eq_false_iff_not, Bool.and_eq_true, Bool.or_eq_true, or_self, or_false, false_or, or_true, true_or, and_true, true_and, and_self, not_false_eq_true, not_true_eq_false, ite_self]
        have r := r_windows n ns room
        rw [hc] at r
        simp only [il] at r
        simp only [r, asFR, x_var, x_lit, x_op1, x_op2, x_sl, x_tup, x_lst, x_call, x_ite, x_andV, x_orV, x_notV, x_revL, x_comp, x_n, x_c, t_val, t_and, t_or, t_not, t_yes, i_seq, i_r1, i_r2, i_enum, i_zip, i_rev, s_asg, s_aug, s_app, s_setI, s_expr, s_if, s_whl, s_for, s_ret, s_retV, s_retN, s_brk, s_cont, s_pass, s_raise, s_try, q_n, q_c, b_ok, b_exc, b_bad, b_ite, u_ok, u_exc, u_bad, u_ite, o_some, o_none, q_nx, q_rt, q_bk, q_ct, q_exc, q_bad, q_ite, of_some, f_nx, f_rt, f_exc, f_ite, c_ok, c_exc, c_ite, an_t, an_b, or_b, no_b, rv_l, in_i, au_s, li_s, re_s, nx_s, en_l, zi_l, ri_l, tr_nx, tr_rt, tr_bk, tr_ct, tr_exc, tr_ite, rd_c, rd_s, pk_c, pk_f, pk_o, bo_var, bo_lit, op_lit, bo_glob, op_glob, bo_op1, op_op1, bo_op2, op_op2, bo_sl, op_sl, bo_tup, op_tup, bo_lst, op_lst, bo_call, op_call, bo_ite, op_ite, bo_andV, op_andV, bo_orV, op_orV, bo_notV, op_notV, bo_revL, op_revL, bo_comp, op_comp, op_var, op_abs, opR_i, g_var, g_tup, gs_n, gs_c, d_fz, d_ow, a_add, a_sub, a_lt, a_le, a_gt, a_ge, a_max, a_min, a_mul, a_fdiv, a_mod, a_pow, a_addl, a_addt, a_adds, a_mull, a_eqi, a_nei, a_ixl, a_ixt, a1_neg, a1_lenl, a1_lent, a1_lens, a1_listl, a1_listt, a1_tupl, a1_tupt, a1_int, a1_sum, a1_isN, a1_notN, y_int_i, y_bool_i, y_str_i, y_list_i, y_tuple_i, nn_i, y_int_s, y_bool_s, y_str_s, y_list_s, y_tuple_s, nn_s, y_int_b, y_bool_b, y_str_b, y_list_b, y_tuple_b, nn_b, y_int_l, y_bool_l, y_str_l, y_list_l, y_tuple_l, nn_l, y_int_t, y_bool_t, y_str_t, y_list_t, y_tuple_t, nn_t, y_int_n, y_bool_n, y_str_n, y_list_n, y_tuple_n, nn_n, tr_b, tr_i, tr_l, tr_t, a3_l, a3_t, sq_l, sq_t, au_add, au_sub, List.getElem?_cons_zero, List.getElem?_cons_succ, List.set_cons_zero, List.set_cons_succ, Option.map_some, Option.bind_some, if_true, if_false, Bool.false_eq_true, reduceIte, Exs.len, Nat.reduceAdd, Nat.reduceLeDiff, Nat.reduceLT, List.length_cons, List.length_nil, Nat.lt_add_left_iff_pos, Nat.zero_lt_succ, decide_true, decide_false, Bool.not_true, Bool.not_false, List.map_cons, List.map_nil, List.replicate, List.cons_append, List.nil_append, decide_eq_true_eq, Bool.not_eq_true', decide_eq_false_iff_not, Bool.and_eq_true, Bool.or_eq_true, or_self, or_false, false_or, or_true, true_or, and_true, true_and, and_self, not_false_eq_true, not_true_eq_false, ite_self, cut_map]

/-! ### the two judges of a spread -/
def spG (ns : List Int) (room : Int) (place : Int) (p : Int × Int) : Option Int := if p.1 ≠ place ∨ p.2 ≤ p.1 ∨ (ns.length : Int) < p.2 then none else if room < (cut ns (some p.1) (some p.2)).sum then none else some p.2
def isSp (ns : List Int) (room carriers : Int) (ps : List (Int × Int)) : Bool := match ps.foldlM (spG ns room) 0 with
  | some place => decide (place = (ns.length : Int)) && decide ((ps.length : Int) ≤ carriers)
  | none => false
theorem r_is_spread (n : Nat) (ns : List Int) (room carriers : Int) (ps : List (Int × Int)) : runF cfg (n + 2) 6 [il ns, .int room, .int carriers, .list (ps.map pr)] = asFR (chk ns room) (.fz (.bool (isSp ns room carriers ps))) := by
  rw [run_at (show cfg.funs[6]? = some f_is_spread from rfl) rfl]
  simp only [f_is_spread, il, x_var, x_lit, x_op1, x_op2, x_sl, x_tup, x_lst, x_call, x_ite, x_andV, x_orV, x_notV, x_revL, x_comp, x_n, x_c, t_val, t_and, t_or, t_not, t_yes, i_seq, i_r1, i_r2, i_enum, i_zip, i_rev, s_asg, s_aug, s_app, s_setI, s_expr, s_if, s_whl, s_for, s_ret, s_retV, s_retN, s_brk, s_cont, s_pass, s_raise, s_try, q_n, q_c, b_ok, b_exc, b_bad, b_ite, u_ok, u_exc, u_bad, u_ite, o_some, o_none, q_nx, q_rt, q_bk, q_ct, q_exc, q_bad, q_ite, of_some, f_nx, f_rt, f_exc, f_ite, c_ok, c_exc, c_ite, an_t, an_b, or_b, no_b, rv_l, in_i, au_s, li_s, re_s, nx_s, en_l, zi_l, ri_l, tr_nx, tr_rt, tr_bk, tr_ct, tr_exc, tr_ite, rd_c, rd_s, pk_c, pk_f, pk_o, bo_var, bo_lit, op_lit, bo_glob, op_glob, bo_op1, op_op1, bo_op2, op_op2, bo_sl, op_sl, bo_tup, op_tup, bo_lst, op_lst, bo_call, op_call, bo_ite, op_ite, bo_andV, op_andV, bo_orV, op_orV, bo_notV, op_notV, bo_revL, op_revL, bo_comp, op_comp, op_var, op_abs, opR_i, g_var, g_tup, gs_n, gs_c, d_fz, d_ow, a_add, a_sub, a_lt, a_le, a_gt, a_ge, a_max, a_min, a_mul, a_fdiv, a_mod, a_pow, a_addl, a_addt, a_adds, a_mull, a_eqi, a_nei, a_ixl, a_ixt, a1_neg, a1_lenl, a1_lent, a1_lens, a1_listl, a1_listt, a1_tupl, a1_tupt, a1_int, a1_sum, a1_isN, a1_notN, y_int_i, y_bool_i, y_str_i, y_list_i, y_tuple_i, nn_i, y_int_s, y_bool_s, y_str_s, y_list_s, y_tuple_s, nn_s, y_int_b, y_bool_b, y_str_b, y_list_b, y_tuple_b, nn_b, y_int_l, y_bool_l, y_str_l, y_list_l, y_tuple_l, nn_l, y_int_t, y_bool_t, y_str_t, y_list_t, y_tuple_t, nn_t, y_int_n, y_bool_n, y_str_n, y_list_n, y_tuple_n, nn_n, tr_b, tr_i, tr_l, tr_t, a3_l, a3_t, sq_l, sq_t, au_add, au_sub, List.getElem?_cons_zero, List.getElem?_cons_succ, List.set_cons_zero, List.set_cons_succ, Option.map_some, Option.bind_some, if_true, if_false, Bool.false_eq_true, reduceIte, Exs.len, Nat.reduceAdd, Nat.reduceLeDiff, Nat.reduceLT, List.length_cons, List.length_nil, Nat.lt_add_left_iff_pos, Nat.zero_lt_succ, decide_true, decide_false, Bool.not_true, Bool.not_false, List.map_cons, List.map_nil, List.replicate, List.cons_append, List.nil_append, decide_eq_true_eq, Bool.not_eq_true', decide_eq_false_iff_not, Bool.and_eq_true, Bool.or_eq_true, or_self, or_false, false_or, or_true, true_or, and_true, true_and, and_self, not_false_eq_true, not_true_eq_false, ite_self]
  rw [r_check]
  cases hc : chk ns room with
  | some x => simp only [asFR, x_var, x_lit, x_op1, x_op2, x_sl, x_tup, x_lst, x_call, x_ite, x_andV, x_orV, x_notV, x_revL, x_comp, x_n, x_c, t_val, t_and, t_or, t_not, t_yes, i_seq, i_r1, i_r2, i_enum, i_zip, i_rev, s_asg, s_aug, s_app, s_setI, s_expr, s_if, s_whl, s_for, s_ret, s_retV, s_retN, s_brk, s_cont, s_pass, s_raise, s_try, q_n, q_c, b_ok, b_exc, b_bad, b_ite, u_ok, u_exc, u_bad, u_ite, o_some, o_none, q_nx, q_rt, q_bk, q_ct, q_exc, q_bad, q_ite, of_some, f_nx, f_rt, f_exc, f_ite, c_ok, c_exc, c_ite, an_t, an_b, or_b, no_b, rv_l, in_i, au_s, li_s, re_s, nx_s, en_l, zi_l, ri_l, tr_nx, tr_rt, tr_bk, tr_ct, tr_exc, tr_ite, rd_c, rd_s, pk_c, pk_f, pk_o, bo_var, bo_lit, op_lit, bo_glob, op_glob, bo_op1, op_op1, bo_op2, op_op2, bo_sl, op_sl, bo_tup, op_tup, bo_lst, op_lst, bo_call, op_call, bo_ite, op_ite, bo_andV, op_andV, bo_orV, op_orV, bo_notV, op_notV, bo_revL, op_revL, bo_comp, op_comp, op_var, op_abs, opR_i, g_var, g_tup, gs_n, gs_c, d_fz, d_ow, a_add, a_sub, a_lt, a_le, a_gt, a_ge, a_max, a_min, a_mul, a_fdiv, a_mod, a_pow, a_addl, a_addt, a_adds, a_mull, a_eqi, a_nei, a_ixl, a_ixt, a1_neg, a1_lenl, a1_lent, a1_lens, a1_listl, a1_listt, a1_tupl, a1_tupt, a1_int, a1_sum, a1_isN, a1_notN, y_int_i, y_bool_i, y_str_i, y_list_i, y_tuple_i, nn_i, y_int_s, y_bool_s, y_str_s, y_list_s, y_tuple_s, nn_s, y_int_b, y_bool_b, y_str_b, y_list_b, y_tuple_b, nn_b, y_int_l, y_bool_l, y_str_l, y_list_l, y_tuple_l, nn_l, y_int_t, y_bool_t, y_str_t, y_list_t, y_tuple_t, nn_t, y_int_n, y_bool_n, y_str_n, y_list_n, y_tuple_n, nn_n, tr_b, tr_i, tr_l, tr_t, a3_l, a3_t, sq_l, sq_t, au_add, au_sub, List.getElem?_cons_zero, List.getElem?_cons_succ, List.set_cons_zero, List.set_cons_succ, Option.map_some, Option.bind_some, if_true, if_false, Bool.false_eq_true, reduceIte, Exs.len, Nat.reduceAdd, Nat.reduceLeDiff, Nat.reduceLT, List.length_cons, List.length_nil, Nat.lt_add_left_iff_pos, Nat.zero_lt_succ, decide_true, decide_false, Bool.not_true, Bool.not_false, List.map_cons, List.map_nil, List.replicate, List.cons_append, List.nil_append, decide_eq_true_eq, Bool.not_eq_true', decide_eq_false_iff_not, Bool.and_eq_true, Bool.or_eq_true, or_self, or_false, false_or, or_true, true_or, and_true, true_and, and_self, not_false_eq_true, not_true_eq_false, ite_self]
  | none =>
    simp only [asFR, x_var, x_lit, x_op1, x_op2, x_sl, x_tup, x_lst, x_call, x_ite, x_andV, x_orV, x_notV, x_revL, x_comp, x_n, x_c, t_val, t_and, t_or, t_not, t_yes, i_seq, i_r1, i_r2, i_enum, i_zip, i_rev, s_asg, s_aug, s_app, s_setI, s_expr, s_if, s_whl, s_for, s_ret, s_retV, s_retN, s_brk, s_cont, s_pass, s_raise, s_try, q_n, q_c, b_ok, b_exc, b_bad, b_ite, u_ok, u_exc, u_bad, u_ite, o_some, o_none, q_nx, q_rt, q_bk, q_ct, q_exc, q_bad, q_ite, of_some, f_nx, f_rt, f_exc, f_ite, c_ok, c_exc, c_ite, an_t, an_b, or_b, no_b, rv_l, in_i, au_s, li_s, re_s, nx_s, en_l, zi_l, ri_l, tr_nx, tr_rt, tr_bk, tr_ct, tr_exc, tr_ite, rd_c, rd_s, pk_c, pk_f, pk_o, bo_var, bo_lit, op_lit, bo_glob, op_glob, bo_op1, op_op1, bo_op2, op_op2, bo_sl, op_sl, bo_tup, op_tup, bo_lst, op_lst, bo_call, op_call, bo_ite, op_ite, bo_andV, op_andV, bo_orV, op_orV, bo_notV, op_notV, bo_revL, op_revL, bo_comp, op_comp, op_var, op_abs, opR_i, g_var, g_tup, gs_n, gs_c, d_fz, d_ow, a_add, a_sub, a_lt, a_le, a_gt, a_ge, a_max, a_min, a_mul, a_fdiv, a_mod, a_pow, a_addl, a_addt, a_adds, a_mull, a_eqi, a_nei, a_ixl, a_ixt, a1_neg, a1_lenl, a1_lent, a1_lens, a1_listl, a1_listt, a1_tupl, a1_tupt, a1_int, a1_sum, a1_isN, a1_notN, y_int_i, y_bool_i, y_str_i, y_list_i, y_tuple_i, nn_i, y_int_s, y_bool_s, y_str_s, y_list_s, y_tuple_s, nn_s, y_int_b, y_bool_b, y_str_b, y_list_b, y_tuple_b, nn_b, y_int_l, y_bool_l, y_str_l, y_list_l, y_tuple_l, nn_l, y_int_t, y_bool_t, y_str_t, y_list_t, y_tuple_t, nn_t, y_int_n, y_bool_n, y_str_n, y_list_n, y_tuple_n, nn_n, tr_b, tr_i, tr_l, tr_t, a3_l, a3_t, sq_l, sq_t, au_add, au_sub, List.getElem?_cons_zero, List.getElem?_cons_succ, List.set_cons_zero, List.set_cons_succ, Option.map_some, Option.bind_some, if_true, if_false, Bool.false_eq_true, reduceIte, Exs.len, Nat.reduceAdd, Nat.reduceLeDiff, Nat.reduceLT, List.length_cons, List.length_nil, Nat.lt_add_left_iff_pos, Nat.zero_lt_succ, decide_true, decide_false, Bool.not_true, Bool.not_false, List.map_cons, List.map_nil, List.replicate, List.cons_append, List.nil_append, decide_eq_true_eq, Bool.not_eq_true', decide_eq_false_iff_not, Bool.and_eq_true, Bool.or_eq_true, or_self, or_false, false_or, or_true, true_or, and_true, true_and, and_self, not_false_eq_true, not_true_eq_false, ite_self, forR]
    rw [forL_x (E := fun (s : Int × (Option Cell × Option Cell)) => [some (.fz (.list (ns.map .int))), some (.fz (.int room)), some (.fz (.int carriers)), some (.fz (.list (ps.map pr))), some (.fz (.int s.1)), s.2.1, s.2.2]) (f := pr)
      (step := fun s p => match spG ns room s.1 p with
        | some a => .inl (a, (some (.fz (.int p.1)), some (.fz (.int p.2))))
        | none => .inr (.rt (.fz (.bool false)))) (fun _ => True)
      (fun s p _ => ⟨_, by simp only [x_var, x_lit, x_op1, x_op2, x_sl, x_tup, x_lst, x_call, x_ite, x_andV, x_orV, x_notV, x_revL, x_comp, x_n, x_c, t_val, t_and, t_or, t_not, t_yes, i_seq, i_r1, i_r2, i_enum, i_zip, i_rev, s_asg, s_aug, s_app, s_setI, s_expr, s_if, s_whl, s_for, s_ret, s_retV, s_retN, s_brk, s_cont, s_pass, s_raise, s_try, q_n, q_c, b_ok, b_exc, b_bad, b_ite, u_ok, u_exc, u_bad, u_ite, o_some, o_none, q_nx, q_rt, q_bk, q_ct, q_exc, q_bad, q_ite, of_some, f_nx, f_rt, f_exc, f_ite, c_ok, c_exc, c_ite, an_t, an_b, or_b, no_b, rv_l, in_i, au_s, li_s, re_s, nx_s, en_l, zi_l, ri_l, tr_nx, tr_rt, tr_bk, tr_ct, tr_exc, tr_ite, rd_c, rd_s, pk_c, pk_f, pk_o, bo_var, bo_lit, op_lit, bo_glob, op_glob, bo_op1, op_op1, bo_op2, op_op2, bo_sl, op_sl, bo_tup, op_tup, bo_lst, op_lst, bo_call, op_call, bo_ite, op_ite, bo_andV, op_andV, bo_orV, op_orV, bo_notV, op_notV, bo_revL, op_revL, bo_comp, op_comp, op_var, op_abs, opR_i, g_var, g_tup, gs_n, gs_c, d_fz, d_ow, a_add, a_sub, a_lt, a_le, a_gt, a_ge, a_max, a_min, a_mul, a_fdiv, a_mod, a_pow, a_addl, a_addt, a_adds, a_mull, a_eqi, a_nei, a_ixl, a_ixt, a1_neg, a1_lenl, a1_lent, a1_lens, a1_listl, a1_listt, a1_tupl, a1_tupt, a1_int, a1_sum, a1_isN, a1_notN, y_int_i, y_bool_i, y_str_i, y_list_i, y_tuple_i, nn_i, y_int_s, y_bool_s, y_str_s, y_list_s, y_tuple_s, nn_s, y_int_b, y_bool_b, y_str_b, y_list_b, y_tuple_b, nn_b, y_int_l, y_bool_l, y_str_l, y_list_l, y_tuple_l, nn_l, y_int_t, y_bool_t, y_str_t, y_list_t, y_tuple_t, nn_t, y_int_n, y_bool_n, y_str_n, y_list_n, y_tuple_n, nn_n, tr_b, tr_i, tr_l, tr_t, a3_l, a3_t, sq_l, sq_t, au_add, au_sub, List.getElem?_cons_zero, List.getElem?_cons_succ, List.set_cons_zero, List.set_cons_succ, Option.map_some, Option.bind_some, if_true, if_false, Bool.false_eq_true, reduceIte, Exs.len, Nat.reduceAdd, Nat.reduceLeDiff, Nat.reduceLT, List.length_cons, List.length_nil, Nat.lt_add_left_iff_pos, Nat.zero_lt_succ, decide_true, decide_false, Bool.not_true, Bool.not_false, List.map_cons, List.map_nil, List.replicate, List.cons_append, List.nil_append, decide_eq_true_eq, Bool.not_eq_true', decide_eq_false_iff_not, Bool.and_eq_true, Bool.or_eq_true, or_self, or_false, false_or, or_true, true_or, and_true, true_and, and_self, not_false_eq_true, not_true_eq_false, ite_self]; rfl, by
        unfold spG
        by_cases h1 : p.1 = s.1
        · by_cases h2 : p.2 ≤ p.1
          · simp only [h1, h2, x_var, x_lit, x_op1, x_op2, x_sl, x_tup, x_lst, x_call, x_ite, x_andV, x_orV, x_notV, x_revL, x_comp, x_n, x_c, t_val, t_and, t_or, t_not, t_yes, i_seq, i_r1, i_r2, i_enum, i_zip, i_rev, s_asg, s_aug, s_app, s_setI, s_expr, s_if, s_whl, s_for, s_ret, s_retV, s_retN, s_brk, s_cont, s_pass, s_raise, s_try, q_n, q_c, b_ok, b_exc, b_bad, b_ite, u_ok, u_exc, u_bad, u_ite, o_some, o_none, q_nx, q_rt, q_bk, q_ct, q_exc, q_bad, q_ite, of_some, f_nx, f_rt, f_exc, f_ite, c_ok, c_exc, c_ite, an_t, an_b, or_b, no_b, rv_l, in_i, au_s, li_s, re_s, nx_s, en_l, zi_l, ri_l, tr_nx, tr_rt, tr_bk, tr_ct, tr_exc, tr_ite, rd_c, rd_s, pk_c, pk_f, pk_o, bo_var, bo_lit, op_lit, bo_glob, op_glob, bo_op1, op_op1, bo_op2, op_op2, bo_sl, op_sl, bo_tup, op_tup, bo_lst, op_lst, bo_call, op_call, bo_ite, op_ite, bo_andV, op_andV, bo_orV, op_orV, bo_notV, op_notV, bo_revL, op_revL, bo_comp, op_comp, op_var, op_abs, opR_i, g_var, g_tup, gs_n, gs_c, d_fz, d_ow, a_add, a_sub, a_lt, a_le, a_gt, a_ge, a_max, a_min, a_mul, a_fdiv, a_mod, a_pow, a_addl, a_addt, a_adds, a_mull, a_eqi, a_nei, a_ixl, a_ixt, a1_neg, a1_lenl, a1_lent, a1_lens, a1_listl, a1_listt, a1_tupl, a1_tupt, a1_int, a1_sum, a1_isN, a1_notN, y_int_i, y_bool_i, y_str_i, y_list_i, y_tuple_i, nn_i, y_int_s, y_bool_s, y_str_s, y_list_s, y_tuple_s, nn_s, y_int_b, y_bool_b, y_str_b, y_list_b, y_tuple_b, nn_b, y_int_l, y_bool_l, y_str_l, y_list_l, y_tuple_l, nn_l, y_int_t, y_bool_t, y_str_t, y_list_t, y_tuple_t, nn_t, y_int_n, y_bool_n, y_str_n, y_list_n, y_tuple_n, nn_n, tr_b, tr_i, tr_l, tr_t, a3_l, a3_t, sq_l, sq_t, au_add, au_sub, List.getElem?_cons_zero, List.getElem?_cons_succ, List.set_cons_zero, List.set_cons_succ, Option.map_some, Option.bind_some, if_true, if_false, Bool.false_eq_true, reduceIte, Exs.len, Nat.reduceAdd, Nat.reduceLeDiff, Nat.reduceLT, List.length_cons, List.length_nil, Nat.lt_add_left_iff_pos, Nat.zero_lt_succ, decide_true, decide_false, Bool.not_true, Bool.not_false, List.map_cons, List.map_nil, List.replicate, List.cons_append, List.nil_append, decide_eq_true_eq, Bool.not_eq_true', decide_eq_false_iff_not, Bool.and_eq_true, Bool.or_eq_true, or_self, or_false, false_or, or_true, true_or, and_true, true_and, and_self, not_false_eq_true, not_true_eq_false, ite_self, Out.ends, ne_eq, List.length_map]
            rw [h1] at h2
            simp only [h2, x_var, x_lit, x_op1, x_op2, x_sl, x_tup, x_lst, x_call, x_ite, x_andV, x_orV, x_notV, x_revL, x_comp, x_n, x_c, t_val, t_and, t_or, t_not, t_yes, i_seq, i_r1, i_r2, i_enum, i_zip, i_rev, s_asg, s_aug, s_app, s_setI, s_expr, s_if, s_whl, s_for, s_ret, s_retV, s_retN, s_brk, s_cont, s_pass, s_raise, s_try, q_n, q_c, b_ok, b_exc, b_bad, b_ite, u_ok, u_exc, u_bad, u_ite, o_some, o_none, q_nx, q_rt, q_bk, q_ct, q_exc, q_bad, q_ite, of_some, f_nx, f_rt, f_exc, f_ite, c_ok, c_exc, c_ite, an_t, an_b, or_b, no_b, rv_l, in_i, au_s, li_s, re_s, nx_s, en_l, zi_l, ri_l, tr_nx, tr_rt, tr_bk, tr_ct, tr_exc, tr_ite, rd_c, rd_s, pk_c, pk_f, pk_o, bo_var, bo_lit, op_lit, bo_glob, op_glob, bo_op1, op_op1, bo_op2, op_op2, bo_sl, op_sl, bo_tup, op_tup, bo_lst, op_lst, bo_call, op_call, bo_ite, op_ite, bo_andV, op_andV, bo_orV, op_orV, bo_notV, op_notV, bo_revL, op_revL, bo_comp, op_comp, op_var, op_abs, opR_i, g_var, g_tup, gs_n, gs_c, d_fz, d_ow, a_add, a_sub, a_lt, a_le, a_gt, a_ge, a_max, a_min, a_mul, a_fdiv, a_mod, a_pow, a_addl, a_addt, a_adds, a_mull, a_eqi, a_nei, a_ixl, a_ixt, a1_neg, a1_lenl, a1_lent, a1_lens, a1_listl, a1_listt, a1_tupl, a1_tupt, a1_int, a1_sum, a1_isN, a1_notN, y_int_i, y_bool_i, y_str_i, y_list_i, y_tuple_i, nn_i, y_int_s, y_bool_s, y_str_s, y_list_s, y_tuple_s, nn_s, y_int_b, y_bool_b, y_str_b, y_list_b, y_tuple_b, nn_b, y_int_l, y_bool_l, y_str_l, y_list_l, y_tuple_l, nn_l, y_int_t, y_bool_t, y_str_t, y_list_t, y_tuple_t, nn_t, y_int_n, y_bool_n, y_str_n, y_list_n, y_tuple_n, nn_n, tr_b, tr_i, tr_l, tr_t, a3_l, a3_t, sq_l, sq_t, au_add, au_sub, List.getElem?_cons_zero, List.getElem?_cons_succ, List.set_cons_zero, List.set_cons_succ, Option.map_some, Option.bind_some, if_true, if_false, Bool.false_eq_true, reduceIte, Exs.len, Nat.reduceAdd, Nat.reduceLeDiff, Nat.reduceLT, List.length_cons, List.length_nil, Nat.lt_add_left_iff_pos, Nat.zero_lt_succ, decide_true, decide_false, Bool.not_true, Bool.not_false, List.map_cons, List.map_nil, List.replicate, List.cons_append, List.nil_append, decide_eq_true_eq, Bool.not_eq_true', decide_eq_false_iff_not, Bool.and_eq_true, Bool.or_eq_true, or_self, or_false, false_or, or_true, true_or, and_true, true_and, and_self, not_false_eq_true, not_true_eq_false, ite_self, Out.ends]
          · by_cases h3 : (ns.length : Int) < p.2
            · have h2' : ¬ p.2 ≤ s.1 := by omega
              simp only [h1, h2', h3, x_var, x_lit, x_op1, x_op2, x_sl, x_tup, x_lst, x_call, x_ite, x_andV, x_orV, x_notV, x_revL, x_comp, x_n, x_c, t_val, t_and, t_or, t_not, t_yes, i_seq, i_r1, i_r2, i_enum, i_zip, i_rev, s_asg, s_aug, s_app, s_setI, s_expr, s_if, s_whl, s_for, s_ret, s_retV, s_retN, s_brk, s_cont, s_pass, s_raise, s_try, q_n, q_c, b_ok, b_exc, b_bad, b_ite, u_ok, u_exc, u_bad, u_ite, o_some, o_none, q_nx, q_rt, q_bk, q_ct, q_exc, q_bad, q_ite, of_some, f_nx, f_rt, f_exc, f_ite, c_ok, c_exc, c_ite, an_t, an_b, or_b, no_b, rv_l, in_i, au_s, li_s, re_s, nx_s, en_l, zi_l, ri_l, tr_nx, tr_rt, tr_bk, tr_ct, tr_exc, tr_ite, rd_c, rd_s, pk_c, pk_f, pk_o, bo_var, bo_lit, op_lit, bo_glob, op_glob, bo_op1, op_op1, bo_op2, op_op2, bo_sl, op_sl, bo_tup, op_tup, bo_lst, op_lst, bo_call, op_call, bo_ite, op_ite, bo_andV, op_andV, bo_orV, op_orV, bo_notV, op_notV, bo_revL, op_revL, bo_comp, op_comp, op_var, op_abs, opR_i, g_var, g_tup, gs_n, gs_c, d_fz, d_ow, a_add, a_sub, a_lt, a_le, a_gt, a_ge, a_max, a_min, a_mul, a_fdiv, a_mod, a_pow, a_addl, a_addt, a_adds, a_mull, a_eqi, a_nei, a_ixl, a_ixt, a1_neg, a1_lenl, a1_lent, a1_lens, a1_listl, a1_listt, a1_tupl, a1_tupt, a1_int, a1_sum, a1_isN, a1_notN, y_int_i, y_bool_i, y_str_i, y_list_i, y_tuple_i, nn_i, y_int_s, y_bool_s, y_str_s, y_list_s, y_tuple_s, nn_s, y_int_b, y_bool_b, y_str_b, y_list_b, y_tuple_b, nn_b, y_int_l, y_bool_l, y_str_l, y_list_l, y_tuple_l, nn_l, y_int_t, y_bool_t, y_str_t, y_list_t, y_tuple_t, nn_t, y_int_n, y_bool_n, y_str_n, y_list_n, y_tuple_n, nn_n, tr_b, tr_i, tr_l, tr_t, a3_l, a3_t, sq_l, sq_t, au_add, au_sub, List.getElem?_cons_zero, List.getElem?_cons_succ, List.set_cons_zero, List.set_cons_succ, Option.map_some, Option.bind_some, if_true, if_false, Bool.false_eq_true, reduceIte, Exs.len, Nat.reduceAdd, Nat.reduceLeDiff, Nat.reduceLT, List.length_cons, List.length_nil, Nat.lt_add_left_iff_pos, Nat.zero_lt_succ, decide_true, decide_false, Bool.not_true, Bool.not_false, List.map_cons, List.map_nil, List.replicate, List.cons_append, List.nil_append, decide_eq_true_eq, Bool.not_eq_true', decide_eq_false_iff_not, Bool.and_eq_true, Bool.or_eq_true, or_self, or_false, false_or, or_true, true_or, and_true, true_and, and_self, not_false_eq_true, not_true_eq_false, ite_self, Out.ends, ne_eq, List.length_map]
            · have h2' : ¬ p.2 ≤ s.1 := by omega
              simp only [h1, h2', h3, x_var, x_lit, x_op1, x_op2, x_sl, x_tup, x_lst, x_call, x_ite, x_andV, x_orV, x_notV, x_revL, x_comp, x_n, x_c, t_val, t_and, t_or, t_not, t_yes, i_seq, i_r1, i_r2, i_enum, i_zip, i_rev, s_asg, s_aug, s_app, s_setI, s_expr, s_if, s_whl, s_for, s_ret, s_retV, s_retN, s_brk, s_cont, s_pass, s_raise, s_try, q_n, q_c, b_ok, b_exc, b_bad, b_ite, u_ok, u_exc, u_bad, u_ite, o_some, o_none, q_nx, q_rt, q_bk, q_ct, q_exc, q_bad, q_ite, of_some, f_nx, f_rt, f_exc, f_ite, c_ok, c_exc, c_ite, an_t, an_b, or_b, no_b, rv_l, in_i, au_s, li_s, re_s, nx_s, en_l, zi_l, ri_l, tr_nx, tr_rt, tr_bk, tr_ct, tr_exc, tr_ite, rd_c, rd_s, pk_c, pk_f, pk_o, bo_var, bo_lit, op_lit, bo_glob, op_glob, bo_op1, op_op1, bo_op2, op_op2, bo_sl, op_sl, bo_tup, op_tup, bo_lst, op_lst, bo_call, op_call, bo_ite, op_ite, bo_andV, op_andV, bo_orV, op_orV, bo_notV, op_notV, bo_revL, op_revL, bo_comp, op_comp, op_var, op_abs, opR_i, g_var, g_tup, gs_n, gs_c, d_fz, d_ow, a_add, a_sub, a_lt, a_le, a_gt, a_ge, a_max, a_min, a_mul, a_fdiv, a_mod, a_pow, a_addl, a_addt, a_adds, a_mull, a_eqi, a_nei, a_ixl, a_ixt, a1_neg, a1_lenl, a1_lent, a1_lens, a1_listl, a1_listt, a1_tupl, a1_tupt, a1_int, a1_sum, a1_isN, a1_notN, y_int_i, y_bool_i, y_str_i, y_list_i, y_tuple_i, nn_i, y_int_s, y_bool_s, y_str_s, y_list_s, y_tuple_s, nn_s, y_int_b, y_bool_b, y_str_b, y_list_b, y_tuple_b, nn_b, y_int_l, y_bool_l, y_str_l, y_list_l, y_tuple_l, nn_l, y_int_t, y_bool_t, y_str_t, y_list_t, y_tuple_t, nn_t, y_int_n, y_bool_n, y_str_n, y_list_n, y_tuple_n, nn_n, tr_b, tr_i, tr_l, tr_t, a3_l, a3_t, sq_l, sq_t, au_add, au_sub, List.getElem?_cons_zero, List.getElem?_cons_succ, List.set_cons_zero, List.set_cons_succ, Option.map_some, Option.bind_some, if_true, if_false, Bool.false_eq_true, reduceIte, Exs.len, Nat.reduceAdd, Nat.reduceLeDiff, Nat.reduceLT, List.length_cons, List.length_nil, Nat.lt_add_left_iff_pos, Nat.zero_lt_succ, decide_true, decide_false, Bool.not_true, Bool.not_false, List.map_cons, List.map_nil, List.replicate, List.cons_append, List.nil_append, decide_eq_true_eq, Bool.not_eq_true', decide_eq_false_iff_not, Bool.and_eq_true, Bool.or_eq_true, or_self, or_false, false_or, or_true, true_or, and_true, true_and, and_self, not_false_eq_true, not_true_eq_false, ite_self, Out.ends, ne_eq, List.length_map]
              have r := r_span_sum n ns s.1 p.2
              simp only [il] at r
              simp only [r, x_var, x_lit, x_op1, x_op2, x_sl, x_tup, x_lst, x_call, x_ite, x_andV, x_orV, x_notV, x_revL, x_comp, x_n, x_c, t_val, t_and, t_or, t_not, t_yes, i_seq, i_r1, i_r2, i_enum, i_zip, i_rev, s_asg, s_aug, s_app, s_setI, s_expr, s_if, s_whl, s_for, s_ret, s_retV, s_retN, s_brk, s_cont, s_pass, s_raise, s_try, q_n, q_c, b_ok, b_exc, b_bad, b_ite, u_ok, u_exc, u_bad, u_ite, o_some, o_none, q_nx, q_rt, q_bk, q_ct, q_exc, q_bad, q_ite, of_some, f_nx, f_rt, f_exc, f_ite, c_ok, c_exc, c_ite, an_t, an_b, or_b, no_b, rv_l, in_i, au_s, li_s, re_s, nx_s, en_l, zi_l, ri_l, tr_nx, tr_rt, tr_bk, tr_ct, tr_exc, tr_ite, rd_c, rd_s, pk_c, pk_f, pk_o, bo_var, bo_lit, op_lit, bo_glob, op_glob, bo_op1, op_op1, bo_op2, op_op2, bo_sl, op_sl, bo_tup, op_tup, bo_lst, op_lst, bo_call, op_call, bo_ite, op_ite, bo_andV, op_andV, bo_orV, op_orV, bo_notV, op_notV, bo_revL, op_revL, bo_comp, op_comp, op_var, op_abs, opR_i, g_var, g_tup, gs_n, gs_c, d_fz, d_ow, a_add, a_sub, a_lt, a_le, a_gt, a_ge, a_max, a_min, a_mul, a_fdiv, a_mod, a_pow, a_addl, a_addt, a_adds, a_mull, a_eqi, a_nei, a_ixl, a_ixt, a1_neg, a1_lenl, a1_lent, a1_lens, a1_listl, a1_listt, a1_tupl, a1_tupt, a1_int, a1_sum, a1_isN, a1_notN, y_int_i, y_bool_i, y_str_i, y_list_i, y_tuple_i, nn_i, y_int_s, y_bool_s, y_str_s, y_list_s, y_tuple_s, nn_s, y_int_b, y_bool_b, y_str_b, y_list_b, y_tuple_b, nn_b, y_int_l, y_bool_l, y_str_l, y_list_l, y_tuple_l, nn_l, y_int_t, y_bool_t, y_str_t, y_list_t, y_tuple_t, nn_t, y_int_n, y_bool_n, y_str_n, y_list_n, y_tuple_n, nn_n, tr_b, tr_i, tr_l, tr_t, a3_l, a3_t, sq_l, sq_t, au_add, au_sub, List.getElem?_cons_zero, List.getElem?_cons_succ, List.set_cons_zero, List.set_cons_succ, Option.map_some, Option.bind_some, if_true, if_false, Bool.false_eq_true, reduceIte, Exs.len, Nat.reduceAdd, Nat.reduceLeDiff, Nat.reduceLT, List.length_cons, List.length_nil, Nat.lt_add_left_iff_pos, Nat.zero_lt_succ, decide_true, decide_false, Bool.not_true, Bool.not_false, List.map_cons, List.map_nil, List.replicate, List.cons_append, List.nil_append, decide_eq_true_eq, Bool.not_eq_true', decide_eq_false_iff_not, Bool.and_eq_true, Bool.or_eq_true, or_self, or_false, false_or, or_true, true_or, and_true, true_and, and_self, not_false_eq_true, not_true_eq_false, ite_self]
              by_cases h4 : room < (cut ns (some s.1) (some p.2)).sum
              · simp only [h4, x_var, x_lit, x_op1, x_op2, x_sl, x_tup, x_lst, x_call, x_ite, x_andV, x_orV, x_notV, x_revL, x_comp, x_n, x_c, t_val, t_and, t_or, t_not, t_yes, i_seq, i_r1, i_r2, i_enum, i_zip, i_rev, s_asg, s_aug, s_app, s_setI, s_expr, s_if, s_whl, s_for, s_ret, s_retV, s_retN, s_brk, s_cont, s_pass, s_raise, s_try, q_n, q_c, b_ok, b_exc, b_bad, b_ite, u_ok, u_exc, u_bad, u_ite, o_some, o_none, q_nx, q_rt, q_bk, q_ct, q_exc, q_bad, q_ite, of_some, f_nx, f_rt, f_exc, f_ite, c_ok, c_exc, c_ite, an_t, an_b, or_b, no_b, rv_l, in_i, au_s, li_s, re_s, nx_s, en_l, zi_l, ri_l, tr_nx, tr_rt, tr_bk, tr_ct, tr_exc, tr_ite, rd_c, rd_s, pk_c, pk_f, pk_o, bo_var, bo_lit, op_lit, bo_glob, op_glob, bo_op1, op_op1, bo_op2, op_op2, bo_sl, op_sl, bo_tup, op_tup, bo_lst, op_lst, bo_call, op_call, bo_ite, op_ite, bo_andV, op_andV, bo_orV, op_orV, bo_notV, op_notV, bo_revL, op_revL, bo_comp, op_comp, op_var, op_abs, opR_i, g_var, g_tup, gs_n, gs_c, d_fz, d_ow, a_add, a_sub, a_lt, a_le, a_gt, a_ge, a_max, a_min, a_mul, a_fdiv, a_mod, a_pow, a_addl, a_addt, a_adds, a_mull, a_eqi, a_nei, a_ixl, a_ixt, a1_neg, a1_lenl, a1_lent, a1_lens, a1_listl, a1_listt, a1_tupl, a1_tupt, a1_int, a1_sum, a1_isN, a1_notN, y_int_i, y_bool_i, y_str_i, y_list_i, y_tuple_i, nn_i, y_int_s, y_bool_s, y_str_s, y_list_s, y_tuple_s, nn_s, y_int_b, y_bool_b, y_str_b, y_list_b, y_tuple_b, nn_b, y_int_l, y_bool_l, y_str_l, y_list_l, y_tuple_l, nn_l, y_int_t, y_bool_t, y_str_t, y_list_t, y_tuple_t, nn_t, y_int_n, y_bool_n, y_str_n, y_list_n, y_tuple_n, nn_n, tr_b, tr_i, tr_l, tr_t, a3_l, a3_t, sq_l, sq_t, au_add, au_sub, List.getElem?_cons_zero, List.getElem?_cons_succ, List.set_cons_zero, List.set_cons_succ, Option.map_some, Option.bind_some, if_true, if_false, Bool.false_eq_true, reduceIte, Exs.len, Nat.reduceAdd, Nat.reduceLeDiff, Nat.reduceLT, List.length_cons, List.length_nil, Nat.lt_add_left_iff_pos, Nat.zero_lt_succ, decide_true, decide_false, Bool.not_true, Bool.not_false, List.map_cons, List.map_nil, List.replicate, List.cons_append, List.nil_append, decide_eq_true_eq, Bool.not_eq_true', decide_eq_false_iff_not, Bool.and_eq_true, Bool.or_eq_true, or_self, or_false, false_or, or_true, true_or, and_true, true_and, and_self, not_false_eq_true, not_true_eq_false, ite_self, Out.ends]
              · simp only [h4, x_var, x_lit, x_op1, x_op2, x_sl, x_tup, x_lst, x_call, x_ite, x_andV, x_orV, x_notV, x_revL, x_comp, x_n, x_c, t_val, t_and, t_or, t_not, t_yes, i_seq, i_r1, i_r2, i_enum, i_zip, i_rev, s_asg, s_aug, s_app, s_setI, s_expr, s_if, s_whl, s_for, s_ret, s_retV, s_retN, s_brk, s_cont, s_pass, s_raise, s_try, q_n, q_c, b_ok, b_exc, b_bad, b_ite, u_ok, u_exc, u_bad, u_ite, o_some, o_none, q_nx, q_rt, q_bk, q_ct, q_exc, q_bad, q_ite, of_some, f_nx, f_rt, f_exc, f_ite, c_ok, c_exc, c_ite, an_t, an_b, or_b, no_b, rv_l, in_i, au_s, li_s, re_s, nx_s, en_l, zi_l, ri_l, tr_nx, tr_rt, tr_bk, tr_ct, tr_exc, tr_ite, rd_c, rd_s, pk_c, pk_f, pk_o, bo_var, bo_lit, op_lit, bo_glob, op_glob, bo_op1, op_op1, bo_op2, op_op2, bo_sl, op_sl, bo_tup, op_tup, bo_lst, op_lst, bo_call, op_call, bo_ite, op_ite, bo_andV, op_andV, bo_orV, op_orV, bo_notV, op_notV, bo_revL, op_revL, bo_comp, op_comp, op_var, op_abs, opR_i, g_var, g_tup, gs_n, gs_c, d_fz, d_ow, a_add, a_sub, a_lt, a_le, a_gt, a_ge, a_max, a_min, a_mul, a_fdiv, a_mod, a_pow, a_addl, a_addt, a_adds, a_mull, a_eqi, a_nei, a_ixl, a_ixt, a1_neg, a1_lenl, a1_lent, a1_lens, a1_listl, a1_listt, a1_tupl, a1_tupt, a1_int, a1_sum, a1_isN, a1_notN, y_int_i, y_bool_i, y_str_i, y_list_i, y_tuple_i, nn_i, y_int_s, y_bool_s, y_str_s, y_list_s, y_tuple_s, nn_s, y_int_b, y_bool_b, y_str_b, y_list_b, y_tuple_b, nn_b, y_int_l, y_bool_l, y_str_l, y_list_l, y_tuple_l, nn_l, y_int_t, y_bool_t, y_str_t, y_list_t, y_tuple_t, nn_t, y_int_n, y_bool_n, y_str_n, y_list_n, y_tuple_n, nn_n, tr_b, tr_i, tr_l, tr_t, a3_l, a3_t, sq_l, sq_t, au_add, au_sub, List.getElem?_cons_zero, List.getElem?_cons_succ, List.set_cons_zero, List.set_cons_succ, Option.map_some, Option.bind_some, if_true, if_false, Bool.false_eq_true, reduceIte, Exs.len, Nat.reduceAdd, Nat.reduceLeDiff, Nat.reduceLT, List.length_cons, List.length_nil, Nat.lt_add_left_iff_pos, Nat.zero_lt_succ, decide_true, decide_false, Bool.not_true, Bool.not_false, List.map_cons, List.map_nil, List.replicate, List.cons_append, List.nil_append, decide_eq_true_eq, Bool.not_eq_true', decide_eq_false_iff_not, Bool.and_eq_true, Bool.or_eq_true, or_self, or_false, false_or, or_true, true_or, and_true, true_and, and_self, not_false_eq_true, not_true_eq_false, ite_self, Out.ends]
        · simp only [h1, x_var, x_lit, x_op1, x_op2, x_sl, x_tup, x_lst, x_call, x_ite, x_andV, x_orV, x_notV, x_revL, x_comp, x_n, x_c, t_val, t_and, t_or, t_not, t_yes, i_seq, i_r1, i_r2, i_enum, i_zip, i_rev, s_asg, s_aug, s_app, s_setI, s_expr, s_if, s_whl, s_for, s_ret, s_retV, s_retN, s_brk, s_cont, s_pass, s_raise, s_try, q_n, q_c, b_ok, b_exc, b_bad, b_ite, u_ok, u_exc, u_bad, u_ite, o_some, o_none, q_nx, q_rt, q_bk, q_ct, q_exc, q_bad, q_ite, of_some, f_nx, f_rt, f_exc, f_ite, c_ok, c_exc, c_ite, an_t, an_b, or_b, no_b, rv_l, in_i, au_s, li_s, re_s, nx_s, en_l, zi_l, ri_l, tr_nx, tr_rt, tr_bk, tr_ct, tr_exc, tr_ite, rd_c, rd_s, pk_c, pk_f, pk_o, bo_var, bo_lit, op_lit, bo_glob, op_glob, bo_op1, op_op1, bo_op2, op_op2, bo_sl, op_sl, bo_tup, op_tup, bo_lst, op_lst, bo_call, op_call, bo_ite, op_ite, bo_andV, op_andV, bo_orV, op_orV, bo_notV, op_notV, bo_revL, op_revL, bo_comp, op_comp, op_var, op_abs, opR_i, g_var, g_tup, gs_n, gs_c, d_fz, d_ow, a_add, a_sub, a_lt, a_le, a_gt, a_ge, a_max, a_min, a_mul, a_fdiv, a_mod, a_pow, a_addl, a_addt, a_adds, a_mull, a_eqi, a_nei, a_ixl, a_ixt, a1_neg, a1_lenl, a1_lent, a1_lens, a1_listl, a1_listt, a1_tupl, a1_tupt, a1_int, a1_sum, a1_isN, a1_notN, y_int_i, y_bool_i, y_str_i, y_list_i, y_tuple_i, nn_i, y_int_s, y_bool_s, y_str_s, y_list_s, y_tuple_s, nn_s, y_int_b, y_bool_b, y_str_b, y_list_b, y_tuple_b, nn_b, y_int_l, y_bool_l, y_str_l, y_list_l, y_tuple_l, nn_l, y_int_t, y_bool_t, y_str_t, y_list_t, y_tuple_t, nn_t, y_int_n, y_bool_n, y_str_n, y_list_n, y_tuple_n, nn_n, tr_b, tr_i, tr_l, tr_t, a3_l, a3_t, sq_l, sq_t, au_add, au_sub, List.getElem?_cons_zero, List.getElem?_cons_succ, List.set_cons_zero, List.set_cons_succ, Option.map_some, Option.bind_some, if_true, if_false, Bool.false_eq_true, reduceIte, Exs.len, Nat.reduceAdd, Nat.reduceLeDiff, Nat.reduceLT, List.length_cons, List.length_nil, Nat.lt_add_left_iff_pos, Nat.zero_lt_succ, decide_true, decide_false, Bool.not_true, Bool.not_false, List.map_cons, List.map_nil, List.replicate, List.cons_append, List.nil_append, decide_eq_true_eq, Bool.not_eq_true', decide_eq_false_iff_not, Bool.and_eq_true, Bool.or_eq_true, or_self, or_false, false_or, or_true, true_or, and_true, true_and, and_self, not_false_eq_true, not_true_eq_false, ite_self, Out.ends, ne_eq, List.length_map]⟩) ps (0, (none, none)) trivial]
    obtain ⟨j, e⟩ := foldX_fst (spG ns room) (.rt (.fz (.bool false))) (step := fun (s : Int × (Option Cell × Option Cell)) p => match spG ns room s.1 p with
        | some a => .inl (a, (some (.fz (.int p.1)), some (.fz (.int p.2))))
        | none => .inr (.rt (.fz (.bool false)))) (fun s p => ⟨(some (.fz (.int p.1)), some (.fz (.int p.2))), by cases spG ns room s.1 p <;> rfl⟩) ps (0, (none, none))
    rw [e]
    unfold isSp
    cases ps.foldlM (spG ns room) 0 with
    | none => simp only [x_var, x_lit, x_op1, x_op2, x_sl, x_tup, x_lst, x_call, x_ite, x_andV, x_orV, x_notV, x_revL, x_comp, x_n, x_c, t_val, t_and, t_or, t_not, t_yes, i_seq, i_r1, i_r2, i_enum, i_zip, i_rev, s_asg, s_aug, s_app, s_setI, s_expr, s_if, s_whl, s_for, s_ret, s_retV, s_retN, s_brk, s_cont, s_pass, s_raise, s_try, q_n, q_c, b_ok, b_exc, b_bad, b_ite, u_ok, u_exc, u_bad, u_ite, o_some, o_none, q_nx, q_rt, q_bk, q_ct, q_exc, q_bad, q_ite, of_some, f_nx, f_rt, f_exc, f_ite, c_ok, c_exc, c_ite, an_t, an_b, or_b, no_b, rv_l, in_i, au_s, li_s, re_s, nx_s, en_l, zi_l, ri_l, tr_nx, tr_rt, tr_bk, tr_ct, tr_exc, tr_ite, rd_c, rd_s, pk_c, pk_f, pk_o, bo_var, bo_lit, op_lit, bo_glob, op_glob, bo_op1, op_op1, bo_op2, op_op2, bo_sl, op_sl, bo_tup, op_tup, bo_lst, op_lst, bo_call, op_call, bo_ite, op_ite, bo_andV, op_andV, bo_orV, op_orV, bo_notV, op_notV, bo_revL, op_revL, bo_comp, op_comp, op_var, op_abs, opR_i, g_var, g_tup, gs_n, gs_c, d_fz, d_ow, a_add, a_sub, a_lt, a_le, a_gt, a_ge, a_max, a_min, a_mul, a_fdiv, a_mod, a_pow, a_addl, a_addt, a_adds, a_mull, a_eqi, a_nei, a_ixl, a_ixt, a1_neg, a1_lenl, a1_lent, a1_lens, a1_listl, a1_listt, a1_tupl, a1_tupt, a1_int, a1_sum, a1_isN, a1_notN, y_int_i, y_bool_i, y_str_i, y_list_i, y_tuple_i, nn_i, y_int_s, y_bool_s, y_str_s, y_list_s, y_tuple_s, nn_s, y_int_b, y_bool_b, y_str_b, y_list_b, y_tuple_b, nn_b, y_int_l, y_bool_l, y_str_l, y_list_l, y_tuple_l, nn_l, y_int_t, y_bool_t, y_str_t, y_list_t, y_tuple_t, nn_t, y_int_n, y_bool_n, y_str_n, y_list_n, y_tuple_n, nn_n, tr_b, tr_i, tr_l, tr_t, a3_l, a3_t, sq_l, sq_t, au_add, au_sub, List.getElem?_cons_zero, List.getElem?_cons_succ, List.set_cons_zero, List.set_cons_succ, Option.map_some, Option.bind_some, if_true, if_false, Bool.false_eq_true, reduceIte, Exs.len, Nat.reduceAdd, Nat.reduceLeDiff, Nat.reduceLT, List.length_cons, List.length_nil, Nat.lt_add_left_iff_pos, Nat.zero_lt_succ, decide_true, decide_false, Bool.not_true, Bool.not_false, List.map_cons, List.map_nil, List.replicate, List.cons_append, List.nil_append, decide_eq_true_eq, Bool.not_eq_true', decide_eq_false_iff_not, Bool.and_eq_true, Bool.or_eq_true, or_self, or_false, false_or, or_true, true_or, and_true, true_and, and_self, not_false_eq_true, not_true_eq_false, ite_self]
    | some a =>
      simp only [x_var, x_lit, x_op1, x_op2, x_sl, x_tup, x_lst, x_call, x_ite, x_andV, x_orV, x_notV, x_revL, x_comp, x_n, x_c, t_val, t_and, t_or, t_not, t_yes, i_seq, i_r1, i_r2, i_enum, i_zip, i_rev, s_asg, s_aug, s_app, s_setI, s_expr, s_if, s_whl, s_for, s_ret, s_retV, s_retN, s_brk, s_cont, s_pass, s_raise, s_try, q_n, q_c, b_ok, b_exc, b_bad, b_ite, u_ok, u_exc, u_bad, u_ite, o_some, o_none, q_nx, q_rt, q_bk, q_ct, q_exc, q_bad, q_ite, of_some, f_nx, f_rt, f_exc, f_ite, c_ok, c_exc, c_ite, an_t, an_b, or_b, no_b, rv_l, in_i, au_s, li_s, re_s, nx_s, en_l, zi_l, ri_l, tr_nx, tr_rt, tr_bk, tr_ct, tr_exc, tr_ite, rd_c, rd_s, pk_c, pk_f, pk_o, bo_var, bo_lit, op_lit, bo_glob, op_glob, bo_op1, op_op1, bo_op2, op_op2, bo_sl, op_sl, bo_tup, op_tup, bo_lst, op_lst, bo_call, op_call, bo_ite, op_ite, bo_andV, op_andV, bo_orV, op_orV, bo_notV, op_notV, bo_revL, op_revL, bo_comp, op_comp, op_var, op_abs, opR_i, g_var, g_tup, gs_n, gs_c, d_fz, d_ow, a_add, a_sub, a_lt, a_le, a_gt, a_ge, a_max, a_min, a_mul, a_fdiv, a_mod, a_pow, a_addl, a_addt, a_adds, a_mull, a_eqi, a_nei, a_ixl, a_ixt, a1_neg, a1_lenl, a1_lent, a1_lens, a1_listl, a1_listt, a1_tupl, a1_tupt, a1_int, a1_sum, a1_isN, a1_notN, y_int_i, y_bool_i, y_str_i, y_list_i, y_tuple_i, nn_i, y_int_s, y_bool_s, y_str_s, y_list_s, y_tuple_s, nn_s, y_int_b, y_bool_b, y_str_b, y_list_b, y_tuple_b, nn_b, y_int_l, y_bool_l, y_str_l, y_list_l, y_tuple_l, nn_l, y_int_t, y_bool_t, y_str_t, y_list_t, y_tuple_t, nn_t, y_int_n, y_bool_n, y_str_n, y_list_n, y_tuple_n, nn_n, tr_b, tr_i, tr_l, tr_t, a3_l, a3_t, sq_l, sq_t, au_add, au_sub, List.getElem?_cons_zero, List.getElem?_cons_succ, List.set_cons_zero, List.set_cons_succ, Option.map_some, Option.bind_some, if_true, if_false, Bool.false_eq_true, reduceIte, Exs.len, Nat.reduceAdd, Nat.reduceLeDiff, Nat.reduceLT, List.length_cons, List.length_nil, Nat.lt_add_left_iff_pos, Nat.zero_lt_succ, decide_true, decide_false, Bool.not_true, Bool.not_false, List.map_cons, List.map_nil, List.replicate, List.cons_append, List.nil_append, decide_eq_true_eq, Bool.not_eq_true', decide_eq_false_iff_not, Bool.and_eq_true, Bool.or_eq_true, or_self, or_false, false_or, or_true, true_or, and_true, true_and, and_self, not_false_eq_true, not_true_eq_false, ite_self, List.length_map]
      by_cases h : a = (ns.length : Int)
      · simp only [h, x_var, x_lit, x_op1, x_op2, x_sl, x_tup, x_lst, x_call, x_ite, x_andV, x_orV, x_notV, x_revL, x_comp, x_n, x_c, t_val, t_and, t_or, t_not, t_yes, i_seq, i_r1, i_r2, i_enum, i_zip, i_rev, s_asg, s_aug, s_app, s_setI, s_expr, s_if, s_whl, s_for, s_ret, s_retV, s_retN, s_brk, s_cont, s_pass, s_raise, s_try, q_n, q_c, b_ok, b_exc, b_bad, b_ite, u_ok, u_exc, u_bad, u_ite, o_some, o_none, q_nx, q_rt, q_bk, q_ct, q_exc, q_bad, q_ite, of_some, f_nx, f_rt, f_exc, f_ite, c_ok, c_exc, c_ite, an_t, an_b, or_b, no_b, rv_l, in_i, au_s, li_s, re_s, nx_s, en_l, zi_l, ri_l, tr_nx, tr_rt, tr_bk, tr_ct, tr_exc, tr_ite, rd_c, rd_s, pk_c, pk_f, pk_o, bo_var, bo_lit, op_lit, bo_glob, op_glob, bo_op1, op_op1, bo_op2, op_op2, bo_sl, op_sl, bo_tup, op_tup, bo_lst, op_lst, bo_call, op_call, bo_ite, op_ite, bo_andV, op_andV, bo_orV, op_orV, bo_notV, op_notV, bo_revL, op_revL, bo_comp, op_comp, op_var, op_abs, opR_i, g_var, g_tup, gs_n, gs_c, d_fz, d_ow, a_add, a_sub, a_lt, a_le, a_gt, a_ge, a_max, a_min, a_mul, a_fdiv, a_mod, a_pow, a_addl, a_addt, a_adds, a_mull, a_eqi, a_nei, a_ixl, a_ixt, a1_neg, a1_lenl, a1_lent, a1_lens, a1_listl, a1_listt, a1_tupl, a1_tupt, a1_int, a1_sum, a1_isN, a1_notN, y_int_i, y_bool_i, y_str_i, y_list_i, y_tuple_i, nn_i, y_int_s, y_bool_s, y_str_s, y_list_s, y_tuple_s, nn_s, y_int_b, y_bool_b, y_str_b, y_list_b, y_tuple_b, nn_b, y_int_l, y_bool_l, y_str_l, y_list_l, y_tuple_l, nn_l, y_int_t, y_bool_t, y_str_t, y_list_t, y_tuple_t, nn_t, y_int_n, y_bool_n, y_str_n, y_list_n, y_tuple_n, nn_n, tr_b, tr_i, tr_l, tr_t, a3_l, a3_t, sq_l, sq_t, au_add, au_sub, List.getElem?_cons_zero, List.getElem?_cons_succ, List.set_cons_zero, List.set_cons_succ, Option.map_some, Option.bind_some, if_true, if_false, Bool.false_eq_true, reduceIte, Exs.len, Nat.reduceAdd, Nat.reduceLeDiff, Nat.reduceLT, List.length_cons, List.length_nil, Nat.lt_add_left_iff_pos, Nat.zero_lt_succ, decide_true, decide_false, Bool.not_true, Bool.not_false, List.map_cons, List.map_nil, List.replicate, List.cons_append, List.nil_append, decide_eq_true_eq, Bool.not_eq_true', decide_eq_false_iff_not, Bool.and_eq_true, Bool.or_eq_true, or_self, or_false, false_or, or_true, true_or, and_true, true_and, and_self, not_false_eq_true, not_true_eq_false, ite_self]
        simp
      · simp only [h, x_var, x_lit, x_op1, x_op2, x_sl, x_tup, x_lst, x_call, x_ite, x_andV, x_orV, x_notV, x_revL, x_comp, x_n, x_c, t_val, t_and, t_or, t_not, t_yes, i_seq, i_r1, i_r2, i_enum, i_zip, i_rev, s_asg, s_aug, s_app, s_setI, s_expr, s_if, s_whl, s_for, s_ret, s_retV, s_retN, s_brk, s_cont, s_pass, s_raise, s_try, q_n, q_c, b_ok, b_exc, b_bad, b_ite, u_ok, u_exc, u_bad, u_ite, o_some, o_none, q_nx, q_rt, q_bk, q_ct, q_exc, q_bad, q_ite, of_some, f_nx, f_rt, f_exc, f_ite, c_ok, c_exc, c_ite, an_t, an_b, or_b, no_b, rv_l, in_i, au_s, li_s, re_s, nx_s, en_l, zi_l, ri_l, tr_nx, tr_rt, tr_bk, tr_ct, tr_exc, tr_ite, rd_c, rd_s, pk_c, pk_f, pk_o, bo_var, bo_lit, op_lit, bo_glob, op_glob, bo_op1, op_op1, bo_op2, op_op2, bo_sl, op_sl, bo_tup, op_tup, bo_lst, op_lst, bo_call, op_call, bo_ite, op_ite, bo_andV, op_andV, bo_orV, op_orV, bo_notV, op_notV, bo_revL, op_revL, bo_comp, op_comp, op_var, op_abs, opR_i, g_var, g_tup, gs_n, gs_c, d_fz, d_ow, a_add, a_sub, a_lt, a_le, a_gt, a_ge, a_max, a_min, a_mul, a_fdiv, a_mod, a_pow, a_addl, a_addt, a_adds, a_mull, a_eqi, a_nei, a_ixl, a_ixt, a1_neg, a1_lenl, a1_lent, a1_lens, a1_listl, a1_listt, a1_tupl, a1_tupt, a1_int, a1_sum, a1_isN, a1_notN, y_int_i, y_bool_i, y_str_i, y_list_i, y_tuple_i, nn_i, y_int_s, y_bool_s, y_str_s, y_list_s, y_tuple_s, nn_s, y_int_b, y_bool_b, y_str_b, y_list_b, y_tuple_b, nn_b, y_int_l, y_bool_l, y_str_l, y_list_l, y_tuple_l, nn_l, y_int_t, y_bool_t, y_str_t, y_list_t, y_tuple_t, nn_t, y_int_n, y_bool_n, y_str_n, y_list_n, y_tuple_n, nn_n, tr_b, tr_i, tr_l, tr_t, a3_l, a3_t, sq_l, sq_t, au_add, au_sub, List.getElem?_cons_zero, List.getElem?_cons_succ, List.set_cons_zero, List.set_cons_succ, Option.map_some, Option.bind_some, if_true, if_false, Bool.false_eq_true, reduceIte, Exs.len, Nat.reduceAdd, Nat.reduceLeDiff, Nat.reduceLT, List.length_cons, List.length_nil, Nat.lt_add_left_iff_pos, Nat.zero_lt_succ, decide_true, decide_false, Bool.not_true, Bool.not_false, List.map_cons, List.map_nil, List.replicate, List.cons_append, List.nil_append, decide_eq_true_eq, Bool.not_eq_true', decide_eq_false_iff_not, Bool.and_eq_true, Bool.or_eq_true, or_self, or_false, false_or, or_true, true_or, and_true, true_and, and_self, not_false_eq_true, not_true_eq_false, ite_self]
        simp
theorem r_lis (n : Nat) (ns : List Int) (room carriers : Int) (ps : List (Int × Int)) : runF cfg (n + 1) 12 [il ns, .int room, .int carriers, .list (ps.map pr)] = .ok (.fz (.bool (isSp ns room carriers ps))) := by
  rw [run_at (show cfg.funs[12]? = some f__law_is_spread from rfl) rfl]
  simp only [f__law_is_spread, il, x_var, x_lit, x_op1, x_op2, x_sl, x_tup, x_lst, x_call, x_ite, x_andV, x_orV, x_notV, x_revL, x_comp, x_n, x_c, t_val, t_and, t_or, t_not, t_yes, i_seq, i_r1, i_r2, i_enum, i_zip, i_rev, s_asg, s_aug, s_app, s_setI, s_expr, s_if, s_whl, s_for, s_ret, s_retV, s_retN, s_brk, s_cont, s_pass, s_raise, s_try, q_n, q_c, b_ok, b_exc, b_bad, b_ite, u_ok, u_exc, u_bad, u_ite, o_some, o_none, q_nx, q_rt, q_bk, q_ct, q_exc, q_bad, q_ite, of_some, f_nx, f_rt, f_exc, f_ite, c_ok, c_exc, c_ite, an_t, an_b, or_b, no_b, rv_l, in_i, au_s, li_s, re_s, nx_s, en_l, zi_l, ri_l, tr_nx, tr_rt, tr_bk, tr_ct, tr_exc, tr_ite, rd_c, rd_s, pk_c, pk_f, pk_o, bo_var, bo_lit, op_lit, bo_glob, op_glob, bo_op1, op_op1, bo_op2, op_op2, bo_sl, op_sl, bo_tup, op_tup, bo_lst, op_lst, bo_call, op_call, bo_ite, op_ite, bo_andV, op_andV, bo_orV, op_orV, bo_notV, op_notV, bo_revL, op_revL, bo_comp, op_comp, op_var, op_abs, opR_i, g_var, g_tup, gs_n, gs_c, d_fz, d_ow, a_add, a_sub, a_lt, a_le, a_gt, a_ge, a_max, a_min, a_mul, a_fdiv, a_mod, a_pow, a_addl, a_addt, a_adds, a_mull, a_eqi, a_nei, a_ixl, a_ixt, a1_neg, a1_lenl, a1_lent, a1_lens, a1_listl, a1_listt, a1_tupl, a1_tupt, a1_int, a1_sum, a1_isN, a1_notN, y_int_i, y_bool_i, y_str_i, y_list_i, y_tuple_i, nn_i, y_int_s, y_bool_s, y_str_s, y_list_s, y_tuple_s, nn_s, y_int_b, y_bool_b, y_str_b, y_list_b, y_tuple_b, nn_b, y_int_l, y_bool_l, y_str_l, y_list_l, y_tuple_l, nn_l, y_int_t, y_bool_t, y_str_t, y_list_t, y_tuple_t, nn_t, y_int_n, y_bool_n, y_str_n, y_list_n, y_tuple_n, nn_n, tr_b, tr_i, tr_l, tr_t, a3_l, a3_t, sq_l, sq_t, au_add, au_sub, List.getElem?_cons_zero, List.getElem?_cons_succ, List.set_cons_zero, List.set_cons_succ, Option.map_some, Option.bind_some, if_true, if_false, Bool.false_eq_true, reduceIte, Exs.len, Nat.reduceAdd, Nat.reduceLeDiff, Nat.reduceLT, List.length_cons, List.length_nil, Nat.lt_add_left_iff_pos, Nat.zero_lt_succ, decide_true, decide_false, Bool.not_true, Bool.not_false, List.map_cons, List.map_nil, List.replicate, List.cons_append, List.nil_append, decide_eq_true_eq, Bool.not_eq_true', decide_eq_false_iff_not, Bool.and_eq_true, Bool.or_eq_true, or_self, or_false, false_or, or_true, true_or, and_true, true_and, and_self, not_false_eq_true, not_true_eq_false, ite_self, forR]
  rw [forL_x (E := fun (s : Int × Option Cell) => [some (.fz (.list (ns.map .int))), some (.fz (.int room)), some (.fz (.int carriers)), some (.fz (.list (ps.map pr))), some (.fz (.int s.1)), s.2]) (f := pr)
      (step := fun s p => match spG ns room s.1 p with
        | some a => .inl (a, some (.fz (pr p)))
        | none => .inr (.rt (.fz (.bool false)))) (fun _ => True)
      (fun s p _ => ⟨_, by simp only [x_var, x_lit, x_op1, x_op2, x_sl, x_tup, x_lst, x_call, x_ite, x_andV, x_orV, x_notV, x_revL, x_comp, x_n, x_c, t_val, t_and, t_or, t_not, t_yes, i_seq, i_r1, i_r2, i_enum, i_zip, i_rev, s_asg, s_aug, s_app, s_setI, s_expr, s_if, s_whl, s_for, s_ret, s_retV, s_retN, s_brk, s_cont, s_pass, s_raise, s_try, q_n, q_c, b_ok, b_exc, b_bad, b_ite, u_ok, u_exc, u_bad, u_ite, o_some, o_none, q_nx, q_rt, q_bk, q_ct, q_exc, q_bad, q_ite, of_some, f_nx, f_rt, f_exc, f_ite, c_ok, c_exc, c_ite, an_t, an_b, or_b, no_b, rv_l, in_i, au_s, li_s, re_s, nx_s, en_l, zi_l, ri_l, tr_nx, tr_rt, tr_bk, tr_ct, tr_exc, tr_ite, rd_c, rd_s, pk_c, pk_f, pk_o, bo_var, bo_lit, op_lit, bo_glob, op_glob, bo_op1, op_op1, bo_op2, op_op2, bo_sl, op_sl, bo_tup, op_tup, bo_lst, op_lst, bo_call, op_call, bo_ite, op_ite, bo_andV, op_andV, bo_orV, op_orV, bo_notV, op_notV, bo_revL, op_revL, bo_comp, op_comp, op_var, op_abs, opR_i, g_var, g_tup, gs_n, gs_c, d_fz, d_ow, a_add, a_sub, a_lt, a_le, a_gt, a_ge, a_max, a_min, a_mul, a_fdiv, a_mod, a_pow, a_addl, a_addt, a_adds, a_mull, a_eqi, a_nei, a_ixl, a_ixt, a1_neg, a1_lenl, a1_lent, a1_lens, a1_listl, a1_listt, a1_tupl, a1_tupt, a1_int, a1_sum, a1_isN, a1_notN, y_int_i, y_bool_i, y_str_i, y_list_i, y_tuple_i, nn_i, y_int_s, y_bool_s, y_str_s, y_list_s, y_tuple_s, nn_s, y_int_b, y_bool_b, y_str_b, y_list_b, y_tuple_b, nn_b, y_int_l, y_bool_l, y_str_l, y_list_l, y_tuple_l, nn_l, y_int_t, y_bool_t, y_str_t, y_list_t, y_tuple_t, nn_t, y_int_n, y_bool_n, y_str_n, y_list_n, y_tuple_n, nn_n, tr_b, tr_i, tr_l, tr_t, a3_l, a3_t, sq_l, sq_t, au_add, au_sub, List.getElem?_cons_zero, List.getElem?_cons_succ, List.set_cons_zero, List.set_cons_succ, Option.map_some, Option.bind_some, if_true, if_false, Bool.false_eq_true, reduceIte, Exs.len, Nat.reduceAdd, Nat.reduceLeDiff, Nat.reduceLT, List.length_cons, List.length_nil, Nat.lt_add_left_iff_pos, Nat.zero_lt_succ, decide_true, decide_false, Bool.not_true, Bool.not_false, List.map_cons, List.map_nil, List.replicate, List.cons_append, List.nil_append, decide_eq_true_eq, Bool.not_eq_true', decide_eq_false_iff_not, Bool.and_eq_true, Bool.or_eq_true, or_self, or_false, false_or, or_true, true_or, and_true, true_and, and_self, not_false_eq_true, not_true_eq_false, ite_self]; rfl, by
        unfold spG
        by_cases h1 : p.1 = s.1
        · by_cases h2 : p.2 ≤ p.1
          · simp only [h1, h2, x_var, x_lit, x_op1, x_op2, x_sl, x_tup, x_lst, x_call, x_ite, x_andV, x_orV, x_notV, x_revL, x_comp, x_n, x_c, t_val, t_and, t_or, t_not, t_yes, i_seq, i_r1, i_r2, i_enum, i_zip, i_rev, s_asg, s_aug, s_app, s_setI, s_expr, s_if, s_whl, s_for, s_ret, s_retV, s_retN, s_brk, s_cont, s_pass, s_raise, s_try, q_n, q_c, b_ok, b_exc, b_bad, b_ite, u_ok, u_exc, u_bad, u_ite, o_some, o_none, q_nx, q_rt, q_bk, q_ct, q_exc, q_bad, q_ite, of_some, f_nx, f_rt, f_exc, f_ite, c_ok, c_exc, c_ite, an_t, an_b, or_b, no_b, rv_l, in_i, au_s, li_s, re_s, nx_s, en_l, zi_l, ri_l, tr_nx, tr_rt, tr_bk, tr_ct, tr_exc, tr_ite, rd_c, rd_s, pk_c, pk_f, pk_o, bo_var, bo_lit, op_lit, bo_glob, op_glob, bo_op1, op_op1, bo_op2, op_op2, bo_sl, op_sl, bo_tup, op_tup, bo_lst, op_lst, bo_call, op_call, bo_ite, op_ite, bo_andV, op_andV, bo_orV, op_orV, bo_notV, op_notV, bo_revL, op_revL, bo_comp, op_comp, op_var, op_abs, opR_i, g_var, g_tup, gs_n, gs_c, d_fz, d_ow, a_add, a_sub, a_lt, a_le, a_gt, a_ge, a_max, a_min, a_mul, a_fdiv, a_mod, a_pow, a_addl, a_addt, a_adds, a_mull, a_eqi, a_nei, a_ixl, a_ixt, a1_neg, a1_lenl, a1_lent, a1_lens, a1_listl, a1_listt, a1_tupl, a1_tupt, a1_int, a1_sum, a1_isN, a1_notN, y_int_i, y_bool_i, y_str_i, y_list_i, y_tuple_i, nn_i, y_int_s, y_bool_s, y_str_s, y_list_s, y_tuple_s, nn_s, y_int_b, y_bool_b, y_str_b, y_list_b, y_tuple_b, nn_b, y_int_l, y_bool_l, y_str_l, y_list_l, y_tuple_l, nn_l, y_int_t, y_bool_t, y_str_t, y_list_t, y_tuple_t, nn_t, y_int_n, y_bool_n, y_str_n, y_list_n, y_tuple_n, nn_n, tr_b, tr_i, tr_l, tr_t, a3_l, a3_t, sq_l, sq_t, au_add, au_sub, List.getElem?_cons_zero, List.getElem?_cons_succ, List.set_cons_zero, List.set_cons_succ, Option.map_some, Option.bind_some, if_true, if_false, Bool.false_eq_true, reduceIte, Exs.len, Nat.reduceAdd, Nat.reduceLeDiff, Nat.reduceLT, List.length_cons, List.length_nil, Nat.lt_add_left_iff_pos, Nat.zero_lt_succ, decide_true, decide_false, Bool.not_true, Bool.not_false, List.map_cons, List.map_nil, List.replicate, List.cons_append, List.nil_append, decide_eq_true_eq, Bool.not_eq_true', decide_eq_false_iff_not, Bool.and_eq_true, Bool.or_eq_true, or_self, or_false, false_or, or_true, true_or, and_true, true_and, and_self, not_false_eq_true, not_true_eq_false, ite_self, Out.ends, ne_eq, List.length_map, ix0, ix1]
            rw [h1] at h2
            simp only [h2, x_var, x_lit, x_op1, x_op2, x_sl, x_tup, x_lst, x_call, x_ite, x_andV, x_orV, x_notV, x_revL, x_comp, x_n, x_c, t_val, t_and, t_or, t_not, t_yes, i_seq, i_r1, i_r2, i_enum, i_zip, i_rev, s_asg, s_aug, s_app, s_setI, s_expr, s_if, s_whl, s_for, s_ret, s_retV, s_retN, s_brk, s_cont, s_pass, s_raise, s_try, q_n, q_c, b_ok, b_exc, b_bad, b_ite, u_ok, u_exc, u_bad, u_ite, o_some, o_none, q_nx, q_rt, q_bk, q_ct, q_exc, q_bad, q_ite, of_some, f_nx, f_rt, f_exc, f_ite, c_ok, c_exc, c_ite, an_t, an_b, or_b, no_b, rv_l, in_i, au_s, li_s, re_s, nx_s, en_l, zi_l, ri_l, tr_nx, tr_rt, tr_bk, tr_ct, tr_exc, tr_ite, rd_c, rd_s, pk_c, pk_f, pk_o, bo_var, bo_lit, op_lit, bo_glob, op_glob, bo_op1, op_op1, bo_op2, op_op2, bo_sl, op_sl, bo_tup, op_tup, bo_lst, op_lst, bo_call, op_call, bo_ite, op_ite, bo_andV, op_andV, bo_orV, op_orV, bo_notV, op_notV, bo_revL, op_revL, bo_comp, op_comp, op_var, op_abs, opR_i, g_var, g_tup, gs_n, gs_c, d_fz, d_ow, a_add, a_sub, a_lt, a_le, a_gt, a_ge, a_max, a_min, a_mul, a_fdiv, a_mod, a_pow, a_addl, a_addt, a_adds, a_mull, a_eqi, a_nei, a_ixl, a_ixt, a1_neg, a1_lenl, a1_lent, a1_lens, a1_listl, a1_listt, a1_tupl, a1_tupt, a1_int, a1_sum, a1_isN, a1_notN, y_int_i, y_bool_i, y_str_i, y_list_i, y_tuple_i, nn_i, y_int_s, y_bool_s, y_str_s, y_list_s, y_tuple_s, nn_s, y_int_b, y_bool_b, y_str_b, y_list_b, y_tuple_b, nn_b, y_int_l, y_bool_l, y_str_l, y_list_l, y_tuple_l, nn_l, y_int_t, y_bool_t, y_str_t, y_list_t, y_tuple_t, nn_t, y_int_n, y_bool_n, y_str_n, y_list_n, y_tuple_n, nn_n, tr_b, tr_i, tr_l, tr_t, a3_l, a3_t, sq_l, sq_t, au_add, au_sub, List.getElem?_cons_zero, List.getElem?_cons_succ, List.set_cons_zero, List.set_cons_succ, Option.map_some, Option.bind_some, if_true, if_false, Bool.false_eq_true, reduceIte, Exs.len, Nat.reduceAdd, Nat.reduceLeDiff, Nat.reduceLT, List.length_cons, List.length_nil, Nat.lt_add_left_iff_pos, Nat.zero_lt_succ, decide_true, decide_false, Bool.not_true, Bool.not_false, List.map_cons, List.map_nil, List.replicate, List.cons_append, List.nil_append, decide_eq_true_eq, Bool.not_eq_true', decide_eq_false_iff_not, Bool.and_eq_true, Bool.or_eq_true, or_self, or_false, false_or, or_true, true_or, and_true, true_and, and_self, not_false_eq_true, not_true_eq_false, ite_self, Out.ends]
          · by_cases h3 : (ns.length : Int) < p.2
            · have h2' : ¬ p.2 ≤ s.1 := by omega
              simp only [h1, h2', h3, x_var, x_lit, x_op1, x_op2, x_sl, x_tup, x_lst, x_call, x_ite, x_andV, x_orV, x_notV, x_revL, x_comp, x_n, x_c, t_val, t_and, t_or, t_not, t_yes, i_seq, i_r1, i_r2, i_enum, i_zip, i_rev, s_asg, s_aug, s_app, s_setI, s_expr, s_if, s_whl, s_for, s_ret, s_retV, s_retN, s_brk, s_cont, s_pass, s_raise, s_try, q_n, q_c, b_ok, b_exc, b_bad, b_ite, u_ok, u_exc, u_bad, u_ite, o_some, o_none, q_nx, q_rt, q_bk, q_ct, q_exc, q_bad, q_ite, of_some, f_nx, f_rt, f_exc, f_ite, c_ok, c_exc, c_ite, an_t, an_b, or_b, no_b, rv_l, in_i, au_s, li_s, re_s, nx_s, en_l, zi_l, ri_l, tr_nx, tr_rt, tr_bk, tr_ct, tr_exc, tr_ite, rd_c, rd_s, pk_c, pk_f, pk_o, bo_var, bo_lit, op_lit, bo_glob, op_glob, bo_op1, op_op1, bo_op2, op_op2, bo_sl, op_sl, bo_tup, op_tup, bo_lst, op_lst, bo_call, op_call, bo_ite, op_ite, bo_andV, op_andV, bo_orV, op_orV, bo_notV, op_notV, bo_revL, op_revL, bo_comp, op_comp, op_var, op_abs, opR_i, g_var, g_tup, gs_n, gs_c, d_fz, d_ow, a_add, a_sub, a_lt, a_le, a_gt, a_ge, a_max, a_min, a_mul, a_fdiv, a_mod, a_pow, a_addl, a_addt, a_adds, a_mull, a_eqi, a_nei, a_ixl, a_ixt, a1_neg, a1_lenl, a1_lent, a1_lens, a1_listl, a1_listt, a1_tupl, a1_tupt, a1_int, a1_sum, a1_isN, a1_notN, y_int_i, y_bool_i, y_str_i, y_list_i, y_tuple_i, nn_i, y_int_s, y_bool_s, y_str_s, y_list_s, y_tuple_s, nn_s, y_int_b, y_bool_b, y_str_b, y_list_b, y_tuple_b, nn_b, y_int_l, y_bool_l, y_str_l, y_list_l, y_tuple_l, nn_l, y_int_t, y_bool_t, y_str_t, y_list_t, y_tuple_t, nn_t, y_int_n, y_bool_n, y_str_n, y_list_n, y_tuple_n, nn_n, tr_b, tr_i, tr_l, tr_t, a3_l, a3_t, sq_l, sq_t, au_add, au_sub, List.getElem?_cons_zero, List.getElem?_cons_succ, List.set_cons_zero, List.set_cons_succ, Option.map_some, Option.bind_some, if_true, if_false, Bool.false_eq_true, reduceIte, Exs.len, Nat.reduceAdd, Nat.reduceLeDiff, Nat.reduceLT, List.length_cons, List.length_nil, Nat.lt_add_left_iff_pos, Nat.zero_lt_succ, decide_true, decide_false, Bool.not_true, Bool.not_false, List.map_cons, List.map_nil, List.replicate, List.cons_append, List.nil_append, decide_eq_true_eq, Bool.not_eq_true', decide_eq_false_iff_not, Bool.and_eq_true, Bool.or_eq_true, or_self, or_false, false_or, or_true, true_or, and_true, true_and, and_self, not_false_eq_true, not_true_eq_false, ite_self, Out.ends, ne_eq, List.length_map, ix0, ix1]
            · have h2' : ¬ p.2 ≤ s.1 := by omega
              simp only [h1, h2', h3, x_var, x_lit, x_op1, x_op2, x_sl, x_tup, x_lst, x_call, x_ite, x_andV, x_orV, x_notV, x_revL, x_comp, x_n, x_c, t_val, t_and, t_or, t_not, t_yes, i_seq, i_r1, i_r2, i_enum, i_zip, i_rev, s_asg, s_aug, s_app, s_setI, s_expr, s_if, s_whl, s_for, s_ret, s_retV, s_retN, s_brk, s_cont, s_pass, s_raise, s_try, q_n, q_c, b_ok, b_exc, b_bad, b_ite, u_ok, u_exc, u_bad, u_ite, o_some, o_none, q_nx, q_rt, q_bk, q_ct, q_exc, q_bad, q_ite, of_some, f_nx, f_rt, f_exc, f_ite, c_ok, c_exc, c_ite, an_t, an_b, or_b, no_b, rv_l, in_i, au_s, li_s, re_s, nx_s, en_l, zi_l, ri_l, tr_nx, tr_rt, tr_bk, tr_ct, tr_exc, tr_ite, rd_c, rd_s, pk_c, pk_f, pk_o, bo_var, bo_lit, op_lit, bo_glob, op_glob, bo_op1, op_op1, bo_op2, op_op2, bo_sl, op_sl, bo_tup, op_tup, bo_lst, op_lst, bo_call, op_call, bo_ite, op_ite, bo_andV, op_andV, bo_orV, op_orV, bo_notV, op_notV, bo_revL, op_revL, bo_comp, op_comp, op_var, op_abs, opR_i, g_var, g_tup, gs_n, gs_c, d_fz, d_ow, a_add, a_sub, a_lt, a_le, a_gt, a_ge, a_max, a_min, a_mul, a_fdiv, a_mod, a_pow, a_addl, a_addt, a_adds, a_mull, a_eqi, a_nei, a_ixl, a_ixt, a1_neg, a1_lenl, a1_lent, a1_lens, a1_listl, a1_listt, a1_tupl, a1_tupt, a1_int, a1_sum, a1_isN, a1_notN, y_int_i, y_bool_i, y_str_i, y_list_i, y_tuple_i, nn_i, y_int_s, y_bool_s, y_str_s, y_list_s, y_tuple_s, nn_s, y_int_b, y_bool_b, y_str_b, y_list_b, y_tuple_b, nn_b, y_int_l, y_bool_l, y_str_l, y_list_l, y_tuple_l, nn_l, y_int_t, y_bool_t, y_str_t, y_list_t, y_tuple_t, nn_t, y_int_n, y_bool_n, y_str_n, y_list_n, y_tuple_n, nn_n, tr_b, tr_i, tr_l, tr_t, a3_l, a3_t, sq_l, sq_t, au_add, au_sub, List.getElem?_cons_zero, List.getElem?_cons_succ, List.set_cons_zero, List.set_cons_succ, Option.map_some, Option.bind_some, if_true, if_false, Bool.false_eq_true, reduceIte, Exs.len, Nat.reduceAdd, Nat.reduceLeDiff, Nat.reduceLT, List.length_cons, List.length_nil, Nat.lt_add_left_iff_pos, Nat.zero_lt_succ, decide_true, decide_false, Bool.not_true, Bool.not_false, List.map_cons, List.map_nil, List.replicate, List.cons_append, List.nil_append, decide_eq_true_eq, Bool.not_eq_true', decide_eq_false_iff_not, Bool.and_eq_true, Bool.or_eq_true, or_self, or_false, false_or, or_true, true_or, and_true, true_and, and_self, not_false_eq_true, not_true_eq_false, ite_self, Out.ends, ne_eq, List.length_map, ix0, ix1, cut_map, ints_all]
              by_cases h4 : room < (cut ns (some s.1) (some p.2)).sum
              · simp only [h4, x_var, x_lit, x_op1, x_op2, x_sl, x_tup, x_lst, x_call, x_ite, x_andV, x_orV, x_notV, x_revL, x_comp, x_n, x_c, t_val, t_and, t_or, t_not, t_yes, i_seq, i_r1, i_r2, i_enum, i_zip, i_rev, s_asg, s_aug, s_app, s_setI, s_expr, s_if, s_whl, s_for, s_ret, s_retV, s_retN, s_brk, s_cont, s_pass, s_raise, s_try, q_n, q_c, b_ok, b_exc, b_bad, b_ite, u_ok, u_exc, u_bad, u_ite, o_some, o_none, q_nx, q_rt, q_bk, q_ct, q_exc, q_bad, q_ite, of_some, f_nx, f_rt, f_exc, f_ite, c_ok, c_exc, c_ite, an_t, an_b, or_b, no_b, rv_l, in_i, au_s, li_s, re_s, nx_s, en_l, zi_l, ri_l, tr_nx, tr_rt, tr_bk, tr_ct, tr_exc, tr_ite, rd_c, rd_s, pk_c, pk_f, pk_o, bo_var, bo_lit, op_lit, bo_glob, op_glob, bo_op1, op_op1, bo_op2, op_op2, bo_sl, op_sl, bo_tup, op_tup, bo_lst, op_lst, bo_call, op_call, bo_ite, op_ite, bo_andV, op_andV, bo_orV, op_orV, bo_notV, op_notV, bo_revL, op_revL, bo_comp, op_comp, op_var, op_abs, opR_i, g_var, g_tup, gs_n, gs_c, d_fz, d_ow, a_add, a_sub, a_lt, a_le, a_gt, a_ge, a_max, a_min, a_mul, a_fdiv, a_mod, a_pow, a_addl, a_addt, a_adds, a_mull, a_eqi, a_nei, a_ixl, a_ixt, a1_neg, a1_lenl, a1_lent, a1_lens, a1_listl, a1_listt, a1_tupl, a1_tupt, a1_int, a1_sum, a1_isN, a1_notN, y_int_i, y_bool_i, y_str_i, y_list_i, y_tuple_i, nn_i, y_int_s, y_bool_s, y_str_s, y_list_s, y_tuple_s, nn_s, y_int_b, y_bool_b, y_str_b, y_list_b, y_tuple_b, nn_b, y_int_l, y_bool_l, y_str_l, y_list_l, y_tuple_l, nn_l, y_int_t, y_bool_t, y_str_t, y_list_t, y_tuple_t, nn_t, y_int_n, y_bool_n, y_str_n, y_list_n, y_tuple_n, nn_n, tr_b, tr_i, tr_l, tr_t, a3_l, a3_t, sq_l, sq_t, au_add, au_sub, List.getElem?_cons_zero, List.getElem?_cons_succ, List.set_cons_zero, List.set_cons_succ, Option.map_some, Option.bind_some, if_true, if_false, Bool.false_eq_true, reduceIte, Exs.len, Nat.reduceAdd, Nat.reduceLeDiff, Nat.reduceLT, List.length_cons, List.length_nil, Nat.lt_add_left_iff_pos, Nat.zero_lt_succ, decide_true, decide_false, Bool.not_true, Bool.not_false, List.map_cons, List.map_nil, List.replicate, List.cons_append, List.nil_append, decide_eq_true_eq, Bool.not_eq_true', decide_eq_false_iff_not, Bool.and_eq_true, Bool.or_eq_true, or_self, or_false, false_or, or_true, true_or, and_true, true_and, and_self, not_false_eq_true, not_true_eq_false, ite_self, Out.ends]
              · simp only [h4, x_var, x_lit, x_op1, x_op2, x_sl, x_tup, x_lst, x_call, x_ite, x_andV, x_orV, x_notV, x_revL, x_comp, x_n, x_c, t_val, t_and, t_or, t_not, t_yes, i_seq, i_r1, i_r2, i_enum, i_zip, i_rev, s_asg, s_aug, s_app, s_setI, s_expr, s_if, s_whl, s_for, s_ret, s_retV, s_retN, s_brk, s_cont, s_pass, s_raise, s_try, q_n, q_c, b_ok, b_exc, b_bad, b_ite, u_ok, u_exc, u_bad, u_ite, o_some, o_none, q_nx, q_rt, q_bk, q_ct, q_exc, q_bad, q_ite, of_some, f_nx, f_rt, f_exc, f_ite, c_ok, c_exc, c_ite, an_t, an_b, or_b, no_b, rv_l, in_i, au_s, li_s, re_s, nx_s, en_l, zi_l, ri_l, tr_nx, tr_rt, tr_bk, tr_ct, tr_exc, tr_ite, rd_c, rd_s, pk_c, pk_f, pk_o, bo_var, bo_lit, op_lit, bo_glob, op_glob, bo_op1, op_op1, bo_op2, op_op2, bo_sl, op_sl, bo_tup, op_tup, bo_lst, op_lst, bo_call, op_call, bo_ite, op_ite, bo_andV, op_andV, bo_orV, op_orV, bo_notV, op_notV, bo_revL, op_revL, bo_comp, op_comp, op_var, op_abs, opR_i, g_var, g_tup, gs_n, gs_c, d_fz, d_ow, a_add, a_sub, a_lt, a_le, a_gt, a_ge, a_max, a_min, a_mul, a_fdiv, a_mod, a_pow, a_addl, a_addt, a_adds, a_mull, a_eqi, a_nei, a_ixl, a_ixt, a1_neg, a1_lenl, a1_lent, a1_lens, a1_listl, a1_listt, a1_tupl, a1_tupt, a1_int, a1_sum, a1_isN, a1_notN, y_int_i, y_bool_i, y_str_i, y_list_i, y_tuple_i, nn_i, y_int_s, y_bool_s, y_str_s, y_list_s, y_tuple_s, nn_s, y_int_b, y_bool_b, y_str_b, y_list_b, y_tuple_b, nn_b, y_int_l, y_bool_l, y_str_l, y_list_l, y_tuple_l, nn_l, y_int_t, y_bool_t, y_str_t, y_list_t, y_tuple_t, nn_t, y_int_n, y_bool_n, y_str_n, y_list_n, y_tuple_n, nn_n, tr_b, tr_i, tr_l, tr_t, a3_l, a3_t, sq_l, sq_t, au_add, au_sub, List.getElem?_cons_zero, List.getElem?_cons_succ, List.set_cons_zero, List.set_cons_succ, Option.map_some, Option.bind_some, if_true, if_false, Bool.false_eq_true, reduceIte, Exs.len, Nat.reduceAdd, Nat.reduceLeDiff, Nat.reduceLT, List.length_cons, List.length_nil, Nat.lt_add_left_iff_pos, Nat.zero_lt_succ, decide_true, decide_false, Bool.not_true, Bool.not_false, List.map_cons, List.map_nil, List.replicate, List.cons_append, List.nil_append, decide_eq_true_eq, Bool.not_eq_true', decide_eq_false_iff_not, Bool.and_eq_true, Bool.or_eq_true, or_self, or_false, false_or, or_true, true_or, and_true, true_and, and_self, not_false_eq_true, not_true_eq_false, ite_self, Out.ends]
        · simp only [h1, x_var, x_lit, x_op1, x_op2, x_sl, x_tup, x_lst, x_call, x_ite, x_andV, x_orV, x_notV, x_revL, x_comp, x_n, x_c, t_val, t_and, t_or, t_not, t_yes, i_seq, i_r1, i_r2, i_enum, i_zip, i_rev, s_asg, s_aug, s_app, s_setI, s_expr, s_if, s_whl, s_for, s_ret, s_retV, s_retN, s_brk, s_cont, s_pass, s_raise, s_try, q_n, q_c, b_ok, b_exc, b_bad, b_ite, u_ok, u_exc, u_bad, u_ite, o_some, o_none, q_nx, q_rt, q_bk, q_ct, q_exc, q_bad, q_ite, of_some, f_nx, f_rt, f_exc, f_ite, c_ok, c_exc, c_ite, an_t, an_b, or_b, no_b, rv_l, in_i, au_s, li_s, re_s, nx_s, en_l, zi_l, ri_l, tr_nx, tr_rt, tr_bk, tr_ct, tr_exc, tr_ite, rd_c, rd_s, pk_c, pk_f, pk_o, bo_var, bo_lit, op_lit, bo_glob, op_glob, bo_op1, op_op1, bo_op2, op_op2, bo_sl, op_sl, bo_tup, op_tup, bo_lst, op_lst, bo_call, op_call, bo_ite, op_ite, bo_andV, op_andV, bo_orV, op_orV, bo_notV, op_notV, bo_revL, op_revL, bo_comp, op_comp, op_var, op_abs, opR_i, g_var, g_tup, gs_n, gs_c, d_fz, d_ow, a_add, a_sub, a_lt, a_le, a_gt, a_ge, a_max, a_min, a_mul, a_fdiv, a_mod, a_pow, a_addl, a_addt, a_adds, a_mull, a_eqi, a_nei, a_ixl, a_ixt, a1_neg, a1_lenl, a1_lent, a1_lens, a1_listl, a1_listt, a1_tupl, a1_tupt, a1_int, a1_sum, a1_isN, a1_notN, y_int_i, y_bool_i, y_str_i, y_list_i, y_tuple_i, nn_i, y_int_s, y_bool_s, y_str_s, y_list_s, y_tuple_s, nn_s, y_int_b, y_bool_b, y_str_b, y_list_b, y_tuple_b, nn_b, y_int_l, y_bool_l, y_str_l, y_list_l, y_tuple_l, nn_l, y_int_t, y_bool_t, y_str_t, y_list_t, y_tuple_t, nn_t, y_int_n, y_bool_n, y_str_n, y_list_n, y_tuple_n, nn_n, tr_b, tr_i, tr_l, tr_t, a3_l, a3_t, sq_l, sq_t, au_add, au_sub, List.getElem?_cons_zero, List.getElem?_cons_succ, List.set_cons_zero, List.set_cons_succ, Option.map_some, Option.bind_some, if_true, if_false, Bool.false_eq_true, reduceIte, Exs.len, Nat.reduceAdd, Nat.reduceLeDiff, Nat.reduceLT, List.length_cons, List.length_nil, Nat.lt_add_left_iff_pos, Nat.zero_lt_succ, decide_true, decide_false, Bool.not_true, Bool.not_false, List.map_cons, List.map_nil, List.replicate, List.cons_append, List.nil_append, decide_eq_true_eq, Bool.not_eq_true', decide_eq_false_iff_not, Bool.and_eq_true, Bool.or_eq_true, or_self, or_false, false_or, or_true, true_or, and_true, true_and, and_self, not_false_eq_true, not_true_eq_false, ite_self, Out.ends, ne_eq, List.length_map, ix0, ix1]⟩) ps (0, none) trivial]
  obtain ⟨j, e⟩ := foldX_fst (spG ns room) (.rt (.fz (.bool false))) (step := fun (s : Int × Option Cell) p => match spG ns room s.1 p with
        | some a => .inl (a, some (.fz (pr p)))
        | none => .inr (.rt (.fz (.bool false)))) (fun s p => ⟨some (.fz (pr p)), by cases spG ns room s.1 p <;> rfl⟩) ps (0, none)
  rw [e]
  unfold isSp
  cases ps.foldlM (spG ns room) 0 with
  | none => simp only [x_var, x_lit, x_op1, x_op2, x_sl, x_tup, x_lst, x_call, x_ite, x_andV, x_orV, x_notV, x_revL, x_comp, x_n, x_c, t_val, t_and, t_or, t_not, t_yes, i_seq, i_r1, i_r2, i_enum, i_zip, i_rev, s_asg, s_aug, s_app, s_setI, s_expr, s_if, s_whl, s_for, s_ret, s_retV, s_retN, s_brk, s_cont, s_pass, s_raise, s_try, q_n, q_c, b_ok, b_exc, b_bad, b_ite, u_ok, u_exc, u_bad, u_ite, o_some, o_none, q_nx, q_rt, q_bk, q_ct, q_exc, q_bad, q_ite, of_some, f_nx, f_rt, f_exc, f_ite, c_ok, c_exc, c_ite, an_t, an_b, or_b, no_b, rv_l, in_i, au_s, li_s, re_s, nx_s, en_l, zi_l, ri_l, tr_nx, tr_rt, tr_bk, tr_ct, tr_exc, tr_ite, rd_c, rd_s, pk_c, pk_f, pk_o, bo_var, bo_lit, op_lit, bo_glob, op_glob, bo_op1, op_op1, bo_op2, op_op2, bo_sl, op_sl, bo_tup, op_tup, bo_lst, op_lst, bo_call, op_call, bo_ite, op_ite, bo_andV, op_andV, bo_orV, op_orV, bo_notV, op_notV, bo_revL, op_revL, bo_comp, op_comp, op_var, op_abs, opR_i, g_var, g_tup, gs_n, gs_c, d_fz, d_ow, a_add, a_sub, a_lt, a_le, a_gt, a_ge, a_max, a_min, a_mul, a_fdiv, a_mod, a_pow, a_addl, a_addt, a_adds, a_mull, a_eqi, a_nei, a_ixl, a_ixt, a1_neg, a1_lenl, a1_lent, a1_lens, a1_listl, a1_listt, a1_tupl, a1_tupt, a1_int, a1_sum, a1_isN, a1_notN, y_int_i, y_bool_i, y_str_i, y_list_i, y_tuple_i, nn_i, y_int_s, y_bool_s, y_str_s, y_list_s, y_tuple_s, nn_s, y_int_b, y_bool_b, y_str_b, y_list_b, y_tuple_b, nn_b, y_int_l, y_bool_l, y_str_l, y_list_l, y_tuple_l, nn_l, y_int_t, y_bool_t, y_str_t, y_list_t, y_tuple_t, nn_t, y_int_n, y_bool_n, y_str_n, y_list_n, y_tuple_n, nn_n, tr_b, tr_i, tr_l, tr_t, a3_l, a3_t, sq_l, sq_t, au_add, au_sub, List.getElem?_cons_zero, List.getElem?_cons_succ, List.set_cons_zero, List.set_cons_succ, Option.map_some, Option.bind_some, if_true, if_false, Bool.false_eq_true, reduceIte, Exs.len, Nat.reduceAdd, Nat.reduceLeDiff, Nat.reduceLT, List.length_cons, List.length_nil, Nat.lt_add_left_iff_pos, Nat.zero_lt_succ, decide_true, decide_false, Bool.not_true, Bool.not_false, List.map_cons, List.map_nil, List.replicate, List.cons_append, List.nil_append, decide_eq_true_eq, Bool.not_eq_true', decide_eq_false_iff_not, Bool.and_eq_true, Bool.or_eq_true, or_self, or_false, false_or, or_true, true_or, and_true, true_and, and_self, not_false_eq_true, not_true_eq_false, ite_self]
  | some a =>
    simp only [x_var, x_lit, x_op1, x_op2, x_sl, x_tup, x_lst, x_call, x_ite, x_andV, x_orV, x_notV, x_revL, x_comp, x_n, x_c, t_val, t_and, t_or, t_not, t_yes, i_seq, i_r1, i_r2, i_enum, i_zip, i_rev, s_asg, s_aug, s_app, s_setI, s_expr, s_if, s_whl, s_for, s_ret, s_retV, s_retN, s_brk, s_cont, s_pass, s_raise, s_try, q_n, q_c, b_ok, b_exc, b_bad, b_ite, u_ok, u_exc, u_bad, u_ite, o_some, o_none, q_nx, q_rt, q_bk, q_ct, q_exc, q_bad, q_ite, of_some, f_nx, f_rt, f_exc, f_ite, c_ok, c_exc, c_ite, an_t, an_b, or_b, no_b, rv_l, in_i, au_s, li_s, re_s, nx_s, en_l, zi_l, ri_l, tr_nx, tr_rt, tr_bk, tr_ct, tr_exc, tr_ite, rd_c, rd_s, pk_c, pk_f, pk_o, bo_var, bo_lit, op_lit, bo_glob, op_glob, bo_op1, op_op1, bo_op2, op_op2, bo_sl, op_sl, bo_tup, op_tup, bo_lst, op_lst, bo_call, op_call, bo_ite, op_ite, bo_andV, op_andV, bo_orV, op_orV, bo_notV, op_notV, bo_revL, op_revL, bo_comp, op_comp, op_var, op_abs, opR_i, g_var, g_tup, gs_n, gs_c, d_fz, d_ow, a_add, a_sub, a_lt, a_le, a_gt, a_ge, a_max, a_min, a_mul, a_fdiv, a_mod, a_pow, a_addl, a_addt, a_adds, a_mull, a_eqi, a_nei, a_ixl, a_ixt, a1_neg, a1_lenl, a1_lent, a1_lens, a1_listl, a1_listt, a1_tupl, a1_tupt, a1_int, a1_sum, a1_isN, a1_notN, y_int_i, y_bool_i, y_str_i, y_list_i, y_tuple_i, nn_i, y_int_s, y_bool_s, y_str_s, y_list_s, y_tuple_s, nn_s, y_int_b, y_bool_b, y_str_b, y_list_b, y_tuple_b, nn_b, y_int_l, y_bool_l, y_str_l, y_list_l, y_tuple_l, nn_l, y_int_t, y_bool_t, y_str_t, y_list_t, y_tuple_t, nn_t, y_int_n, y_bool_n, y_str_n, y_list_n, y_tuple_n, nn_n, tr_b, tr_i, tr_l, tr_t, a3_l, a3_t, sq_l, sq_t, au_add, au_sub, List.getElem?_cons_zero, List.getElem?_cons_succ, List.set_cons_zero, List.set_cons_succ, Option.map_some, Option.bind_some, if_true, if_false, Bool.false_eq_true, reduceIte, Exs.len, Nat.reduceAdd, Nat.reduceLeDiff, Nat.reduceLT, List.length_cons, List.length_nil, Nat.lt_add_left_iff_pos, Nat.zero_lt_succ, decide_true, decide_false, Bool.not_true, Bool.not_false, List.map_cons, List.map_nil, List.replicate, List.cons_append, List.nil_append, decide_eq_true_eq, Bool.not_eq_true', decide_eq_false_iff_not, Bool.and_eq_true, Bool.or_eq_true, or_self, or_false, false_or, or_true, true_or, and_true, true_and, and_self, not_false_eq_true, not_true_eq_false, ite_self, List.length_map]
    by_cases h : a = (ns.length : Int)
    · simp only [h, x_var, x_lit, x_op1, x_op2, x_sl, x_tup, x_lst, x_call, x_ite, x_andV, x_orV, x_notV, x_revL, x_comp, x_n, x_c, t_val, t_and, t_or, t_not, t_yes, i_seq, i_r1, i_r2, i_enum, i_zip, i_rev, s_asg, s_aug, s_app, s_setI, s_expr, s_if, s_whl, s_for, s_ret, s_retV, s_retN, s_brk, s_cont, s_pass, s_raise, s_try, q_n, q_c, b_ok, b_exc, b_bad, b_ite, u_ok, u_exc, u_bad, u_ite, o_some, o_none, q_nx, q_rt, q_bk, q_ct, q_exc, q_bad, q_ite, of_some, f_nx, f_rt, f_exc, f_ite, c_ok, c_exc, c_ite, an_t, an_b, or_b, no_b, rv_l, in_i, au_s, li_s, re_s, nx_s, en_l, zi_l, ri_l, tr_nx, tr_rt, tr_bk, tr_ct, tr_exc, tr_ite, rd_c, rd_s, pk_c, pk_f, pk_o, bo_var, bo_lit, op_lit, bo_glob, op_glob, bo_op1, op_op1, bo_op2, op_op2, bo_sl, op_sl, bo_tup, op_tup, bo_lst, op_lst, bo_call, op_call, bo_ite, op_ite, bo_andV, op_andV, bo_orV, op_orV, bo_notV, op_notV, bo_revL, op_revL, bo_comp, op_comp, op_var, op_abs, opR_i, g_var, g_tup, gs_n, gs_c, d_fz, d_ow, a_add, a_sub, a_lt, a_le, a_gt, a_ge, a_max, a_min, a_mul, a_fdiv, a_mod, a_pow, a_addl, a_addt, a_adds, a_mull, a_eqi, a_nei, a_ixl, a_ixt, a1_neg, a1_lenl, a1_lent, a1_lens, a1_listl, a1_listt, a1_tupl, a1_tupt, a1_int, a1_sum, a1_isN, a1_notN, y_int_i, y_bool_i, y_str_i, y_list_i, y_tuple_i, nn_i, y_int_s, y_bool_s, y_str_s, y_list_s, y_tuple_s, nn_s, y_int_b, y_bool_b, y_str_b, y_list_b, y_tuple_b, nn_b, y_int_l, y_bool_l, y_str_l, y_list_l, y_tuple_l, nn_l, y_int_t, y_bool_t, y_str_t, y_list_t, y_tuple_t, nn_t, y_int_n, y_bool_n, y_str_n, y_list_n, y_tuple_n, nn_n, tr_b, tr_i, tr_l, tr_t, a3_l, a3_t, sq_l, sq_t, au_add, au_sub, List.getElem?_cons_zero, List.getElem?_cons_succ, List.set_cons_zero, List.set_cons_succ, Option.map_some, Option.bind_some, if_true, if_false, Bool.false_eq_true, reduceIte, Exs.len, Nat.reduceAdd, Nat.reduceLeDiff, Nat.reduceLT, List.length_cons, List.length_nil, Nat.lt_add_left_iff_pos, Nat.zero_lt_succ, decide_true, decide_false, Bool.not_true, Bool.not_false, List.map_cons, List.map_nil, List.replicate, List.cons_append, List.nil_append, decide_eq_true_eq, Bool.not_eq_true', decide_eq_false_iff_not, Bool.and_eq_true, Bool.or_eq_true, or_self, or_false, false_or, or_true, true_or, and_true, true_and, and_self, not_false_eq_true, not_true_eq_false, ite_self]
      simp
    · simp only [h, x_var, x_lit, x_op1, x_op2, x_sl, x_tup, x_lst, x_call, x_ite, x_andV, x_orV, x_notV, x_revL, x_comp, x_n, x_c, t_val, t_and, t_or, t_not, t_yes, i_seq, i_r1, i_r2, i_enum, i_zip, i_rev, s_asg, s_aug, s_app, s_setI, s_expr, s_if, s_whl, s_for, s_ret, s_retV, s_retN, s_brk, s_cont, s_pass, s_raise, s_try, q_n, q_c, b_ok, b_exc, b_bad, b_ite, u_ok, u_exc, u_bad, u_ite, o_some, o_none, q_nx, q_rt, q_bk, q_ct, q_exc, q_bad, q_ite, of_some, f_nx, f_rt, f_exc, f_ite, c_ok, c_exc, c_ite, an_t, an_b, or_b, no_b, rv_l, in_i, au_s, li_s, re_s, nx_s, en_l, zi_l, ri_l, tr_nx, tr_rt, tr_bk, tr_ct, tr_exc, tr_ite, rd_c, rd_s, pk_c, pk_f, pk_o, bo_var, bo_lit, op_lit, bo_glob, op_glob, bo_op1, op_op1, bo_op2, op_op2, bo_sl, op_sl, bo_tup, op_tup, bo_lst, op_lst, bo_call, op_call, bo_ite, op_ite, bo_andV, op_andV, bo_orV, op_orV, bo_notV, op_notV, bo_revL, op_revL, bo_comp, op_comp, op_var, op_abs, opR_i, g_var, g_tup, gs_n, gs_c, d_fz, d_ow, a_add, a_sub, a_lt, a_le, a_gt, a_ge, a_max, a_min, a_mul, a_fdiv, a_mod, a_pow, a_addl, a_addt, a_adds, a_mull, a_eqi, a_nei, a_ixl, a_ixt, a1_neg, a1_lenl, a1_lent, a1_lens, a1_listl, a1_listt, a1_tupl, a1_tupt, a1_int, a1_sum, a1_isN, a1_notN, y_int_i, y_bool_i, y_str_i, y_list_i, y_tuple_i, nn_i, y_int_s, y_bool_s, y_str_s, y_list_s, y_tuple_s, nn_s, y_int_b, y_bool_b, y_str_b, y_list_b, y_tuple_b, nn_b, y_int_l, y_bool_l, y_str_l, y_list_l, y_tuple_l, nn_l, y_int_t, y_bool_t, y_str_t, y_list_t, y_tuple_t, nn_t, y_int_n, y_bool_n, y_str_n, y_list_n, y_tuple_n, nn_n, tr_b, tr_i, tr_l, tr_t, a3_l, a3_t, sq_l, sq_t, au_add, au_sub, List.getElem?_cons_zero, List.getElem?_cons_succ, List.set_cons_zero, List.set_cons_succ, Option.map_some, Option.bind_some, if_true, if_false, Bool.false_eq_true, reduceIte, Exs.len, Nat.reduceAdd, Nat.reduceLeDiff, Nat.reduceLT, List.length_cons, List.length_nil, Nat.lt_add_left_iff_pos, Nat.zero_lt_succ, decide_true, decide_false, Bool.not_true, Bool.not_false, List.map_cons, List.map_nil, List.replicate, List.cons_append, List.nil_append, decide_eq_true_eq, Bool.not_eq_true', decide_eq_false_iff_not, Bool.and_eq_true, Bool.or_eq_true, or_self, or_false, false_or, or_true, true_or, and_true, true_and, and_self, not_false_eq_true, not_true_eq_false, ite_self]
      simp
end PD.K55

end

section
set_option Elab.async false
set_option linter.all false
set_option maxRecDepth 100000
namespace PD.K55
open PySem
def tfG (ns : List Int) (room : Int) (least : Int) (p : Int × Int) : Option Int := if p.1 < least ∨ p.2 ≤ p.1 ∨ (ns.length : Int) < p.2 then none else if (cut ns (some p.1) (some p.2)).sum ≤ room then none else some (p.2 - 1)
def isFew (ns : List Int) (room carriers : Int) (ps : List (Int × Int)) : Bool := if ns.length = 0 ∨ (ps.length : Int) ≠ carriers then false else (ps.foldlM (tfG ns room) 0).isSome
theorem few_no {ns : List Int} {room carriers : Int} {ps : List (Int × Int)} (h : ns.length = 0 ∨ (ps.length : Int) ≠ carriers) : isFew ns room carriers ps = false := by
  unfold isFew
  rw [if_pos h]
theorem few_yes {ns : List Int} {room carriers : Int} {ps : List (Int × Int)} (h1 : ¬ ns.length = 0) (h2 : (ps.length : Int) = carriers) : isFew ns room carriers ps = (ps.foldlM (tfG ns room) 0).isSome := by
  unfold isFew
  rw [if_neg (by simp [h1, h2])]
theorem r_few (n : Nat) (ns : List Int) (room carriers : Int) (ps : List (Int × Int)) : runF cfg (n + 2) 7 [il ns, .int room, .int carriers, .list (ps.map pr)] = asFR (chk ns room) (.fz (.bool (isFew ns room carriers ps))) := by
  rw [run_at (show cfg.funs[7]? = some f_shows_too_few from rfl) rfl]
  simp only [f_shows_too_few, il, x_var, x_lit, x_op1, x_op2, x_sl, x_tup, x_lst, x_call, x_ite, x_andV, x_orV, x_notV, x_revL, x_comp, x_n, x_c, t_val, t_and, t_or, t_not, t_yes, i_seq, i_r1, i_r2, i_enum, i_zip, i_rev, s_asg, s_aug, s_app, s_setI, s_expr, s_if, s_whl, s_for, s_ret, s_retV, s_retN, s_brk, s_cont, s_pass, s_raise, s_try, q_n, q_c, b_ok, b_exc, b_bad, b_ite, u_ok, u_exc, u_bad, u_ite, o_some, o_none, q_nx, q_rt, q_bk, q_ct, q_exc, q_bad, q_ite, of_some, f_nx, f_rt, f_exc, f_ite, c_ok, c_exc, c_ite, an_t, an_b, or_b, no_b, rv_l, in_i, au_s, li_s, re_s, nx_s, en_l, zi_l, ri_l, tr_nx, tr_rt, tr_bk, tr_ct, tr_exc, tr_ite, rd_c, rd_s, pk_c, pk_f, pk_o, bo_var, bo_lit, op_lit, bo_glob, op_glob, bo_op1, op_op1, bo_op2, op_op2, bo_sl, op_sl, bo_tup, op_tup, bo_lst, op_lst, bo_call, op_call, bo_ite, op_ite, bo_andV, op_andV, bo_orV, op_orV, bo_notV, op_notV, bo_revL, op_revL, bo_comp, op_comp, op_var, op_abs, opR_i, g_var, g_tup, gs_n, gs_c, d_fz, d_ow, a_add, a_sub, a_lt, a_le, a_gt, a_ge, a_max, a_min, a_mul, a_fdiv, a_mod, a_pow, a_addl, a_addt, a_adds, a_mull, a_eqi, a_nei, a_ixl, a_ixt, a1_neg, a1_lenl, a1_lent, a1_lens, a1_listl, a1_listt, a1_tupl, a1_tupt, a1_int, a1_sum, a1_isN, a1_notN, y_int_i, y_bool_i, y_str_i, y_list_i, y_tuple_i, nn_i, y_int_s, y_bool_s, y_str_s, y_list_s, y_tuple_s, nn_s, y_int_b, y_bool_b, y_str_b, y_list_b, y_tuple_b, nn_b, y_int_l, y_bool_l, y_str_l, y_list_l, y_tuple_l, nn_l, y_int_t, y_bool_t, y_str_t, y_list_t, y_tuple_t, nn_t, y_int_n, y_bool_n, y_str_n, y_list_n, y_tuple_n, nn_n, tr_b, tr_i, tr_l, tr_t, a3_l, a3_t, sq_l, sq_t, au_add, au_sub, List.getElem?_cons_zero, List.getElem?_cons_succ, List.set_cons_zero, List.set_cons_succ, Option.map_some, Option.bind_some, if_true, if_false, Bool.false_eq_true, reduceIte, Exs.len, Nat.reduceAdd, Nat.reduceLeDiff, Nat.reduceLT, List.length_cons, List.length_nil, Nat.lt_add_left_iff_pos, Nat.zero_lt_succ, decide_true, decide_false, Bool.not_true, Bool.not_false, List.map_cons, List.map_nil, List.replicate, List.cons_append, List.nil_append, decide_eq_true_eq, Bool.not_eq_true', decide_eq_false_iff_not, Bool.and_eq_true, Bool.or_eq_true, or_self, or_false, false_or, or_true, true_or, and_true, true_and, and_self, not_false_eq_true, not_true_eq_false, ite_self]
  rw [r_check]
  cases hc : chk ns room with
  | some x => simp only [asFR, x_var, x_lit, x_op1, x_op2, x_sl, x_tup, x_lst, x_call, x_ite, x_andV, x_orV, x_notV, x_revL, x_comp, x_n, x_c, t_val, t_and, t_or, t_not, t_yes, i_seq, i_r1, i_r2, i_enum, i_zip, i_rev, s_asg, s_aug, s_app, s_setI, s_expr, s_if, s_whl, s_for, s_ret, s_retV, s_retN, s_brk, s_cont, s_pass, s_raise, s_try, q_n, q_c, b_ok, b_exc, b_bad, b_ite, u_ok, u_exc, u_bad, u_ite, o_some, o_none, q_nx, q_rt, q_bk, q_ct, q_exc, q_bad, q_ite, of_some, f_nx, f_rt, f_exc, f_ite, c_ok, c_exc, c_ite, an_t, an_b, or_b, no_b, rv_l, in_i, au_s, li_s, re_s, nx_s, en_l, zi_l, ri_l, tr_nx, tr_rt, tr_bk, tr_ct, tr_exc, tr_ite, rd_c, rd_s, pk_c, pk_f, pk_o, bo_var, bo_lit, op_lit, bo_glob, op_glob, bo_op1, op_op1, bo_op2, op_op2, bo_sl, op_sl, bo_tup, op_tup, bo_lst, op_lst, bo_call, op_call, bo_ite, op_ite, bo_andV, op_andV, bo_orV, op_orV, bo_notV, op_notV, bo_revL, op_revL, bo_comp, op_comp, op_var, op_abs, opR_i, g_var, g_tup, gs_n, gs_c, d_fz, d_ow, a_add, a_sub, a_lt, a_le, a_gt, a_ge, a_max, a_min, a_mul, a_fdiv, a_mod, a_pow, a_addl, a_addt, a_adds, a_mull, a_eqi, a_nei, a_ixl, a_ixt, a1_neg, a1_lenl, a1_lent, a1_lens, a1_listl, a1_listt, a1_tupl, a1_tupt, a1_int, a1_sum, a1_isN, a1_notN, y_int_i, y_bool_i, y_str_i, y_list_i, y_tuple_i, nn_i, y_int_s, y_bool_s, y_str_s, y_list_s, y_tuple_s, nn_s, y_int_b, y_bool_b, y_str_b, y_list_b, y_tuple_b, nn_b, y_int_l, y_bool_l, y_str_l, y_list_l, y_tuple_l, nn_l, y_int_t, y_bool_t, y_str_t, y_list_t, y_tuple_t, nn_t, y_int_n, y_bool_n, y_str_n, y_list_n, y_tuple_n, nn_n, tr_b, tr_i, tr_l, tr_t, a3_l, a3_t, sq_l, sq_t, au_add, au_sub, List.getElem?_cons_zero, List.getElem?_cons_succ, List.set_cons_zero, List.set_cons_succ, Option.map_some, Option.bind_some, if_true, if_false, Bool.false_eq_true, reduceIte, Exs.len, Nat.reduceAdd, Nat.reduceLeDiff, Nat.reduceLT, List.length_cons, List.length_nil, Nat.lt_add_left_iff_pos, Nat.zero_lt_succ, decide_true, decide_false, Bool.not_true, Bool.not_false, List.map_cons, List.map_nil, List.replicate, List.cons_append, List.nil_append, decide_eq_true_eq, Bool.not_eq_true', decide_eq_false_iff_not, Bool.and_eq_true, Bool.or_eq_true, or_self, or_false, false_or, or_true, true_or, and_true, true_and, and_self, not_false_eq_true, not_true_eq_false, ite_self]
  | none =>
    simp only [asFR, x_var, x_lit, x_op1, x_op2, x_sl, x_tup, x_lst, x_call, x_ite, x_andV, x_orV, x_notV, x_revL, x_comp, x_n, x_c, t_val, t_and, t_or, t_not, t_yes, i_seq, i_r1, i_r2, i_enum, i_zip, i_rev, s_asg, s_aug, s_app, s_setI, s_expr, s_if, s_whl, s_for, s_ret, s_retV, s_retN, s_brk, s_cont, s_pass, s_raise, s_try, q_n, q_c, b_ok, b_exc, b_bad, b_ite, u_ok, u_exc, u_bad, u_ite, o_some, o_none, q_nx, q_rt, q_bk, q_ct, q_exc, q_bad, q_ite, of_some, f_nx, f_rt, f_exc, f_ite, c_ok, c_exc, c_ite, an_t, an_b, or_b, no_b, rv_l, in_i, au_s, li_s, re_s, nx_s, en_l, zi_l, ri_l, tr_nx, tr_rt, tr_bk, tr_ct, tr_exc, tr_ite, rd_c, rd_s, pk_c, pk_f, pk_o, bo_var, bo_lit, op_lit, bo_glob, op_glob, bo_op1, op_op1, bo_op2, op_op2, bo_sl, op_sl, bo_tup, op_tup, bo_lst, op_lst, bo_call, op_call, bo_ite, op_ite, bo_andV, op_andV, bo_orV, op_orV, bo_notV, op_notV, bo_revL, op_revL, bo_comp, op_comp, op_var, op_abs, opR_i, g_var, g_tup, gs_n, gs_c, d_fz, d_ow, a_add, a_sub, a_lt, a_le, a_gt, a_ge, a_max, a_min, a_mul, a_fdiv, a_mod, a_pow, a_addl, a_addt, a_adds, a_mull, a_eqi, a_nei, a_ixl, a_ixt, a1_neg, a1_lenl, a1_lent, a1_lens, a1_listl, a1_listt, a1_tupl, a1_tupt, a1_int, a1_sum, a1_isN, a1_notN, y_int_i, y_bool_i, y_str_i, y_list_i, y_tuple_i, nn_i, y_int_s, y_bool_s, y_str_s, y_list_s, y_tuple_s, nn_s, y_int_b, y_bool_b, y_str_b, y_list_b, y_tuple_b, nn_b, y_int_l, y_bool_l, y_str_l, y_list_l, y_tuple_l, nn_l, y_int_t, y_bool_t, y_str_t, y_list_t, y_tuple_t, nn_t, y_int_n, y_bool_n, y_str_n, y_list_n, y_tuple_n, nn_n, tr_b, tr_i, tr_l, tr_t, a3_l, a3_t, sq_l, sq_t, au_add, au_sub, List.getElem?_cons_zero, List.getElem?_cons_succ, List.set_cons_zero, List.set_cons_succ, Option.map_some, Option.bind_some, if_true, if_false, Bool.false_eq_true, reduceIte, Exs.len, Nat.reduceAdd, Nat.reduceLeDiff, Nat.reduceLT, List.length_cons, List.length_nil, Nat.lt_add_left_iff_pos, Nat.zero_lt_succ, decide_true, decide_false, Bool.not_true, Bool.not_false, List.map_cons, List.map_nil, List.replicate, List.cons_append, List.nil_append, decide_eq_true_eq, Bool.not_eq_true', decide_eq_false_iff_not, Bool.and_eq_true, Bool.or_eq_true, or_self, or_false, false_or, or_true, true_or, and_true, true_and, and_self, not_false_eq_true, not_true_eq_false, ite_self, forR, List.length_map]
    by_cases g1 : ns.length = 0
    · have g1' : (ns.length : Int) = 0 := by omega
      rw [few_no (.inl g1)]
      simp only [g1', x_var, x_lit, x_op1, x_op2, x_sl, x_tup, x_lst, x_call, x_ite, x_andV, x_orV, x_notV, x_revL, x_comp, x_n, x_c, t_val, t_and, t_or, t_not, t_yes, i_seq, i_r1, i_r2, i_enum, i_zip, i_rev, s_asg, s_aug, s_app, s_setI, s_expr, s_if, s_whl, s_for, s_ret, s_retV, s_retN, s_brk, s_cont, s_pass, s_raise, s_try, q_n, q_c, b_ok, b_exc, b_bad, b_ite, u_ok, u_exc, u_bad, u_ite, o_some, o_none, q_nx, q_rt, q_bk, q_ct, q_exc, q_bad, q_ite, of_some, f_nx, f_rt, f_exc, f_ite, c_ok, c_exc, c_ite, an_t, an_b, or_b, no_b, rv_l, in_i, au_s, li_s, re_s, nx_s, en_l, zi_l, ri_l, tr_nx, tr_rt, tr_bk, tr_ct, tr_exc, tr_ite, rd_c, rd_s, pk_c, pk_f, pk_o, bo_var, bo_lit, op_lit, bo_glob, op_glob, bo_op1, op_op1, bo_op2, op_op2, bo_sl, op_sl, bo_tup, op_tup, bo_lst, op_lst, bo_call, op_call, bo_ite, op_ite, bo_andV, op_andV, bo_orV, op_orV, bo_notV, op_notV, bo_revL, op_revL, bo_comp, op_comp, op_var, op_abs, opR_i, g_var, g_tup, gs_n, gs_c, d_fz, d_ow, a_add, a_sub, a_lt, a_le, a_gt, a_ge, a_max, a_min, a_mul, a_fdiv, a_mod, a_pow, a_addl, a_addt, a_adds, a_mull, a_eqi, a_nei, a_ixl, a_ixt, a1_neg, a1_lenl, a1_lent, a1_lens, a1_listl, a1_listt, a1_tupl, a1_tupt, a1_int, a1_sum, a1_isN, a1_notN, y_int_i, y_bool_i, y_str_i, y_list_i, y_tuple_i, nn_i, y_int_s, y_bool_s, y_str_s, y_list_s, y_tuple_s, nn_s, y_int_b, y_bool_b, y_str_b, y_list_b, y_tuple_b, nn_b, y_int_l, y_bool_l, y_str_l, y_list_l, y_tuple_l, nn_l, y_int_t, y_bool_t, y_str_t, y_list_t, y_tuple_t, nn_t, y_int_n, y_bool_n, y_str_n, y_list_n, y_tuple_n, nn_n, tr_b, tr_i, tr_l, tr_t, a3_l, a3_t, sq_l, sq_t, au_add, au_sub, List.getElem?_cons_zero, List.getElem?_cons_succ, List.set_cons_zero, List.set_cons_succ, Option.map_some, Option.bind_some, if_true, if_false, Bool.false_eq_true, reduceIte, Exs.len, Nat.reduceAdd, Nat.reduceLeDiff, Nat.reduceLT, List.length_cons, List.length_nil, Nat.lt_add_left_iff_pos, Nat.zero_lt_succ, decide_true, decide_false, Bool.not_true, Bool.not_false, List.map_cons, List.map_nil, List.replicate, List.cons_append, List.nil_append, decide_eq_true_eq, Bool.not_eq_true', decide_eq_false_iff_not, Bool.and_eq_true, Bool.or_eq_true, or_self, or_false, false_or, or_true, true_or, and_true, true_and, and_self, not_false_eq_true, not_true_eq_false, ite_self]
    · have g1' : ¬ (ns.length : Int) = 0 := by omega
      by_cases g2 : (ps.length : Int) = carriers
      · rw [few_yes g1 g2]
        simp only [g1', g2, x_var, x_lit, x_op1, x_op2, x_sl, x_tup, x_lst, x_call, x_ite, x_andV, x_orV, x_notV, x_revL, x_comp, x_n, x_c, t_val, t_and, t_or, t_not, t_yes, i_seq, i_r1, i_r2, i_enum, i_zip, i_rev, s_asg, s_aug, s_app, s_setI, s_expr, s_if, s_whl, s_for, s_ret, s_retV, s_retN, s_brk, s_cont, s_pass, s_raise, s_try, q_n, q_c, b_ok, b_exc, b_bad, b_ite, u_ok, u_exc, u_bad, u_ite, o_some, o_none, q_nx, q_rt, q_bk, q_ct, q_exc, q_bad, q_ite, of_some, f_nx, f_rt, f_exc, f_ite, c_ok, c_exc, c_ite, an_t, an_b, or_b, no_b, rv_l, in_i, au_s, li_s, re_s, nx_s, en_l, zi_l, ri_l, tr_nx, tr_rt, tr_bk, tr_ct, tr_exc, tr_ite, rd_c, rd_s, pk_c, pk_f, pk_o, bo_var, bo_lit, op_lit, bo_glob, op_glob, bo_op1, op_op1, bo_op2, op_op2, bo_sl, op_sl, bo_tup, op_tup, bo_lst, op_lst, bo_call, op_call, bo_ite, op_ite, bo_andV, op_andV, bo_orV, op_orV, bo_notV, op_notV, bo_revL, op_revL, bo_comp, op_comp, op_var, op_abs, opR_i, g_var, g_tup, gs_n, gs_c, d_fz, d_ow, a_add, a_sub, a_lt, a_le, a_gt, a_ge, a_max, a_min, a_mul, a_fdiv, a_mod, a_pow, a_addl, a_addt, a_adds, a_mull, a_eqi, a_nei, a_ixl, a_ixt, a1_neg, a1_lenl, a1_lent, a1_lens, a1_listl, a1_listt, a1_tupl, a1_tupt, a1_int, a1_sum, a1_isN, a1_notN, y_int_i, y_bool_i, y_str_i, y_list_i, y_tuple_i, nn_i, y_int_s, y_bool_s, y_str_s, y_list_s, y_tuple_s, nn_s, y_int_b, y_bool_b, y_str_b, y_list_b, y_tuple_b, nn_b, y_int_l, y_bool_l, y_str_l, y_list_l, y_tuple_l, nn_l, y_int_t, y_bool_t, y_str_t, y_list_t, y_tuple_t, nn_t, y_int_n, y_bool_n, y_str_n, y_list_n, y_tuple_n, nn_n, tr_b, tr_i, tr_l, tr_t, a3_l, a3_t, sq_l, sq_t, au_add, au_sub, List.getElem?_cons_zero, List.getElem?_cons_succ, List.set_cons_zero, List.set_cons_succ, Option.map_some, Option.bind_some, if_true, if_false, Bool.false_eq_true, reduceIte, Exs.len, Nat.reduceAdd, Nat.reduceLeDiff, Nat.reduceLT, List.length_cons, List.length_nil, Nat.lt_add_left_iff_pos, Nat.zero_lt_succ, decide_true, decide_false, Bool.not_true, Bool.not_false, List.map_cons, List.map_nil, List.replicate, List.cons_append, List.nil_append, decide_eq_true_eq, Bool.not_eq_true', decide_eq_false_iff_not, Bool.and_eq_true, Bool.or_eq_true, or_self, or_false, false_or, or_true, true_or, and_true, true_and, and_self, not_false_eq_true, not_true_eq_false, ite_self]
        rw [forL_x (E := fun (s : Int × (Option Cell × Option Cell)) => [some (.fz (.list (ns.map .int))), some (.fz (.int room)), some (.fz (.int carriers)), some (.fz (.list (ps.map pr))), some (.fz (.int s.1)), s.2.1, s.2.2]) (f := pr)
          (step := fun s p => match tfG ns room s.1 p with
            | some a => .inl (a, (some (.fz (.int p.1)), some (.fz (.int p.2))))
            | none => .inr (.rt (.fz (.bool false)))) (fun _ => True)
          (fun s p _ => ⟨_, by simp only [x_var, x_lit, x_op1, x_op2, x_sl, x_tup, x_lst, x_call, x_ite, x_andV, x_orV, x_notV, x_revL, x_comp, x_n, x_c, t_val, t_and, t_or, t_not, t_yes, i_seq, i_r1, i_r2, i_enum, i_zip, i_rev, s_asg, s_aug, s_app, s_setI, s_expr, s_if, s_whl, s_for, s_ret, s_retV, s_retN, s_brk, s_cont, s_pass, s_raise, s_try, q_n, q_c, b_ok, b_exc, b_bad, b_ite, u_ok, u_exc, u_bad, u_ite, o_some, o_none, q_nx, q_rt, q_bk, q_ct, q_exc, q_bad, q_ite, of_some, f_nx, f_rt, f_exc, f_ite, c_ok, c_exc, c_ite, an_t, an_b, or_b, no_b, rv_l, in_i, au_s, li_s, re_s, nx_s, en_l, zi_l, ri_l, tr_nx, tr_rt, tr_bk, tr_ct, tr_exc, tr_ite, rd_c, rd_s, pk_c, pk_f, pk_o, bo_var, bo_lit, op_lit, bo_glob, op_glob, bo_op1, op_op1, bo_op2, op_op2, bo_sl, op_sl, bo_tup, op_tup, bo_lst, op_lst, bo_call, op_call, bo_ite, op_ite, bo_andV, op_andV, bo_orV, op_orV, bo_notV, op_notV, bo_revL, op_revL, bo_comp, op_comp, op_var, op_abs, opR_i, g_var, g_tup, gs_n, gs_c, d_fz, d_ow, a_add, a_sub, a_lt, a_le, a_gt, a_ge, a_max, a_min, a_mul, a_fdiv, a_mod, a_pow, a_addl, a_addt, a_adds, a_mull, a_eqi, a_nei, a_ixl, a_ixt, a1_neg, a1_lenl, a1_lent, a1_lens, a1_listl, a1_listt, a1_tupl, a1_tupt, a1_int, a1_sum, a1_isN, a1_notN, y_int_i, y_bool_i, y_str_i, y_list_i, y_tuple_i, nn_i, y_int_s, y_bool_s, y_str_s, y_list_s, y_tuple_s, nn_s, y_int_b, y_bool_b, y_str_b, y_list_b, y_tuple_b, nn_b, y_int_l, y_bool_l, y_str_l, y_list_l, y_tuple_l, nn_l, y_int_t, y_bool_t, y_str_t, y_list_t, y_tuple_t, nn_t, y_int_n, y_bool_n, y_str_n, y_list_n, y_tuple_n, nn_n, tr_b, tr_i, tr_l, tr_t, a3_l, a3_t, sq_l, sq_t, au_add, au_sub, List.getElem?_cons_zero, List.getElem?_cons_succ, List.set_cons_zero, List.set_cons_succ, Option.map_some, Option.bind_some, if_true, if_false, Bool.false_eq_true, reduceIte, Exs.len, Nat.reduceAdd, Nat.reduceLeDiff, Nat.reduceLT, List.length_cons, List.length_nil, Nat.lt_add_left_iff_pos, Nat.zero_lt_succ, decide_true, decide_false, Bool.not_true, Bool.not_false, List.map_cons, List.map_nil, List.replicate, List.cons_append, List.nil_append, decide_eq_true_eq, Bool.not_eq_true', decide_eq_false_iff_not, Bool.and_eq_true, Bool.or_eq_true, or_self, or_false, false_or, or_true, true_or, and_true, true_and, and_self, not_false_eq_true, not_true_eq_false, ite_self]; rfl, by
            unfold tfG
            by_cases h1 : p.1 < s.1
            · simp only [h1, x_var, x_lit, x_op1, x_op2, x_sl, x_tup, x_lst, x_call, x_ite, x_andV, x_orV, x_notV, x_revL, x_comp, x_n, x_c, t_val, t_and, t_or, t_not, t_yes, i_seq, i_r1, i_r2, i_enum, i_zip, i_rev, s_asg, s_aug, s_app, s_setI, s_expr, s_if, s_whl, s_for, s_ret, s_retV, s_retN, s_brk, s_cont, s_pass, s_raise, s_try, q_n, q_c, b_ok, b_exc, b_bad, b_ite, u_ok, u_exc, u_bad, u_ite, o_some, o_none, q_nx, q_rt, q_bk, q_ct, q_exc, q_bad, q_ite, of_some, f_nx, f_rt, f_exc, f_ite, c_ok, c_exc, c_ite, an_t, an_b, or_b, no_b, rv_l, in_i, au_s, li_s, re_s, nx_s, en_l, zi_l, ri_l, tr_nx, tr_rt, tr_bk, tr_ct, tr_exc, tr_ite, rd_c, rd_s, pk_c, pk_f, pk_o, bo_var, bo_lit, op_lit, bo_glob, op_glob, bo_op1, op_op1, bo_op2, op_op2, bo_sl, op_sl, bo_tup, op_tup, bo_lst, op_lst, bo_call, op_call, bo_ite, op_ite, bo_andV, op_andV, bo_orV, op_orV, bo_notV, op_notV, bo_revL, op_revL, bo_comp, op_comp, op_var, op_abs, opR_i, g_var, g_tup, gs_n, gs_c, d_fz, d_ow, a_add, a_sub, a_lt, a_le, a_gt, a_ge, a_max, a_min, a_mul, a_fdiv, a_mod, a_pow, a_addl, a_addt, a_adds, a_mull, a_eqi, a_nei, a_ixl, a_ixt, a1_neg, a1_lenl, a1_lent, a1_lens, a1_listl, a1_listt, a1_tupl, a1_tupt, a1_int, a1_sum, a1_isN, a1_notN, y_int_i, y_bool_i, y_str_i, y_list_i, y_tuple_i, nn_i, y_int_s, y_bool_s, y_str_s, y_list_s, y_tuple_s, nn_s, y_int_b, y_bool_b, y_str_b, y_list_b, y_tuple_b, nn_b, y_int_l, y_bool_l, y_str_l, y_list_l, y_tuple_l, nn_l, y_int_t, y_bool_t, y_str_t, y_list_t, y_tuple_t, nn_t, y_int_n, y_bool_n, y_str_n, y_list_n, y_tuple_n, nn_n, tr_b, tr_i, tr_l, tr_t, a3_l, a3_t, sq_l, sq_t, au_add, au_sub, List.getElem?_cons_zero, List.getElem?_cons_succ, List.set_cons_zero, List.set_cons_succ, Option.map_some, Option.bind_some, if_true, if_false, Bool.false_eq_true, reduceIte, Exs.len, Nat.reduceAdd, Nat.reduceLeDiff, Nat.reduceLT, List.length_cons, List.length_nil, Nat.lt_add_left_iff_pos, Nat.zero_lt_succ, decide_true, decide_false, Bool.not_true, Bool.not_false, List.map_cons, List.map_nil, List.replicate, List.cons_append, List.nil_append, decide_eq_true_eq, Bool.not_eq_true', decide_eq_false_iff_not, Bool.and_eq_true, Bool.or_eq_true, or_self, or_false, false_or, or_true, true_or, and_true, true_and, and_self, not_false_eq_true, not_true_eq_false, ite_self, Out.ends]
            · by_cases h2 : p.2 ≤ p.1
              · simp only [h1, h2, x_var, x_lit, x_op1, x_op2, x_sl, x_tup, x_lst, x_call, x_ite, x_andV, x_orV, x_notV, x_revL, x_comp, x_n, x_c, t_val, t_and, t_or, t_not, t_yes, i_seq, i_r1, i_r2, i_enum, i_zip, i_rev, s_asg, s_aug, s_app, s_setI, s_expr, s_if, s_whl, s_for, s_ret, s_retV, s_retN, s_brk, s_cont, s_pass, s_raise, s_try, q_n, q_c, b_ok, b_exc, b_bad, b_ite, u_ok, u_exc, u_bad, u_ite, o_some, o_none, q_nx, q_rt, q_bk, q_ct, q_exc, q_bad, q_ite, of_some, f_nx, f_rt, f_exc, f_ite, c_ok, c_exc, c_ite, an_t, an_b, or_b, no_b, rv_l, in_i, au_s, li_s, re_s, nx_s, en_l, zi_l, ri_l, tr_nx, tr_rt, tr_bk, tr_ct, tr_exc, tr_ite, rd_c, rd_s, pk_c, pk_f, pk_o, bo_var, bo_lit, op_lit, bo_glob, op_glob, bo_op1, op_op1, bo_op2, op_op2, bo_sl, op_sl, bo_tup, op_tup, bo_lst, op_lst, bo_call, op_call, bo_ite, op_ite, bo_andV, op_andV, bo_orV, op_orV, bo_notV, op_notV, bo_revL, op_revL, bo_comp, op_comp, op_var, op_abs, opR_i, g_var, g_tup, gs_n, gs_c, d_fz, d_ow, a_add, a_sub, a_lt, a_le, a_gt, a_ge, a_max, a_min, a_mul, a_fdiv, a_mod, a_pow, a_addl, a_addt, a_adds, a_mull, a_eqi, a_nei, a_ixl, a_ixt, a1_neg, a1_lenl, a1_lent, a1_lens, a1_listl, a1_listt, a1_tupl, a1_tupt, a1_int, a1_sum, a1_isN, a1_notN, y_int_i, y_bool_i, y_str_i, y_list_i, y_tuple_i, nn_i, y_int_s, y_bool_s, y_str_s, y_list_s, y_tuple_s, nn_s, y_int_b, y_bool_b, y_str_b, y_list_b, y_tuple_b, nn_b, y_int_l, y_bool_l, y_str_l, y_list_l, y_tuple_l, nn_l, y_int_t, y_bool_t, y_str_t, y_list_t, y_tuple_t, nn_t, y_int_n, y_bool_n, y_str_n, y_list_n, y_tuple_n, nn_n, tr_b, tr_i, tr_l, tr_t, a3_l, a3_t, sq_l, sq_t, au_add, au_sub, List.getElem?_cons_zero, List.getElem?_cons_succ, List.set_cons_zero, List.set_cons_succ, Option.map_some, Option.bind_some, if_true, if_false, Bool.false_eq_true, reduceIte, Exs.len, Nat.reduceAdd, Nat.reduceLeDiff, Nat.reduceLT, List.length_cons, List.length_nil, Nat.lt_add_left_iff_pos, Nat.zero_lt_succ, decide_true, decide_false, Bool.not_true, Bool.not_false, List.map_cons, List.map_nil, List.replicate, List.cons_append, List.nil_append, decide_eq_true_eq, Bool.not_eq_true', decide_eq_false_iff_not, Bool.and_eq_true, Bool.or_eq_true, or_self, or_false, false_or, or_true, true_or, and_true, true_and, and_self, not_false_eq_true, not_true_eq_false, ite_self, Out.ends]
              · by_cases h3 : (ns.length : Int) < p.2
                · simp only [h1, h2, h3, x_var, x_lit, x_op1, x_op2, x_sl, x_tup, x_lst, x_call, x_ite, x_andV, x_orV, x_notV, x_revL, x_comp, x_n, x_c, t_val, t_and, t_or, t_not, t_yes, i_seq, i_r1, i_r2, i_enum, i_zip, i_rev, s_asg, s_aug, s_app, s_setI, s_expr, s_if, s_whl, s_for, s_ret, s_retV, s_retN, s_brk, s_cont, s_pass, s_raise, s_try, q_n, q_c, b_ok, b_exc, b_bad, b_ite, u_ok, u_exc, u_bad, u_ite, o_some, o_none, q_nx, q_rt, q_bk, q_ct, q_exc, q_bad, q_ite, of_some, f_nx, f_rt, f_exc, f_ite, c_ok, c_exc, c_ite, an_t, an_b, or_b, no_b, rv_l, in_i, au_s, li_s, re_s, nx_s, en_l, zi_l, ri_l, tr_nx, tr_rt, tr_bk, tr_ct, tr_exc, tr_ite, rd_c, rd_s, pk_c, pk_f, pk_o, bo_var, bo_lit, op_lit, bo_glob, op_glob, bo_op1, op_op1, bo_op2, op_op2, bo_sl, op_sl, bo_tup, op_tup, bo_lst, op_lst, bo_call, op_call, bo_ite, op_ite, bo_andV, op_andV, bo_orV, op_orV, bo_notV, op_notV, bo_revL, op_revL, bo_comp, op_comp, op_var, op_abs, opR_i, g_var, g_tup, gs_n, gs_c, d_fz, d_ow, a_add, a_sub, a_lt, a_le, a_gt, a_ge, a_max, a_min, a_mul, a_fdiv, a_mod, a_pow, a_addl, a_addt, a_adds, a_mull, a_eqi, a_nei, a_ixl, a_ixt, a1_neg, a1_lenl, a1_lent, a1_lens, a1_listl, a1_listt, a1_tupl, a1_tupt, a1_int, a1_sum, a1_isN, a1_notN, y_int_i, y_bool_i, y_str_i, y_list_i, y_tuple_i, nn_i, y_int_s, y_bool_s, y_str_s, y_list_s, y_tuple_s, nn_s, y_int_b, y_bool_b, y_str_b, y_list_b, y_tuple_b, nn_b, y_int_l, y_bool_l, y_str_l, y_list_l, y_tuple_l, nn_l, y_int_t, y_bool_t, y_str_t, y_list_t, y_tuple_t, nn_t, y_int_n, y_bool_n, y_str_n, y_list_n, y_tuple_n, nn_n, tr_b, tr_i, tr_l, tr_t, a3_l, a3_t, sq_l, sq_t, au_add, au_sub, List.getElem?_cons_zero, List.getElem?_cons_succ, List.set_cons_zero, List.set_cons_succ, Option.map_some, Option.bind_some, if_true, if_false, Bool.false_eq_true, reduceIte, Exs.len, Nat.reduceAdd, Nat.reduceLeDiff, Nat.reduceLT, List.length_cons, List.length_nil, Nat.lt_add_left_iff_pos, Nat.zero_lt_succ, decide_true, decide_false, Bool.not_true, Bool.not_false, List.map_cons, List.map_nil, List.replicate, List.cons_append, List.nil_append, decide_eq_true_eq, Bool.not_eq_true', decide_eq_false_iff_not, Bool.and_eq_true, Bool.or_eq_true, or_self, or_false, false_or, or_true, true_or, and_true, true_and, and_self, not_false_eq_true, not_true_eq_false, ite_self, Out.ends, List.length_map]
                · simp only [h1, h2, h3, x_var, x_lit, x_op1, x_op2, x_sl, x_tup, x_lst, x_call, x_ite, x_andV, x_orV, x_notV, x_revL, x_comp, x_n, x_c, t_val, t_and, t_or, t_not, t_yes, i_seq, i_r1, i_r2, i_enum, i_zip, i_rev, s_asg, s_aug, s_app, s_setI, s_expr, s_if, s_whl, s_for, s_ret, s_retV, s_retN, s_brk, s_cont, s_pass, s_raise, s_try, q_n, q_c, b_ok, b_exc, b_bad, b_ite, u_ok, u_exc, u_bad, u_ite, o_some, o_none, q_nx, q_rt, q_bk, q_ct, q_exc, q_bad, q_ite, of_some, f_nx, f_rt, f_exc, f_ite, c_ok, c_exc, c_ite, an_t, an_b, or_b, no_b, rv_l, in_i, au_s, li_s, re_s, nx_s, en_l, zi_l, ri_l, tr_nx, tr_rt, tr_bk, tr_ct, tr_exc, tr_ite, rd_c, rd_s, pk_c, pk_f, pk_o, bo_var, bo_lit, op_lit, bo_glob, op_glob, bo_op1, op_op1, bo_op2, op_op2, bo_sl, op_sl, bo_tup, op_tup, bo_lst, op_lst, bo_call, op_call, bo_ite, op_ite, bo_andV, op_andV, bo_orV, op_orV, bo_notV, op_notV, bo_revL, op_revL, bo_comp, op_comp, op_var, op_abs, opR_i, g_var, g_tup, gs_n, gs_c, d_fz, d_ow, a_add, a_sub, a_lt, a_le, a_gt, a_ge, a_max, a_min, a_mul, a_fdiv, a_mod, a_pow, a_addl, a_addt, a_adds, a_mull, a_eqi, a_nei, a_ixl, a_ixt, a1_neg, a1_lenl, a1_lent, a1_lens, a1_listl, a1_listt, a1_tupl, a1_tupt, a1_int, a1_sum, a1_isN, a1_notN, y_int_i, y_bool_i, y_str_i, y_list_i, y_tuple_i, nn_i, y_int_s, y_bool_s, y_str_s, y_list_s, y_tuple_s, nn_s, y_int_b, y_bool_b, y_str_b, y_list_b, y_tuple_b, nn_b, y_int_l, y_bool_l, y_str_l, y_list_l, y_tuple_l, nn_l, y_int_t, y_bool_t, y_str_t, y_list_t, y_tuple_t, nn_t, y_int_n, y_bool_n, y_str_n, y_list_n, y_tuple_n, nn_n, tr_b, tr_i, tr_l, tr_t, a3_l, a3_t, sq_l, sq_t, au_add, au_sub, List.getElem?_cons_zero, List.getElem?_cons_succ, List.set_cons_zero, List.set_cons_succ, Option.map_some, Option.bind_some, if_true, if_false, Bool.false_eq_true, reduceIte, Exs.len, Nat.reduceAdd, Nat.reduceLeDiff, Nat.reduceLT, List.length_cons, List.length_nil, Nat.lt_add_left_iff_pos, Nat.zero_lt_succ, decide_true, decide_false, Bool.not_true, Bool.not_false, List.map_cons, List.map_nil, List.replicate, List.cons_append, List.nil_append, decide_eq_true_eq, Bool.not_eq_true', decide_eq_false_iff_not, Bool.and_eq_true, Bool.or_eq_true, or_self, or_false, false_or, or_true, true_or, and_true, true_and, and_self, not_false_eq_true, not_true_eq_false, ite_self, Out.ends, List.length_map]
                  have r := r_span_sum n ns p.1 p.2
                  simp only [il] at r
                  simp only [r, x_var, x_lit, x_op1, x_op2, x_sl, x_tup, x_lst, x_call, x_ite, x_andV, x_orV, x_notV, x_revL, x_comp, x_n, x_c, t_val, t_and, t_or, t_not, t_yes, i_seq, i_r1, i_r2, i_enum, i_zip, i_rev, s_asg, s_aug, s_app, s_setI, s_expr, s_if, s_whl, s_for, s_ret, s_retV, s_retN, s_brk, s_cont, s_pass, s_raise, s_try, q_n, q_c, b_ok, b_exc, b_bad, b_ite, u_ok, u_exc, u_bad, u_ite, o_some, o_none, q_nx, q_rt, q_bk, q_ct, q_exc, q_bad, q_ite, of_some, f_nx, f_rt, f_exc, f_ite, c_ok, c_exc, c_ite, an_t, an_b, or_b, no_b, rv_l, in_i, au_s, li_s, re_s, nx_s, en_l, zi_l, ri_l, tr_nx, tr_rt, tr_bk, tr_ct, tr_exc, tr_ite, rd_c, rd_s, pk_c, pk_f, pk_o, bo_var, bo_lit, op_lit, bo_glob, op_glob, bo_op1, op_op1, bo_op2, op_op2, bo_sl, op_sl, bo_tup, op_tup, bo_lst, op_lst, bo_call, op_call, bo_ite, op_ite, bo_andV, op_andV, bo_orV, op_orV, bo_notV, op_notV, bo_revL, op_revL, bo_comp, op_comp, op_var, op_abs, opR_i, g_var, g_tup, gs_n, gs_c, d_fz, d_ow, a_add, a_sub, a_lt, a_le, a_gt, a_ge, a_max, a_min, a_mul, a_fdiv, a_mod, a_pow, a_addl, a_addt, a_adds, a_mull, a_eqi, a_nei, a_ixl, a_ixt, a1_neg, a1_lenl, a1_lent, a1_lens, a1_listl, a1_listt, a1_tupl, a1_tupt, a1_int, a1_sum, a1_isN, a1_notN, y_int_i, y_bool_i, y_str_i, y_list_i, y_tuple_i, nn_i, y_int_s, y_bool_s, y_str_s, y_list_s, y_tuple_s, nn_s, y_int_b, y_bool_b, y_str_b, y_list_b, y_tuple_b, nn_b, y_int_l, y_bool_l, y_str_l, y_list_l, y_tuple_l, nn_l, y_int_t, y_bool_t, y_str_t, y_list_t, y_tuple_t, nn_t, y_int_n, y_bool_n, y_str_n, y_list_n, y_tuple_n, nn_n, tr_b, tr_i, tr_l, tr_t, a3_l, a3_t, sq_l, sq_t, au_add, au_sub, List.getElem?_cons_zero, List.getElem?_cons_succ, List.set_cons_zero, List.set_cons_succ, Option.map_some, Option.bind_some, if_true, if_false, Bool.false_eq_true, reduceIte, Exs.len, Nat.reduceAdd, Nat.reduceLeDiff, Nat.reduceLT, List.length_cons, List.length_nil, Nat.lt_add_left_iff_pos, Nat.zero_lt_succ, decide_true, decide_false, Bool.not_true, Bool.not_false, List.map_cons, List.map_nil, List.replicate, List.cons_append, List.nil_append, decide_eq_true_eq, Bool.not_eq_true', decide_eq_false_iff_not, Bool.and_eq_true, Bool.or_eq_true, or_self, or_false, false_or, or_true, true_or, and_true, true_and, and_self, not_false_eq_true, not_true_eq_false, ite_self]
                  by_cases h4 : (cut ns (some p.1) (some p.2)).sum ≤ room
                  · simp only [h4, x_var, x_lit, x_op1, x_op2, x_sl, x_tup, x_lst, x_call, x_ite, x_andV, x_orV, x_notV, x_revL, x_comp, x_n, x_c, t_val, t_and, t_or, t_not, t_yes, i_seq, i_r1, i_r2, i_enum, i_zip, i_rev, s_asg, s_aug, s_app, s_setI, s_expr, s_if, s_whl, s_for, s_ret, s_retV, s_retN, s_brk, s_cont, s_pass, s_raise, s_try, q_n, q_c, b_ok, b_exc, b_bad, b_ite, u_ok, u_exc, u_bad, u_ite, o_some, o_none, q_nx, q_rt, q_bk, q_ct, q_exc, q_bad, q_ite, of_some, f_nx, f_rt, f_exc, f_ite, c_ok, c_exc, c_ite, an_t, an_b, or_b, no_b, rv_l, in_i, au_s, li_s, re_s, nx_s, en_l, zi_l, ri_l, tr_nx, tr_rt, tr_bk, tr_ct, tr_exc, tr_ite, rd_c, rd_s, pk_c, pk_f, pk_o, bo_var, bo_lit, op_lit, bo_glob, op_glob, bo_op1, op_op1, bo_op2, op_op2, bo_sl, op_sl, bo_tup, op_tup, bo_lst, op_lst, bo_call, op_call, bo_ite, op_ite, bo_andV, op_andV, bo_orV, op_orV, bo_notV, op_notV, bo_revL, op_revL, bo_comp, op_comp, op_var, op_abs, opR_i, g_var, g_tup, gs_n, gs_c, d_fz, d_ow, a_add, a_sub, a_lt, a_le, a_gt, a_ge, a_max, a_min, a_mul, a_fdiv, a_mod, a_pow, a_addl, a_addt, a_adds, a_mull, a_eqi, a_nei, a_ixl, a_ixt, a1_neg, a1_lenl, a1_lent, a1_lens, a1_listl, a1_listt, a1_tupl, a1_tupt, a1_int, a1_sum, a1_isN, a1_notN, y_int_i, y_bool_i, y_str_i, y_list_i, y_tuple_i, nn_i, y_int_s, y_bool_s, y_str_s, y_list_s, y_tuple_s, nn_s, y_int_b, y_bool_b, y_str_b, y_list_b, y_tuple_b, nn_b, y_int_l, y_bool_l, y_str_l, y_list_l, y_tuple_l, nn_l, y_int_t, y_bool_t, y_str_t, y_list_t, y_tuple_t, nn_t, y_int_n, y_bool_n, y_str_n, y_list_n, y_tuple_n, nn_n, tr_b, tr_i, tr_l, tr_t, a3_l, a3_t, sq_l, sq_t, au_add, au_sub, List.getElem?_cons_zero, List.getElem?_cons_succ, List.set_cons_zero, List.set_cons_succ, Option.map_some, Option.bind_some, if_true, if_false, Bool.false_eq_true, reduceIte, Exs.len, Nat.reduceAdd, Nat.reduceLeDiff, Nat.reduceLT, List.length_cons, List.length_nil, Nat.lt_add_left_iff_pos, Nat.zero_lt_succ, decide_true, decide_false, Bool.not_true, Bool.not_false, List.map_cons, List.map_nil, List.replicate, List.cons_append, List.nil_append, decide_eq_true_eq, Bool.not_eq_true', decide_eq_false_iff_not, Bool.and_eq_true, Bool.or_eq_true, or_self, or_false, false_or, or_true, true_or, and_true, true_and, and_self, not_false_eq_true, not_true_eq_false, ite_self, Out.ends]
                  · simp only [h4, x_var, x_lit, x_op1, x_op2, x_sl, x_tup, x_lst, x_call, x_ite, x_andV, x_orV, x_notV, x_revL, x_comp, x_n, x_c, t_val, t_and, t_or, t_not, t_yes, i_seq, i_r1, i_r2, i_enum, i_zip, i_rev, s_asg, s_aug, s_app, s_setI, s_expr, s_if, s_whl, s_for, s_ret, s_retV, s_retN, s_brk, s_cont, s_pass, s_raise, s_try, q_n, q_c, b_ok, b_exc, b_bad, b_ite, u_ok, u_exc, u_bad, u_ite, o_some, o_none, q_nx, q_rt, q_bk, q_ct, q_exc, q_bad, q_ite, of_some, f_nx, f_rt, f_exc, f_ite, c_ok, c_exc, c_ite, an_t, an_b, or_b, no_b, rv_l, in_i, au_s, li_s, re_s, nx_s, en_l, zi_l, ri_l, tr_nx, tr_rt, tr_bk, tr_ct, tr_exc, tr_ite, rd_c, rd_s, pk_c, pk_f, pk_o, bo_var, bo_lit, op_lit, bo_glob, op_glob, bo_op1, op_op1, bo_op2, op_op2, bo_sl, op_sl, bo_tup, op_tup, bo_lst, op_lst, bo_call, op_call, bo_ite, op_ite, bo_andV, op_andV, bo_orV, op_orV, bo_notV, op_notV, bo_revL, op_revL, bo_comp, op_comp, op_var, op_abs, opR_i, g_var, g_tup, gs_n, gs_c, d_fz, d_ow, a_add, a_sub, a_lt, a_le, a_gt, a_ge, a_max, a_min, a_mul, a_fdiv, a_mod, a_pow, a_addl, a_addt, a_adds, a_mull, a_eqi, a_nei, a_ixl, a_ixt, a1_neg, a1_lenl, a1_lent, a1_lens, a1_listl, a1_listt, a1_tupl, a1_tupt, a1_int, a1_sum, a1_isN, a1_notN, y_int_i, y_bool_i, y_str_i, y_list_i, y_tuple_i, nn_i, y_int_s, y_bool_s, y_str_s, y_list_s, y_tuple_s, nn_s, y_int_b, y_bool_b, y_str_b, y_list_b, y_tuple_b, nn_b, y_int_l, y_bool_l, y_str_l, y_list_l, y_tuple_l, nn_l, y_int_t, y_bool_t, y_str_t, y_list_t, y_tuple_t, nn_t, y_int_n, y_bool_n, y_str_n, y_list_n, y_tuple_n, nn_n, tr_b, tr_i, tr_l, tr_t, a3_l, a3_t, sq_l, sq_t, au_add, au_sub, List.getElem?_cons_zero, List.getElem?_cons_succ, List.set_cons_zero, List.set_cons_succ, Option.map_some, Option.bind_some, if_true, if_false, Bool.false_eq_true, reduceIte, Exs.len, Nat.reduceAdd, Nat.reduceLeDiff, Nat.reduceLT, List.length_cons, List.length_nil, Nat.lt_add_left_iff_pos, Nat.zero_lt_succ, decide_true, decide_false, Bool.not_true, Bool.not_false, List.map_cons, List.map_nil, List.replicate, List.cons_append, List.nil_append, decide_eq_true_eq, Bool.not_eq_true', decide_eq_false_iff_not, Bool.and_eq_true, Bool.or_eq_true, or_self, or_false, false_or, or_true, true_or, and_true, true_and, and_self, not_false_eq_true, not_true_eq_false, ite_self, Out.ends]⟩) ps (0, (none, none)) trivial]
        obtain ⟨j, e⟩ := foldX_fst (tfG ns room) (.rt (.fz (.bool false))) (step := fun (s : Int × (Option Cell × Option Cell)) p => match tfG ns room s.1 p with
            | some a => .inl (a, (some (.fz (.int p.1)), some (.fz (.int p.2))))
            | none => .inr (.rt (.fz (.bool false)))) (fun s p => ⟨(some (.fz (.int p.1)), some (.fz (.int p.2))), by cases tfG ns room s.1 p <;> rfl⟩) ps (0, (none, none))
        rw [e]
        cases ps.foldlM (tfG ns room) 0 with
        | none => simp only [x_var, x_lit, x_op1, x_op2, x_sl, x_tup, x_lst, x_call, x_ite, x_andV, x_orV, x_notV, x_revL, x_comp, x_n, x_c, t_val, t_and, t_or, t_not, t_yes, i_seq, i_r1, i_r2, i_enum, i_zip, i_rev, s_asg, s_aug, s_app, s_setI, s_expr, s_if, s_whl, s_for, s_ret, s_retV, s_retN, s_brk, s_cont, s_pass, s_raise, s_try, q_n, q_c, b_ok, b_exc, b_bad, b_ite, u_ok, u_exc, u_bad, u_ite, o_some, o_none, q_nx, q_rt, q_bk, q_ct, q_exc, q_bad, q_ite, of_some, f_nx, f_rt, f_exc, f_ite, c_ok, c_exc, c_ite, an_t, an_b, or_b, no_b, rv_l, in_i, au_s, li_s, re_s, nx_s, en_l, zi_l, ri_l, tr_nx, tr_rt, tr_bk, tr_ct, tr_exc, tr_ite, rd_c, rd_s, pk_c, pk_f, pk_o, bo_var, bo_lit, op_lit, bo_glob, op_glob, bo_op1, op_op1, bo_op2, op_op2, bo_sl, op_sl, bo_tup, op_tup, bo_lst, op_lst, bo_call, op_call, bo_ite, op_ite, bo_andV, op_andV, bo_orV, op_orV, bo_notV, op_notV, bo_revL, op_revL, bo_comp, op_comp, op_var, op_abs, opR_i, g_var, g_tup, gs_n, gs_c, d_fz, d_ow, a_add, a_sub, a_lt, a_le, a_gt, a_ge, a_max, a_min, a_mul, a_fdiv, a_mod, a_pow, a_addl, a_addt, a_adds, a_mull, a_eqi, a_nei, a_ixl, a_ixt, a1_neg, a1_lenl, a1_lent, a1_lens, a1_listl, a1_listt, a1_tupl, a1_tupt, a1_int, a1_sum, a1_isN, a1_notN, y_int_i, y_bool_i, y_str_i, y_list_i, y_tuple_i, nn_i, y_int_s, y_bool_s, y_str_s, y_list_s, y_tuple_s, nn_s, y_int_b, y_bool_b, y_str_b, y_list_b, y_tuple_b, nn_b, y_int_l, y_bool_l, y_str_l, y_list_l, y_tuple_l, nn_l, y_int_t, y_bool_t, y_str_t, y_list_t, y_tuple_t, nn_t, y_int_n, y_bool_n, y_str_n, y_list_n, y_tuple_n, nn_n, tr_b, tr_i, tr_l, tr_t, a3_l, a3_t, sq_l, sq_t, au_add, au_sub, List.getElem?_cons_zero, List.getElem?_cons_succ, List.set_cons_zero, List.set_cons_succ, Option.map_some, Option.bind_some, if_true, if_false, Bool.false_eq_true, reduceIte, Exs.len, Nat.reduceAdd, Nat.reduceLeDiff, Nat.reduceLT, List.length_cons, List.length_nil, Nat.lt_add_left_iff_pos, Nat.zero_lt_succ, decide_true, decide_false, Bool.not_true, Bool.not_false, List.map_cons, List.map_nil, List.replicate, List.cons_append, List.nil_append, decide_eq_true_eq, Bool.not_eq_true', decide_eq_false_iff_not, Bool.and_eq_true, Bool.or_eq_true, or_self, or_false, false_or, or_true, true_or, and_true, true_and, and_self, not_false_eq_true, not_true_eq_false, ite_self, Option.isSome_none]
        | some a => simp only [x_var, x_lit, x_op1, x_op2, x_sl, x_tup, x_lst, x_call, x_ite, x_andV, x_orV, x_notV, x_revL, x_comp, x_n, x_c, t_val, t_and, t_or, t_not, t_yes, i_seq, i_r1, i_r2, i_enum, i_zip, i_rev, s_asg, s_aug, s_app, s_setI, s_expr, s_if, s_whl, s_for, s_ret, s_retV, s_retN, s_brk, s_cont, s_pass, s_raise, s_try, q_n, q_c, b_ok, b_exc, b_bad, b_ite, u_ok, u_exc, u_bad, u_ite, o_some, o_none, q_nx, q_rt, q_bk, q_ct, q_exc, q_bad, q_ite, of_some, f_nx, f_rt, f_exc, f_ite, c_ok, c_exc, c_ite, an_t, an_b, or_b, no_b, rv_l, in_i, au_s, li_s, re_s, nx_s, en_l, zi_l, ri_l, tr_nx, tr_rt, tr_bk, tr_ct, tr_exc, tr_ite, rd_c, rd_s, pk_c, pk_f, pk_o, bo_var, bo_lit, op_lit, bo_glob, op_glob, bo_op1, op_op1, bo_op2, op_op2, bo_sl, op_sl, bo_tup, op_tup, bo_lst, op_lst, bo_call, op_call, bo_ite, op_ite, bo_andV, op_andV, bo_orV, op_orV, bo_notV, op_notV, bo_revL, op_revL, bo_comp, op_comp, op_var, op_abs, opR_i, g_var, g_tup, gs_n, gs_c, d_fz, d_ow, a_add, a_sub, a_lt, a_le, a_gt, a_ge, a_max, a_min, a_mul, a_fdiv, a_mod, a_pow, a_addl, a_addt, a_adds, a_mull, a_eqi, a_nei, a_ixl, a_ixt, a1_neg, a1_lenl, a1_lent, a1_lens, a1_listl, a1_listt, a1_tupl, a1_tupt, a1_int, a1_sum, a1_isN, a1_notN, y_int_i, y_bool_i, y_str_i, y_list_i, y_tuple_i, nn_i, y_int_s, y_bool_s, y_str_s, y_list_s, y_tuple_s, nn_s, y_int_b, y_bool_b, y_str_b, y_list_b, y_tuple_b, nn_b, y_int_l, y_bool_l, y_str_l, y_list_l, y_tuple_l, nn_l, y_int_t, y_bool_t, y_str_t, y_list_t, y_tuple_t, nn_t, y_int_n, y_bool_n, y_str_n, y_list_n, y_tuple_n, nn_n, tr_b, tr_i, tr_l, tr_t, a3_l, a3_t, sq_l, sq_t, au_add, au_sub, List.getElem?_cons_zero, List.getElem?_cons_succ, List.set_cons_zero, List.set_cons_succ, Option.map_some, Option.bind_some, if_true, if_false, Bool.false_eq_true, reduceIte, Exs.len, Nat.reduceAdd, Nat.reduceLeDiff, Nat.reduceLT, List.length_cons, List.length_nil, Nat.lt_add_left_iff_pos, Nat.zero_lt_succ, decide_true, decide_false, Bool.not_true, Bool.not_false, List.map_cons, List.map_nil, List.replicate, List.cons_append, List.nil_append, decide_eq_true_eq, Bool.not_eq_true', decide_eq_false_iff_not, Bool.and_eq_true, Bool.or_eq_true, or_self, or_false, false_or, or_true, true_or, and_true, true_and, and_self, not_false_eq_true, not_true_eq_false, ite_self, Option.isSome_some]
      · rw [few_no (.inr g2)]
        simp only [g1', g2, x_var, x_lit, x_op1, x_op2, x_sl, x_tup, x_lst, x_call, x_ite, x_andV, x_orV, x_notV, x_revL, x_comp, x_n, x_c, t_val, t_and, t_or, t_not, t_yes, i_seq, i_r1, i_r2, i_enum, i_zip, i_rev, s_asg, s_aug, s_app, s_setI, s_expr, s_if, s_whl, s_for, s_ret, s_retV, s_retN, s_brk, s_cont, s_pass, s_raise, s_try, q_n, q_c, b_ok, b_exc, b_bad, b_ite, u_ok, u_exc, u_bad, u_ite, o_some, o_none, q_nx, q_rt, q_bk, q_ct, q_exc, q_bad, q_ite, of_some, f_nx, f_rt, f_exc, f_ite, c_ok, c_exc, c_ite, an_t, an_b, or_b, no_b, rv_l, in_i, au_s, li_s, re_s, nx_s, en_l, zi_l, ri_l, tr_nx, tr_rt, tr_bk, tr_ct, tr_exc, tr_ite, rd_c, rd_s, pk_c, pk_f, pk_o, bo_var, bo_lit, op_lit, bo_glob, op_glob, bo_op1, op_op1, bo_op2, op_op2, bo_sl, op_sl, bo_tup, op_tup, bo_lst, op_lst, bo_call, op_call, bo_ite, op_ite, bo_andV, op_andV, bo_orV, op_orV, bo_notV, op_notV, bo_revL, op_revL, bo_comp, op_comp, op_var, op_abs, opR_i, g_var, g_tup, gs_n, gs_c, d_fz, d_ow, a_add, a_sub, a_lt, a_le, a_gt, a_ge, a_max, a_min, a_mul, a_fdiv, a_mod, a_pow, a_addl, a_addt, a_adds, a_mull, a_eqi, a_nei, a_ixl, a_ixt, a1_neg, a1_lenl, a1_lent, a1_lens, a1_listl, a1_listt, a1_tupl, a1_tupt, a1_int, a1_sum, a1_isN, a1_notN, y_int_i, y_bool_i, y_str_i, y_list_i, y_tuple_i, nn_i, y_int_s, y_bool_s, y_str_s, y_list_s, y_tuple_s, nn_s, y_int_b, y_bool_b, y_str_b, y_list_b, y_tuple_b, nn_b, y_int_l, y_bool_l, y_str_l, y_list_l, y_tuple_l, nn_l, y_int_t, y_bool_t, y_str_t, y_list_t, y_tuple_t, nn_t, y_int_n, y_bool_n, y_str_n, y_list_n, y_tuple_n, nn_n, tr_b, tr_i, tr_l, tr_t, a3_l, a3_t, sq_l, sq_t, au_add, au_sub, List.getElem?_cons_zero, List.getElem?_cons_succ, List.set_cons_zero, List.set_cons_succ, Option.map_some, Option.bind_some, if_true, if_false, Bool.false_eq_true, reduceIte, Exs.len, Nat.reduceAdd, Nat.reduceLeDiff, Nat.reduceLT, List.length_cons, List.length_nil, Nat.lt_add_left_iff_pos, Nat.zero_lt_succ, decide_true, decide_false, Bool.not_true, Bool.not_false, List.map_cons, List.map_nil, List.replicate, List.cons_append, List.nil_append, decide_eq_true_eq, Bool.not_eq_true', decide_eq_false_iff_not, Bool.and_eq_true, Bool.or_eq_true, or_self, or_false, false_or, or_true, true_or, and_true, true_and, and_self, not_false_eq_true, not_true_eq_false, ite_self]
theorem r_lfew (n : Nat) (ns : List Int) (room carriers : Int) (ps : List (Int × Int)) : runF cfg (n + 1) 13 [il ns, .int room, .int carriers, .list (ps.map pr)] = .ok (.fz (.bool (isFew ns room carriers ps))) := by
  rw [run_at (show cfg.funs[13]? = some f__law_too_few from rfl) rfl]
  simp only [f__law_too_few, il, x_var, x_lit, x_op1, x_op2, x_sl, x_tup, x_lst, x_call, x_ite, x_andV, x_orV, x_notV, x_revL, x_comp, x_n, x_c, t_val, t_and, t_or, t_not, t_yes, i_seq, i_r1, i_r2, i_enum, i_zip, i_rev, s_asg, s_aug, s_app, s_setI, s_expr, s_if, s_whl, s_for, s_ret, s_retV, s_retN, s_brk, s_cont, s_pass, s_raise, s_try, q_n, q_c, b_ok, b_exc, b_bad, b_ite, u_ok, u_exc, u_bad, u_ite, o_some, o_none, q_nx, q_rt, q_bk, q_ct, q_exc, q_bad, q_ite, of_some, f_nx, f_rt, f_exc, f_ite, c_ok, c_exc, c_ite, an_t, an_b, or_b, no_b, rv_l, in_i, au_s, li_s, re_s, nx_s, en_l, zi_l, ri_l, tr_nx, tr_rt, tr_bk, tr_ct, tr_exc, tr_ite, rd_c, rd_s, pk_c, pk_f, pk_o, bo_var, bo_lit, op_lit, bo_glob, op_glob, bo_op1, op_op1, bo_op2, op_op2, bo_sl, op_sl, bo_tup, op_tup, bo_lst, op_lst, bo_call, op_call, bo_ite, op_ite, bo_andV, op_andV, bo_orV, op_orV, bo_notV, op_notV, bo_revL, op_revL, bo_comp, op_comp, op_var, op_abs, opR_i, g_var, g_tup, gs_n, gs_c, d_fz, d_ow, a_add, a_sub, a_lt, a_le, a_gt, a_ge, a_max, a_min, a_mul, a_fdiv, a_mod, a_pow, a_addl, a_addt, a_adds, a_mull, a_eqi, a_nei, a_ixl, a_ixt, a1_neg, a1_lenl, a1_lent, a1_lens, a1_listl, a1_listt, a1_tupl, a1_tupt, a1_int, a1_sum, a1_isN, a1_notN, y_int_i, y_bool_i, y_str_i, y_list_i, y_tuple_i, nn_i, y_int_s, y_bool_s, y_str_s, y_list_s, y_tuple_s, nn_s, y_int_b, y_bool_b, y_str_b, y_list_b, y_tuple_b, nn_b, y_int_l, y_bool_l, y_str_l, y_list_l, y_tuple_l, nn_l, y_int_t, y_bool_t, y_str_t, y_list_t, y_tuple_t, nn_t, y_int_n, y_bool_n, y_str_n, y_list_n, y_tuple_n, nn_n, tr_b, tr_i, tr_l, tr_t, a3_l, a3_t, sq_l, sq_t, au_add, au_sub, List.getElem?_cons_zero, List.getElem?_cons_succ, List.set_cons_zero, List.set_cons_succ, Option.map_some, Option.bind_some, if_true, if_false, Bool.false_eq_true, reduceIte, Exs.len, Nat.reduceAdd, Nat.reduceLeDiff, Nat.reduceLT, List.length_cons, List.length_nil, Nat.lt_add_left_iff_pos, Nat.zero_lt_succ, decide_true, decide_false, Bool.not_true, Bool.not_false, List.map_cons, List.map_nil, List.replicate, List.cons_append, List.nil_append, decide_eq_true_eq, Bool.not_eq_true', decide_eq_false_iff_not, Bool.and_eq_true, Bool.or_eq_true, or_self, or_false, false_or, or_true, true_or, and_true, true_and, and_self, not_false_eq_true, not_true_eq_false, ite_self, forR, List.length_map]
  by_cases g1 : ns.length = 0
  · have g1' : (ns.length : Int) = 0 := by omega
    rw [few_no (.inl g1)]
    simp only [g1', x_var, x_lit, x_op1, x_op2, x_sl, x_tup, x_lst, x_call, x_ite, x_andV, x_orV, x_notV, x_revL, x_comp, x_n, x_c, t_val, t_and, t_or, t_not, t_yes, i_seq, i_r1, i_r2, i_enum, i_zip, i_rev, s_asg, s_aug, s_app, s_setI, s_expr, s_if, s_whl, s_for, s_ret, s_retV, s_retN, s_brk, s_cont, s_pass, s_raise, s_try, q_n, q_c, b_ok, b_exc, b_bad, b_ite, u_ok, u_exc, u_bad, u_ite, o_some, o_none, q_nx, q_rt, q_bk, q_ct, q_exc, q_bad, q_ite, of_some, f_nx, f_rt, f_exc, f_ite, c_ok, c_exc, c_ite, an_t, an_b, or_b, no_b, rv_l, in_i, au_s, li_s, re_s, nx_s, en_l, zi_l, ri_l, tr_nx, tr_rt, tr_bk, tr_ct, tr_exc, tr_ite, rd_c, rd_s, pk_c, pk_f, pk_o, bo_var, bo_lit, op_lit, bo_glob, op_glob, bo_op1, op_op1, bo_op2, op_op2, bo_sl, op_sl, bo_tup, op_tup, bo_lst, op_lst, bo_call, op_call, bo_ite, op_ite, bo_andV, op_andV, bo_orV, op_orV, bo_notV, op_notV, bo_revL, op_revL, bo_comp, op_comp, op_var, op_abs, opR_i, g_var, g_tup, gs_n, gs_c, d_fz, d_ow, a_add, a_sub, a_lt, a_le, a_gt, a_ge, a_max, a_min, a_mul, a_fdiv, a_mod, a_pow, a_addl, a_addt, a_adds, a_mull, a_eqi, a_nei, a_ixl, a_ixt, a1_neg, a1_lenl, a1_lent, a1_lens, a1_listl, a1_listt, a1_tupl, a1_tupt, a1_int, a1_sum, a1_isN, a1_notN, y_int_i, y_bool_i, y_str_i, y_list_i, y_tuple_i, nn_i, y_int_s, y_bool_s, y_str_s, y_list_s, y_tuple_s, nn_s, y_int_b, y_bool_b, y_str_b, y_list_b, y_tuple_b, nn_b, y_int_l, y_bool_l, y_str_l, y_list_l, y_tuple_l, nn_l, y_int_t, y_bool_t, y_str_t, y_list_t, y_tuple_t, nn_t, y_int_n, y_bool_n, y_str_n, y_list_n, y_tuple_n, nn_n, tr_b, tr_i, tr_l, tr_t, a3_l, a3_t, sq_l, sq_t, au_add, au_sub, List.getElem?_cons_zero, List.getElem?_cons_succ, List.set_cons_zero, List.set_cons_succ, Option.map_some, Option.bind_some, if_true, if_false, Bool.false_eq_true, reduceIte, Exs.len, Nat.reduceAdd, Nat.reduceLeDiff, Nat.reduceLT, List.length_cons, List.length_nil, Nat.lt_add_left_iff_pos, Nat.zero_lt_succ, decide_true, decide_false, Bool.not_true, Bool.not_false, List.map_cons, List.map_nil, List.replicate, List.cons_append, List.nil_append, decide_eq_true_eq, Bool.not_eq_true', decide_eq_false_iff_not, Bool.and_eq_true, Bool.or_eq_true, or_self, or_false, false_or, or_true, true_or, and_true, true_and, and_self, not_false_eq_true, not_true_eq_false, ite_self]
  · have g1' : ¬ (ns.length : Int) = 0 := by omega
    by_cases g2 : (ps.length : Int) = carriers
    · rw [few_yes g1 g2]
      simp only [g1', g2, x_var, x_lit, x_op1, x_op2, x_sl, x_tup, x_lst, x_call, x_ite, x_andV, x_orV, x_notV, x_revL, x_comp, x_n, x_c, t_val, t_and, t_or, t_not, t_yes, i_seq, i_r1, i_r2, i_enum, i_zip, i_rev, s_asg, s_aug, s_app, s_setI, s_expr, s_if, s_whl, s_for, s_ret, s_retV, s_retN, s_brk, s_cont, s_pass, s_raise, s_try, q_n, q_c, b_ok, b_exc, b_bad, b_ite, u_ok, u_exc, u_bad, u_ite, o_some, o_none, q_nx, q_rt, q_bk, q_ct, q_exc, q_bad, q_ite, of_some, f_nx, f_rt, f_exc, f_ite, c_ok, c_exc, c_ite, an_t, an_b, or_b, no_b, rv_l, in_i, au_s, li_s, re_s, nx_s, en_l, zi_l, ri_l, tr_nx, tr_rt, tr_bk, tr_ct, tr_exc, tr_ite, rd_c, rd_s, pk_c, pk_f, pk_o, bo_var, bo_lit, op_lit, bo_glob, op_glob, bo_op1, op_op1, bo_op2, op_op2, bo_sl, op_sl, bo_tup, op_tup, bo_lst, op_lst, bo_call, op_call, bo_ite, op_ite, bo_andV, op_andV, bo_orV, op_orV, bo_notV, op_notV, bo_revL, op_revL, bo_comp, op_comp, op_var, op_abs, opR_i, g_var, g_tup, gs_n, gs_c, d_fz, d_ow, a_add, a_sub, a_lt, a_le, a_gt, a_ge, a_max, a_min, a_mul, a_fdiv, a_mod, a_pow, a_addl, a_addt, a_adds, a_mull, a_eqi, a_nei, a_ixl, a_ixt, a1_neg, a1_lenl, a1_lent, a1_lens, a1_listl, a1_listt, a1_tupl, a1_tupt, a1_int, a1_sum, a1_isN, a1_notN, y_int_i, y_bool_i, y_str_i, y_list_i, y_tuple_i, nn_i, y_int_s, y_bool_s, y_str_s, y_list_s, y_tuple_s, nn_s, y_int_b, y_bool_b, y_str_b, y_list_b, y_tuple_b, nn_b, y_int_l, y_bool_l, y_str_l, y_list_l, y_tuple_l, nn_l, y_int_t, y_bool_t, y_str_t, y_list_t, y_tuple_t, nn_t, y_int_n, y_bool_n, y_str_n, y_list_n, y_tuple_n, nn_n, tr_b, tr_i, tr_l, tr_t, a3_l, a3_t, sq_l, sq_t, au_add, au_sub, List.getElem?_cons_zero, List.getElem?_cons_succ, List.set_cons_zero, List.set_cons_succ, Option.map_some, Option.bind_some, if_true, if_false, Bool.false_eq_true, reduceIte, Exs.len, Nat.reduceAdd, Nat.reduceLeDiff, Nat.reduceLT, List.length_cons, List.length_nil, Nat.lt_add_left_iff_pos, Nat.zero_lt_succ, decide_true, decide_false, Bool.not_true, Bool.not_false, List.map_cons, List.map_nil, List.replicate, List.cons_append, List.nil_append, decide_eq_true_eq, Bool.not_eq_true', decide_eq_false_iff_not, Bool.and_eq_true, Bool.or_eq_true, or_self, or_false, false_or, or_true, true_or, and_true, true_and, and_self, not_false_eq_true, not_true_eq_false, ite_self]
      rw [forL_x (E := fun (s : Int × Option Cell) => [some (.fz (.list (ns.map .int))), some (.fz (.int room)), some (.fz (.int carriers)), some (.fz (.list (ps.map pr))), some (.fz (.int s.1)), s.2]) (f := pr)
        (step := fun s p => match tfG ns room s.1 p with
          | some a => .inl (a, some (.fz (pr p)))
          | none => .inr (.rt (.fz (.bool false)))) (fun _ => True)
        (fun s p _ => ⟨_, by simp only [x_var, x_lit, x_op1, x_op2, x_sl, x_tup, x_lst, x_call, x_ite, x_andV, x_orV, x_notV, x_revL, x_comp, x_n, x_c, t_val, t_and, t_or, t_not, t_yes, i_seq, i_r1, i_r2, i_enum, i_zip, i_rev, s_asg, s_aug, s_app, s_setI, s_expr, s_if, s_whl, s_for, s_ret, s_retV, s_retN, s_brk, s_cont, s_pass, s_raise, s_try, q_n, q_c, b_ok, b_exc, b_bad, b_ite, u_ok, u_exc, u_bad, u_ite, o_some, o_none, q_nx, q_rt, q_bk, q_ct, q_exc, q_bad, q_ite, of_some, f_nx, f_rt, f_exc, f_ite, c_ok, c_exc, c_ite, an_t, an_b, or_b, no_b, rv_l, in_i, au_s, li_s, re_s, nx_s, en_l, zi_l, ri_l, tr_nx, tr_rt, tr_bk, tr_ct, tr_exc, tr_ite, rd_c, rd_s, pk_c, pk_f, pk_o, bo_var, bo_lit, op_lit, bo_glob, op_glob, bo_op1, op_op1, bo_op2, op_op2, bo_sl, op_sl, bo_tup, op_tup, bo_lst, op_lst, bo_call, op_call, bo_ite, op_ite, bo_andV, op_andV, bo_orV, op_orV, bo_notV, op_notV, bo_revL, op_revL, bo_comp, op_comp, op_var, op_abs, opR_i, g_var, g_tup, gs_n, gs_c, d_fz, d_ow, a_add, a_sub, a_lt, a_le, a_gt, a_ge, a_max, a_min, a_mul, a_fdiv, a_mod, a_pow, a_addl, a_addt, a_adds, a_mull, a_eqi, a_nei, a_ixl, a_ixt, a1_neg, a1_lenl, a1_lent, a1_lens, a1_listl, a1_listt, a1_tupl, a1_tupt, a1_int, a1_sum, a1_isN, a1_notN, y_int_i, y_bool_i, y_str_i, y_list_i, y_tuple_i, nn_i, y_int_s, y_bool_s, y_str_s, y_list_s, y_tuple_s, nn_s, y_int_b, y_bool_b, y_str_b, y_list_b, y_tuple_b, nn_b, y_int_l, y_bool_l, y_str_l, y_list_l, y_tuple_l, nn_l, y_int_t, y_bool_t, y_str_t, y_list_t, y_tuple_t, nn_t, y_int_n, y_bool_n, y_str_n, y_list_n, y_tuple_n, nn_n, tr_b, tr_i, tr_l, tr_t, a3_l, a3_t, sq_l, sq_t, au_add, au_sub, List.getElem?_cons_zero, List.getElem?_cons_succ, List.set_cons_zero, List.set_cons_succ, Option.map_some, Option.bind_some, if_true, if_false, Bool.false_eq_true, reduceIte, Exs.len, Nat.reduceAdd, Nat.reduceLeDiff, Nat.reduceLT, List.length_cons, List.length_nil, Nat.lt_add_left_iff_pos, Nat.zero_lt_succ, decide_true, decide_false, Bool.not_true, Bool.not_false, List.map_cons, List.map_nil, List.replicate, List.cons_append, List.nil_append, decide_eq_true_eq, Bool.not_eq_true', decide_eq_false_iff_not, Bool.and_eq_true, Bool.or_eq_true, or_self, or_false, false_or, or_true, true_or, and_true, true_and, and_self, not_false_eq_true, not_true_eq_false, ite_self]; rfl, by
          unfold tfG
          by_cases h1 : p.1 < s.1
          · simp only [h1, x_var, x_lit, x_op1, x_op2, x_sl, x_tup, x_lst, x_call, x_ite, x_andV, x_orV, x_notV, x_revL, x_comp, x_n, x_c, t_val, t_and, t_or, t_not, t_yes, i_seq, i_r1, i_r2, i_enum, i_zip, i_rev, s_asg, s_aug, s_app, s_setI, s_expr, s_if, s_whl, s_for, s_ret, s_retV, s_retN, s_brk, s_cont, s_pass, s_raise, s_try, q_n, q_c, b_ok, b_exc, b_bad, b_ite, u_ok, u_exc, u_bad, u_ite, o_some, o_none, q_nx, q_rt, q_bk, q_ct, q_exc, q_bad, q_ite, of_some, f_nx, f_rt, f_exc, f_ite, c_ok, c_exc, c_ite, an_t, an_b, or_b, no_b, rv_l, in_i, au_s, li_s, re_s, nx_s, en_l, zi_l, ri_l, tr_nx, tr_rt, tr_bk, tr_ct, tr_exc, tr_ite, rd_c, rd_s, pk_c, pk_f, pk_o, bo_var, bo_lit, op_lit, bo_glob, op_glob, bo_op1, op_op1, bo_op2, op_op2, bo_sl, op_sl, bo_tup, op_tup, bo_lst, op_lst, bo_call, op_call, bo_ite, op_ite, bo_andV, op_andV, bo_orV, op_orV, bo_notV, op_notV, bo_revL, op_revL, bo_comp, op_comp, op_var, op_abs, opR_i, g_var, g_tup, gs_n, gs_c, d_fz, d_ow, a_add, a_sub, a_lt, a_le, a_gt, a_ge, a_max, a_min, a_mul, a_fdiv, a_mod, a_pow, a_addl, a_addt, a_adds, a_mull, a_eqi, a_nei, a_ixl, a_ixt, a1_neg, a1_lenl, a1_lent, a1_lens, a1_listl, a1_listt, a1_tupl, a1_tupt, a1_int, a1_sum, a1_isN, a1_notN, y_int_i, y_bool_i, y_str_i, y_list_i, y_tuple_i, nn_i, y_int_s, y_bool_s, y_str_s, y_list_s, y_tuple_s, nn_s, y_int_b, y_bool_b, y_str_b, y_list_b, y_tuple_b, nn_b, y_int_l, y_bool_l, y_str_l, y_list_l, y_tuple_l, nn_l, y_int_t, y_bool_t, y_str_t, y_list_t, y_tuple_t, nn_t, y_int_n, y_bool_n, y_str_n, y_list_n, y_tuple_n, nn_n, tr_b, tr_i, tr_l, tr_t, a3_l, a3_t, sq_l, sq_t, au_add, au_sub, List.getElem?_cons_zero, List.getElem?_cons_succ, List.set_cons_zero, List.set_cons_succ, Option.map_some, Option.bind_some, if_true, if_false, Bool.false_eq_true, reduceIte, Exs.len, Nat.reduceAdd, Nat.reduceLeDiff, Nat.reduceLT, List.length_cons, List.length_nil, Nat.lt_add_left_iff_pos, Nat.zero_lt_succ, decide_true, decide_false, Bool.not_true, Bool.not_false, List.map_cons, List.map_nil, List.replicate, List.cons_append, List.nil_append, decide_eq_true_eq, Bool.not_eq_true', decide_eq_false_iff_not, Bool.and_eq_true, Bool.or_eq_true, or_self, or_false, false_or, or_true, true_or, and_true, true_and, and_self, not_false_eq_true, not_true_eq_false, ite_self, Out.ends, ix0, ix1]
          · by_cases h2 : p.2 ≤ p.1
            · simp only [h1, h2, x_var, x_lit, x_op1, x_op2, x_sl, x_tup, x_lst, x_call, x_ite, x_andV, x_orV, x_notV, x_revL, x_comp, x_n, x_c, t_val, t_and, t_or, t_not, t_yes, i_seq, i_r1, i_r2, i_enum, i_zip, i_rev, s_asg, s_aug, s_app, s_setI, s_expr, s_if, s_whl, s_for, s_ret, s_retV, s_retN, s_brk, s_cont, s_pass, s_raise, s_try, q_n, q_c, b_ok, b_exc, b_bad, b_ite, u_ok, u_exc, u_bad, u_ite, o_some, o_none, q_nx, q_rt, q_bk, q_ct, q_exc, q_bad, q_ite, of_some, f_nx, f_rt, f_exc, f_ite, c_ok, c_exc, c_ite, an_t, an_b, or_b, no_b, rv_l, in_i, au_s, li_s, re_s, nx_s, en_l, zi_l, ri_l, tr_nx, tr_rt, tr_bk, tr_ct, tr_exc, tr_ite, rd_c, rd_s, pk_c, pk_f, pk_o, bo_var, bo_lit, op_lit, bo_glob, op_glob, bo_op1, op_op1, bo_op2, op_op2, bo_sl, op_sl, bo_tup, op_tup, bo_lst, op_lst, bo_call, op_call, bo_ite, op_ite, bo_andV, op_andV, bo_orV, op_orV, bo_notV, op_notV, bo_revL, op_revL, bo_comp, op_comp, op_var, op_abs, opR_i, g_var, g_tup, gs_n, gs_c, d_fz, d_ow, a_add, a_sub, a_lt, a_le, a_gt, a_ge, a_max, a_min, a_mul, a_fdiv, a_mod, a_pow, a_addl, a_addt, a_adds, a_mull, a_eqi, a_nei, a_ixl, a_ixt, a1_neg, a1_lenl, a1_lent, a1_lens, a1_listl, a1_listt, a1_tupl, a1_tupt, a1_int, a1_sum, a1_isN, a1_notN, y_int_i, y_bool_i, y_str_i, y_list_i, y_tuple_i, nn_i, y_int_s, y_bool_s, y_str_s, y_list_s, y_tuple_s, nn_s, y_int_b, y_bool_b, y_str_b, y_list_b, y_tuple_b, nn_b, y_int_l, y_bool_l, y_str_l, y_list_l, y_tuple_l, nn_l, y_int_t, y_bool_t, y_str_t, y_list_t, y_tuple_t, nn_t, y_int_n, y_bool_n, y_str_n, y_list_n, y_tuple_n, nn_n, tr_b, tr_i, tr_l, tr_t, a3_l, a3_t, sq_l, sq_t, au_add, au_sub, List.getElem?_cons_zero, List.getElem?_cons_succ, List.set_cons_zero, List.set_cons_succ, Option.map_some, Option.bind_some, if_true, if_false, Bool.false_eq_true, reduceIte, Exs.len, Nat.reduceAdd, Nat.reduceLeDiff, Nat.reduceLT, List.length_cons, List.length_nil, Nat.lt_add_left_iff_pos, Nat.zero_lt_succ, decide_true, decide_false, Bool.not_true, Bool.not_false, List.map_cons, List.map_nil, List.replicate, List.cons_append, List.nil_append, decide_eq_true_eq, Bool.not_eq_true', decide_eq_false_iff_not, Bool.and_eq_true, Bool.or_eq_true, or_self, or_false, false_or, or_true, true_or, and_true, true_and, and_self, not_false_eq_true, not_true_eq_false, ite_self, Out.ends, ix0, ix1]
            · by_cases h3 : (ns.length : Int) < p.2
              · simp only [h1, h2, h3, x_var, x_lit, x_op1, x_op2, x_sl, x_tup, x_lst, x_call, x_ite, x_andV, x_orV, x_notV, x_revL, x_comp, x_n, x_c, t_val, t_and, t_or, t_not, t_yes, i_seq, i_r1, i_r2, i_enum, i_zip, i_rev, s_asg, s_aug, s_app, s_setI, s_expr, s_if, s_whl, s_for, s_ret, s_retV, s_retN, s_brk, s_cont, s_pass, s_raise, s_try, q_n, q_c, b_ok, b_exc, b_bad, b_ite, u_ok, u_exc, u_bad, u_ite, o_some, o_none, q_nx, q_rt, q_bk, q_ct, q_exc, q_bad, q_ite, of_some, f_nx, f_rt, f_exc, f_ite, c_ok, c_exc, c_ite, an_t, an_b, or_b, no_b, rv_l, in_i, au_s, li_s, re_s, nx_s, en_l, zi_l, ri_l, tr_nx, tr_rt, tr_bk, tr_ct, tr_exc, tr_ite, rd_c, rd_s, pk_c, pk_f, pk_o, bo_var, bo_lit, op_lit, bo_glob, op_glob, bo_op1, op_op1, bo_op2, op_op2, bo_sl, op_sl, bo_tup, op_tup, bo_lst, op_lst, bo_call, op_call, bo_ite, op_ite, bo_andV, op_andV, bo_orV, op_orV, bo_notV, op_notV, bo_revL, op_revL, bo_comp, op_comp, op_var, op_abs, opR_i, g_var, g_tup, gs_n, gs_c, d_fz, d_ow, a_add, a_sub, a_lt, a_le, a_gt, a_ge, a_max, a_min, a_mul, a_fdiv, a_mod, a_pow, a_addl, a_addt, a_adds, a_mull, a_eqi, a_nei, a_ixl, a_ixt, a1_neg, a1_lenl, a1_lent, a1_lens, a1_listl, a1_listt, a1_tupl, a1_tupt, a1_int, a1_sum, a1_isN, a1_notN, y_int_i, y_bool_i, y_str_i, y_list_i, y_tuple_i, nn_i, y_int_s, y_bool_s, y_str_s, y_list_s, y_tuple_s, nn_s, y_int_b, y_bool_b, y_str_b, y_list_b, y_tuple_b, nn_b, y_int_l, y_bool_l, y_str_l, y_list_l, y_tuple_l, nn_l, y_int_t, y_bool_t, y_str_t, y_list_t, y_tuple_t, nn_t, y_int_n, y_bool_n, y_str_n, y_list_n, y_tuple_n, nn_n, tr_b, tr_i, tr_l, tr_t, a3_l, a3_t, sq_l, sq_t, au_add, au_sub, List.getElem?_cons_zero, List.getElem?_cons_succ, List.set_cons_zero, List.set_cons_succ, Option.map_some, Option.bind_some, if_true, if_false, Bool.false_eq_true, reduceIte, Exs.len, Nat.reduceAdd, Nat.reduceLeDiff, Nat.reduceLT, List.length_cons, List.length_nil, Nat.lt_add_left_iff_pos, Nat.zero_lt_succ, decide_true, decide_false, Bool.not_true, Bool.not_false, List.map_cons, List.map_nil, List.replicate, List.cons_append, List.nil_append, decide_eq_true_eq, Bool.not_eq_true', decide_eq_false_iff_not, Bool.and_eq_true, Bool.or_eq_true, or_self, or_false, false_or, or_true, true_or, and_true, true_and, and_self, not_false_eq_true, not_true_eq_false, ite_self, Out.ends, List.length_map, ix0, ix1]
              · simp only [h1, h2, h3, x_var, x_lit, x_op1, x_op2, x_sl, x_tup, x_lst, x_call, x_ite, x_andV, x_orV, x_notV, x_revL, x_comp, x_n, x_c, t_val, t_and, t_or, t_not, t_yes, i_seq, i_r1, i_r2, i_enum, i_zip, i_rev, s_asg, s_aug, s_app, s_setI, s_expr, s_if, s_whl, s_for, s_ret, s_retV, s_retN, s_brk, s_cont, s_pass, s_raise, s_try, q_n, q_c, b_ok, b_exc, b_bad, b_ite, u_ok, u_exc, u_bad, u_ite, o_some, o_none, q_nx, q_rt, q_bk, q_ct, q_exc, q_bad, q_ite, of_some, f_nx, f_rt, f_exc, f_ite, c_ok, c_exc, c_ite, an_t, an_b, or_b, no_b, rv_l, in_i, au_s, li_s, re_s, nx_s, en_l, zi_l, ri_l, tr_nx, tr_rt, tr_bk, tr_ct, tr_exc, tr_ite, rd_c, rd_s, pk_c, pk_f, pk_o, bo_var, bo_lit, op_lit, bo_glob, op_glob, bo_op1, op_op1, bo_op2, op_op2, bo_sl, op_sl, bo_tup, op_tup, bo_lst, op_lst, bo_call, op_call, bo_ite, op_ite, bo_andV, op_andV, bo_orV, op_orV, bo_notV, op_notV, bo_revL, op_revL, bo_comp, op_comp, op_var, op_abs, opR_i, g_var, g_tup, gs_n, gs_c, d_fz, d_ow, a_add, a_sub, a_lt, a_le, a_gt, a_ge, a_max, a_min, a_mul, a_fdiv, a_mod, a_pow, a_addl, a_addt, a_adds, a_mull, a_eqi, a_nei, a_ixl, a_ixt, a1_neg, a1_lenl, a1_lent, a1_lens, a1_listl, a1_listt, a1_tupl, a1_tupt, a1_int, a1_sum, a1_isN, a1_notN, y_int_i, y_bool_i, y_str_i, y_list_i, y_tuple_i, nn_i, y_int_s, y_bool_s, y_str_s, y_list_s, y_tuple_s, nn_s, y_int_b, y_bool_b, y_str_b, y_list_b, y_tuple_b, nn_b, y_int_l, y_bool_l, y_str_l, y_list_l, y_tuple_l, nn_l, y_int_t, y_bool_t, y_str_t, y_list_t, y_tuple_t, nn_t, y_int_n, y_bool_n, y_str_n, y_list_n, y_tuple_n, nn_n, tr_b, tr_i, tr_l, tr_t, a3_l, a3_t, sq_l, sq_t, au_add, au_sub, List.getElem?_cons_zero, List.getElem?_cons_succ, List.set_cons_zero, List.set_cons_succ, Option.map_some, Option.bind_some, if_true, if_false, Bool.false_eq_true, reduceIte, Exs.len, Nat.reduceAdd, Nat.reduceLeDiff, Nat.reduceLT, List.length_cons, List.length_nil, Nat.lt_add_left_iff_pos, Nat.zero_lt_succ, decide_true, decide_false, Bool.not_true, Bool.not_false, List.map_cons, List.map_nil, List.replicate, List.cons_append, List.nil_append, decide_eq_true_eq, Bool.not_eq_true', decide_eq_false_iff_not, Bool.and_eq_true, Bool.or_eq_true, or_self, or_false, false_or, or_true, true_or, and_true, true_and, and_self, not_false_eq_true, not_true_eq_false, ite_self, Out.ends, List.length_map, ix0, ix1, cut_map, ints_all]
                by_cases h4 : (cut ns (some p.1) (some p.2)).sum ≤ room
                · simp only [h4, x_var, x_lit, x_op1, x_op2, x_sl, x_tup, x_lst, x_call, x_ite, x_andV, x_orV, x_notV, x_revL, x_comp, x_n, x_c, t_val, t_and, t_or, t_not, t_yes, i_seq, i_r1, i_r2, i_enum, i_zip, i_rev, s_asg, s_aug, s_app, s_setI, s_expr, s_if, s_whl, s_for, s_ret, s_retV, s_retN, s_brk, s_cont, s_pass, s_raise, s_try, q_n, q_c, b_ok, b_exc, b_bad, b_ite, u_ok, u_exc, u_bad, u_ite, o_some, o_none, q_nx, q_rt, q_bk, q_ct, q_exc, q_bad, q_ite, of_some, f_nx, f_rt, f_exc, f_ite, c_ok, c_exc, c_ite, an_t, an_b, or_b, no_b, rv_l, in_i, au_s, li_s, re_s, nx_s, en_l, zi_l, ri_l, tr_nx, tr_rt, tr_bk, tr_ct, tr_exc, tr_ite, rd_c, rd_s, pk_c, pk_f, pk_o, bo_var, bo_lit, op_lit, bo_glob, op_glob, bo_op1, op_op1, bo_op2, op_op2, bo_sl, op_sl, bo_tup, op_tup, bo_lst, op_lst, bo_call, op_call, bo_ite, op_ite, bo_andV, op_andV, bo_orV, op_orV, bo_notV, op_notV, bo_revL, op_revL, bo_comp, op_comp, op_var, op_abs, opR_i, g_var, g_tup, gs_n, gs_c, d_fz, d_ow, a_add, a_sub, a_lt, a_le, a_gt, a_ge, a_max, a_min, a_mul, a_fdiv, a_mod, a_pow, a_addl, a_addt, a_adds, a_mull, a_eqi, a_nei, a_ixl, a_ixt, a1_neg, a1_lenl, a1_lent, a1_lens, a1_listl, a1_listt, a1_tupl, a1_tupt, a1_int, a1_sum, a1_isN, a1_notN, y_int_i, y_bool_i, y_str_i, y_list_i, y_tuple_i, nn_i, y_int_s, y_bool_s, y_str_s, y_list_s, y_tuple_s, nn_s, y_int_b, y_bool_b, y_str_b, y_list_b, y_tuple_b, nn_b, y_int_l, y_bool_l, y_str_l, y_list_l, y_tuple_l, nn_l, y_int_t, y_bool_t, y_str_t, y_list_t, y_tuple_t, nn_t, y_int_n, y_bool_n, y_str_n, y_list_n, y_tuple_n, nn_n, tr_b, tr_i, tr_l, tr_t, a3_l, a3_t, sq_l, sq_t, au_add, au_sub, List.getElem?_cons_zero, List.getElem?_cons_succ, List.set_cons_zero, List.set_cons_succ, Option.map_some, Option.bind_some, if_true, if_false, Bool.false_eq_true, reduceIte, Exs.len, Nat.reduceAdd, Nat.reduceLeDiff, Nat.reduceLT, List.length_cons, List.length_nil, Nat.lt_add_left_iff_pos, Nat.zero_lt_succ, decide_true, decide_false, Bool.not_true, Bool.not_false, List.map_cons, List.map_nil, List.replicate, List.cons_append, List.nil_append, decide_eq_true_eq, Bool.not_eq_true', decide_eq_false_iff_not, Bool.and_eq_true, Bool.or_eq_true, or_self, or_false, false_or, or_true, true_or, and_true, true_and, and_self, not_false_eq_true, not_true_eq_false, ite_self, Out.ends]
                · simp only [h4, x_var, x_lit, x_op1, x_op2, x_sl, x_tup, x_lst, x_call, x_ite, x_andV, x_orV, x_notV, x_revL, x_comp, x_n, x_c, t_val, t_and, t_or, t_not, t_yes, i_seq, i_r1, i_r2, i_enum, i_zip, i_rev, s_asg, s_aug, s_app, s_setI, s_expr, s_if, s_whl, s_for, s_ret, s_retV, s_retN, s_brk, s_cont, s_pass, s_raise, s_try, q_n, q_c, b_ok, b_exc, b_bad, b_ite, u_ok, u_exc, u_bad, u_ite, o_some, o_none, q_nx, q_rt, q_bk, q_ct, q_exc, q_bad, q_ite, of_some, f_nx, f_rt, f_exc, f_ite, c_ok, c_exc, c_ite, an_t, an_b, or_b, no_b, rv_l, in_i, au_s, li_s, re_s, nx_s, en_l, zi_l, ri_l, tr_nx, tr_rt, tr_bk, tr_ct, tr_exc, tr_ite, rd_c, rd_s, pk_c, pk_f, pk_o, bo_var, bo_lit, op_lit, bo_glob, op_glob, bo_op1, op_op1, bo_op2, op_op2, bo_sl, op_sl, bo_tup, op_tup, bo_lst, op_lst, bo_call, op_call, bo_ite, op_ite, bo_andV, op_andV, bo_orV, op_orV, bo_notV, op_notV, bo_revL, op_revL, bo_comp, op_comp, op_var, op_abs, opR_i, g_var, g_tup, gs_n, gs_c, d_fz, d_ow, a_add, a_sub, a_lt, a_le, a_gt, a_ge, a_max, a_min, a_mul, a_fdiv, a_mod, a_pow, a_addl, a_addt, a_adds, a_mull, a_eqi, a_nei, a_ixl, a_ixt, a1_neg, a1_lenl, a1_lent, a1_lens, a1_listl, a1_listt, a1_tupl, a1_tupt, a1_int, a1_sum, a1_isN, a1_notN, y_int_i, y_bool_i, y_str_i, y_list_i, y_tuple_i, nn_i, y_int_s, y_bool_s, y_str_s, y_list_s, y_tuple_s, nn_s, y_int_b, y_bool_b, y_str_b, y_list_b, y_tuple_b, nn_b, y_int_l, y_bool_l, y_str_l, y_list_l, y_tuple_l, nn_l, y_int_t, y_bool_t, y_str_t, y_list_t, y_tuple_t, nn_t, y_int_n, y_bool_n, y_str_n, y_list_n, y_tuple_n, nn_n, tr_b, tr_i, tr_l, tr_t, a3_l, a3_t, sq_l, sq_t, au_add, au_sub, List.getElem?_cons_zero, List.getElem?_cons_succ, List.set_cons_zero, List.set_cons_succ, Option.map_some, Option.bind_some, if_true, if_false, Bool.false_eq_true, reduceIte, Exs.len, Nat.reduceAdd, Nat.reduceLeDiff, Nat.reduceLT, List.length_cons, List.length_nil, Nat.lt_add_left_iff_pos, Nat.zero_lt_succ, decide_true, decide_false, Bool.not_true, Bool.not_false, List.map_cons, List.map_nil, List.replicate, List.cons_append, List.nil_append, decide_eq_true_eq, Bool.not_eq_true', decide_eq_false_iff_not, Bool.and_eq_true, Bool.or_eq_true, or_self, or_false, false_or, or_true, true_or, and_true, true_and, and_self, not_false_eq_true, not_true_eq_false, ite_self, Out.ends, ix0, ix1]⟩) ps (0, none) trivial]
      obtain ⟨j, e⟩ := foldX_fst (tfG ns room) (.rt (.fz (.bool false))) (step := fun (s : Int × Option Cell) p => match tfG ns room s.1 p with
          | some a => .inl (a, some (.fz (pr p)))
          | none => .inr (.rt (.fz (.bool false)))) (fun s p => ⟨some (.fz (pr p)), by cases tfG ns room s.1 p <;> rfl⟩) ps (0, none)
      rw [e]
      cases ps.foldlM (tfG ns room) 0 with
      | none => simp only [x_var, x_lit, x_op1, x_op2, x_sl, x_tup, x_lst, x_call, x_ite, x_andV, x_orV, x_notV, x_revL, x_comp, x_n, x_c, t_val, t_and, t_or, t_not, t_yes, i_seq, i_r1, i_r2, i_enum, i_zip, i_rev, s_asg, s_aug, s_app, s_setI, s_expr, s_if, s_whl, s_for, s_ret, s_retV, s_retN, s_brk, s_cont, s_pass, s_raise, s_try, q_n, q_c, b_ok, b_exc, b_bad, b_ite, u_ok, u_exc, u_bad, u_ite, o_some, o_none, q_nx, q_rt, q_bk, q_ct, q_exc, q_bad, q_ite, of_some, f_nx, f_rt, f_exc, f_ite, c_ok, c_exc, c_ite, an_t, an_b, or_b, no_b, rv_l, in_i, au_s, li_s, re_s, nx_s, en_l, zi_l, ri_l, tr_nx, tr_rt, tr_bk, tr_ct, tr_exc, tr_ite, rd_c, rd_s, pk_c, pk_f, pk_o, bo_var, bo_lit, op_lit, bo_glob, op_glob, bo_op1, op_op1, bo_op2, op_op2, bo_sl, op_sl, bo_tup, op_tup, bo_lst, op_lst, bo_call, op_call, bo_ite, op_ite, bo_andV, op_andV, bo_orV, op_orV, bo_notV, op_notV, bo_revL, op_revL, bo_comp, op_comp, op_var, op_abs, opR_i, g_var, g_tup, gs_n, gs_c, d_fz, d_ow, a_add, a_sub, a_lt, a_le, a_gt, a_ge, a_max, a_min, a_mul, a_fdiv, a_mod, a_pow, a_addl, a_addt, a_adds, a_mull, a_eqi, a_nei, a_ixl, a_ixt, a1_neg, a1_lenl, a1_lent, a1_lens, a1_listl, a1_listt, a1_tupl, a1_tupt, a1_int, a1_sum, a1_isN, a1_notN, y_int_i, y_bool_i, y_str_i, y_list_i, y_tuple_i, nn_i, y_int_s, y_bool_s, y_str_s, y_list_s, y_tuple_s, nn_s, y_int_b, y_bool_b, y_str_b, y_list_b, y_tuple_b, nn_b, y_int_l, y_bool_l, y_str_l, y_list_l, y_tuple_l, nn_l, y_int_t, y_bool_t, y_str_t, y_list_t, y_tuple_t, nn_t, y_int_n, y_bool_n, y_str_n, y_list_n, y_tuple_n, nn_n, tr_b, tr_i, tr_l, tr_t, a3_l, a3_t, sq_l, sq_t, au_add, au_sub, List.getElem?_cons_zero, List.getElem?_cons_succ, List.set_cons_zero, List.set_cons_succ, Option.map_some, Option.bind_some, if_true, if_false, Bool.false_eq_true, reduceIte, Exs.len, Nat.reduceAdd, Nat.reduceLeDiff, Nat.reduceLT, List.length_cons, List.length_nil, Nat.lt_add_left_iff_pos, Nat.zero_lt_succ, decide_true, decide_false, Bool.not_true, Bool.not_false, List.map_cons, List.map_nil, List.replicate, List.cons_append, List.nil_append, decide_eq_true_eq, Bool.not_eq_true', decide_eq_false_iff_not, Bool.and_eq_true, Bool.or_eq_true, or_self, or_false, false_or, or_true, true_or, and_true, true_and, and_self, not_false_eq_true, not_true_eq_false, ite_self, Option.isSome_none]
      | some a => simp only [x_var, x_lit, x_op1, x_op2, x_sl, x_tup, x_lst, x_call, x_ite, x_andV, x_orV, x_notV, x_revL, x_comp, x_n, x_c, t_val, t_and, t_or, t_not, t_yes, i_seq, i_r1, i_r2, i_enum, i_zip, i_rev, s_asg, s_aug, s_app, s_setI, s_expr, s_if, s_whl, s_for, s_ret, s_retV, s_retN, s_brk, s_cont, s_pass, s_raise, s_try, q_n, q_c, b_ok, b_exc, b_bad, b_ite, u_ok, u_exc, u_bad, u_ite, o_some, o_none, q_nx, q_rt, q_bk, q_ct, q_exc, q_bad, q_ite, of_some, f_nx, f_rt, f_exc, f_ite, c_ok, c_exc, c_ite, an_t, an_b, or_b, no_b, rv_l, in_i, au_s, li_s, re_s, nx_s, en_l, zi_l, ri_l, tr_nx, tr_rt, tr_bk, tr_ct, tr_exc, tr_ite, rd_c, rd_s, pk_c, pk_f, pk_o, bo_var, bo_lit, op_lit, bo_glob, op_glob, bo_op1, op_op1, bo_op2, op_op2, bo_sl, op_sl, bo_tup, op_tup, bo_lst, op_lst, bo_call, op_call, bo_ite, op_ite, bo_andV, op_andV, bo_orV, op_orV, bo_notV, op_notV, bo_revL, op_revL, bo_comp, op_comp, op_var, op_abs, opR_i, g_var, g_tup, gs_n, gs_c, d_fz, d_ow, a_add, a_sub, a_lt, a_le, a_gt, a_ge, a_max, a_min, a_mul, a_fdiv, a_mod, a_pow, a_addl, a_addt, a_adds, a_mull, a_eqi, a_nei, a_ixl, a_ixt, a1_neg, a1_lenl, a1_lent, a1_lens, a1_listl, a1_listt, a1_tupl, a1_tupt, a1_int, a1_sum, a1_isN, a1_notN, y_int_i, y_bool_i, y_str_i, y_list_i, y_tuple_i, nn_i, y_int_s, y_bool_s, y_str_s, y_list_s, y_tuple_s, nn_s, y_int_b, y_bool_b, y_str_b, y_list_b, y_tuple_b, nn_b, y_int_l, y_bool_l, y_str_l, y_list_l, y_tuple_l, nn_l, y_int_t, y_bool_t, y_str_t, y_list_t, y_tuple_t, nn_t, y_int_n, y_bool_n, y_str_n, y_list_n, y_tuple_n, nn_n, tr_b, tr_i, tr_l, tr_t, a3_l, a3_t, sq_l, sq_t, au_add, au_sub, List.getElem?_cons_zero, List.getElem?_cons_succ, List.set_cons_zero, List.set_cons_succ, Option.map_some, Option.bind_some, if_true, if_false, Bool.false_eq_true, reduceIte, Exs.len, Nat.reduceAdd, Nat.reduceLeDiff, Nat.reduceLT, List.length_cons, List.length_nil, Nat.lt_add_left_iff_pos, Nat.zero_lt_succ, decide_true, decide_false, Bool.not_true, Bool.not_false, List.map_cons, List.map_nil, List.replicate, List.cons_append, List.nil_append, decide_eq_true_eq, Bool.not_eq_true', decide_eq_false_iff_not, Bool.and_eq_true, Bool.or_eq_true, or_self, or_false, false_or, or_true, true_or, and_true, true_and, and_self, not_false_eq_true, not_true_eq_false, ite_self, Option.isSome_some]
    · rw [few_no (.inr g2)]
      simp only [g1', g2, x_var, x_lit, x_op1, x_op2, x_sl, x_tup, x_lst, x_call, x_ite, x_andV, x_orV, x_notV, x_revL, x_comp, x_n, x_c, t_val, t_and, t_or, t_not, t_yes, i_seq, i_r1, i_r2, i_enum, i_zip, i_rev, s_asg, s_aug, s_app, s_setI, s_expr, s_if, s_whl, s_for, s_ret, s_retV, s_retN, s_brk, s_cont, s_pass, s_raise, s_try, q_n, q_c, b_ok, b_exc, b_bad, b_ite, u_ok, u_exc, u_bad, u_ite, o_some, o_none, q_nx, q_rt, q_bk, q_ct, q_exc, q_bad, q_ite, of_some, f_nx, f_rt, f_exc, f_ite, c_ok, c_exc, c_ite, an_t, an_b, or_b, no_b, rv_l, in_i, au_s, li_s, re_s, nx_s, en_l, zi_l, ri_l, tr_nx, tr_rt, tr_bk, tr_ct, tr_exc, tr_ite, rd_c, rd_s, pk_c, pk_f, pk_o, bo_var, bo_lit, op_lit, bo_glob, op_glob, bo_op1, op_op1, bo_op2, op_op2, bo_sl, op_sl, bo_tup, op_tup, bo_lst, op_lst, bo_call, op_call, bo_ite, op_ite, bo_andV, op_andV, bo_orV, op_orV, bo_notV, op_notV, bo_revL, op_revL, bo_comp, op_comp, op_var, op_abs, opR_i, g_var, g_tup, gs_n, gs_c, d_fz, d_ow, a_add, a_sub, a_lt, a_le, a_gt, a_ge, a_max, a_min, a_mul, a_fdiv, a_mod, a_pow, a_addl, a_addt, a_adds, a_mull, a_eqi, a_nei, a_ixl, a_ixt, a1_neg, a1_lenl, a1_lent, a1_lens, a1_listl, a1_listt, a1_tupl, a1_tupt, a1_int, a1_sum, a1_isN, a1_notN, y_int_i, y_bool_i, y_str_i, y_list_i, y_tuple_i, nn_i, y_int_s, y_bool_s, y_str_s, y_list_s, y_tuple_s, nn_s, y_int_b, y_bool_b, y_str_b, y_list_b, y_tuple_b, nn_b, y_int_l, y_bool_l, y_str_l, y_list_l, y_tuple_l, nn_l, y_int_t, y_bool_t, y_str_t, y_list_t, y_tuple_t, nn_t, y_int_n, y_bool_n, y_str_n, y_list_n, y_tuple_n, nn_n, tr_b, tr_i, tr_l, tr_t, a3_l, a3_t, sq_l, sq_t, au_add, au_sub, List.getElem?_cons_zero, List.getElem?_cons_succ, List.set_cons_zero, List.set_cons_succ, Option.map_some, Option.bind_some, if_true, if_false, Bool.false_eq_true, reduceIte, Exs.len, Nat.reduceAdd, Nat.reduceLeDiff, Nat.reduceLT, List.length_cons, List.length_nil, Nat.lt_add_left_iff_pos, Nat.zero_lt_succ, decide_true, decide_false, Bool.not_true, Bool.not_false, List.map_cons, List.map_nil, List.replicate, List.cons_append, List.nil_append, decide_eq_true_eq, Bool.not_eq_true', decide_eq_false_iff_not, Bool.and_eq_true, Bool.or_eq_true, or_self, or_false, false_or, or_true, true_or, and_true, true_and, and_self, not_false_eq_true, not_true_eq_false, ite_self]

/-! ### what is drawn -/
def mixN (cell k place : Int) : Int := (cell * 48271 + (61 * k + place + 1) * 69621) % 1000003
def drG (cell k base : Int) (s : List Int × Int) (place : Nat) : List Int × Int :=
  if 0 < s.2 then (s.1 ++ [s.2 % base], s.2 / base) else (s.1 ++ [(mixN cell k place * (mixN cell k place + 7) + 7919 * place) % 999983 % base], s.2)
def big : Int := 1000000000000000000
def cellOf (ns : List Int) (k : Int) : Int := if k < ns.length then ns.getD k.toNat 0 else 0
def draws (ns : List Int) (k base : Int) (count : Nat) : List Int := ((List.range count).foldl (drG (cellOf ns k) k base) ([], cellOf ns k - big)).1
theorem draws_ok (ns : List Int) (k base : Int) (hb : 0 < base) (count : Nat) : (draws ns k base count).length = count ∧ ∀ x ∈ draws ns k base count, 0 ≤ x ∧ x < base := by
  unfold draws
  have key : ∀ (l : List Nat) (s : List Int × Int), (∀ x ∈ s.1, 0 ≤ x ∧ x < base) → (l.foldl (drG (cellOf ns k) k base) s).1.length = s.1.length + l.length ∧ ∀ x ∈ (l.foldl (drG (cellOf ns k) k base) s).1, 0 ≤ x ∧ x < base := by
    intro l
    induction l with
    | nil => intro s h; exact ⟨rfl, h⟩
    | cons a l ih =>
      intro s h
      have h2 : ∀ x ∈ (drG (cellOf ns k) k base s a).1, 0 ≤ x ∧ x < base := by
        unfold drG
        split
        · intro x hx
          rcases List.mem_append.mp hx with hx | hx
          · exact h x hx
          · rw [List.mem_singleton.mp hx]
            exact ⟨Int.emod_nonneg _ (by omega), Int.emod_lt_of_pos _ hb⟩
        · intro x hx
          rcases List.mem_append.mp hx with hx | hx
          · exact h x hx
          · rw [List.mem_singleton.mp hx]
            exact ⟨Int.emod_nonneg _ (by omega), Int.emod_lt_of_pos _ hb⟩
      have h3 : (drG (cellOf ns k) k base s a).1.length = s.1.length + 1 := by
        unfold drG
        split <;> simp
      obtain ⟨q1, q2⟩ := ih _ h2
      exact ⟨by rw [List.foldl_cons, q1, h3, List.length_cons]; omega, q2⟩
  obtain ⟨q1, q2⟩ := key (List.range count) ([], cellOf ns k - big) (fun x hx => by cases hx)
  exact ⟨by rw [q1]; simp, q2⟩
theorem mul64 (i j : Int) (h : j.natAbs < 2 ^ 64) : mulOk i j = true := by
  unfold mulOk
  simp only [Bool.or_eq_true, decide_eq_true_eq]
  exact .inl (.inr h)
theorem mul64l (i j : Int) (h : i.natAbs < 2 ^ 64) : mulOk i j = true := by
  unfold mulOk
  simp only [Bool.or_eq_true, decide_eq_true_eq]
  exact .inl (.inl h)
theorem div_small (j : Int) (h : 0 < j) (h2 : j < 2 ^ 64) : divOk j = true := by
  unfold divOk
  have : j.natAbs.log2 < 64 := by
    rw [Nat.log2_lt (by omega)]
    omega
  simp only [Bool.and_eq_true, decide_eq_true_eq]
  exact ⟨h, by omega⟩
end PD.K55

end

section
set_option Elab.async false
set_option linter.all false
set_option maxRecDepth 100000
namespace PD.K55
open PySem
def drB : ISs := match f__law_draws.body with
  | .c _ (.c _ (.c _ (.c _ (.c (.for_ _ _ b) _)))) => b
  | _ => .n
def drE (ns : List Int) (k base c0 : Int) (count : Nat) (s : (List Int × Int) × (Option Cell × Option Cell)) : Env := [some (.fz (.list (ns.map .int))), some (.fz (.int k)), some (.fz (.int base)), some (.fz (.int count)), some (.fz (.int c0)), some (.fz (.int s.1.2)), some (.ow (s.1.1.map .int)), s.2.1, s.2.2]
def drS (c0 k base : Int) (s : (List Int × Int) × (Option Cell × Option Cell)) (x : Nat) : (List Int × Int) × (Option Cell × Option Cell) := (drG c0 k base s.1 x, (some (.fz (.int (x : Int))), if 0 < s.1.2 then s.2.2 else some (.fz (.int (mixN c0 k x)))))
theorem small64 : -(2 ^ 64) < (61 : Int) ∧ (61 : Int) < 2 ^ 64 := by omega
theorem dr_step (R : RT) (ns : List Int) (k base c0 : Int) (count : Nat) (hb : 0 < base) (hb2 : base < 2 ^ 64) (s : (List Int × Int) × (Option Cell × Option Cell)) (x : Nat) (hs : s.1.1.length < 1000) :
    exSs R drB ((drE ns k base c0 count s).set 7 (some (.fz (.int (x : Int))))) = .nx (drE ns k base c0 count (drS c0 k base s x)) := by
  have hsz : (s.1.1.map PyData.int).length < sizeLine := by
    rw [List.length_map]
    exact Nat.lt_trans hs (by decide)
  have d1 := div_small base hb hb2
  unfold drE drS drG
  simp only [drB, f__law_draws]
  by_cases h : 0 < s.1.2
  · simp only [x_var, x_lit, x_op1, x_op2, x_sl, x_tup, x_lst, x_call, x_ite, x_andV, x_orV, x_notV, x_revL, x_comp, x_n, x_c, t_val, t_and, t_or, t_not, t_yes, i_seq, i_r1, i_r2, i_enum, i_zip, i_rev, s_asg, s_aug, s_app, s_setI, s_expr, s_if, s_whl, s_for, s_ret, s_retV, s_retN, s_brk, s_cont, s_pass, s_raise, s_try, q_n, q_c, b_ok, b_exc, b_bad, b_ite, u_ok, u_exc, u_bad, u_ite, o_some, o_none, q_nx, q_rt, q_bk, q_ct, q_exc, q_bad, q_ite, of_some, f_nx, f_rt, f_exc, f_ite, c_ok, c_exc, c_ite, an_t, an_b, or_b, no_b, rv_l, in_i, au_s, li_s, re_s, nx_s, en_l, zi_l, ri_l, tr_nx, tr_rt, tr_bk, tr_ct, tr_exc, tr_ite, rd_c, rd_s, pk_c, pk_f, pk_o, bo_var, bo_lit, op_lit, bo_glob, op_glob, bo_op1, op_op1, bo_op2, op_op2, bo_sl, op_sl, bo_tup, op_tup, bo_lst, op_lst, bo_call, op_call, bo_ite, op_ite, bo_andV, op_andV, bo_orV, op_orV, bo_notV, op_notV, bo_revL, op_revL, bo_comp, op_comp, op_var, op_abs, opR_i, g_var, g_tup, gs_n, gs_c, d_fz, d_ow, a_add, a_sub, a_lt, a_le, a_gt, a_ge, a_max, a_min, a_mul, a_fdiv, a_mod, a_pow, a_addl, a_addt, a_adds, a_mull, a_eqi, a_nei, a_ixl, a_ixt, a1_neg, a1_lenl, a1_lent, a1_lens, a1_listl, a1_listt, a1_tupl, a1_tupt, a1_int, a1_sum, a1_isN, a1_notN, y_int_i, y_bool_i, y_str_i, y_list_i, y_tuple_i, nn_i, y_int_s, y_bool_s, y_str_s, y_list_s, y_tuple_s, nn_s, y_int_b, y_bool_b, y_str_b, y_list_b, y_tuple_b, nn_b, y_int_l, y_bool_l, y_str_l, y_list_l, y_tuple_l, nn_l, y_int_t, y_bool_t, y_str_t, y_list_t, y_tuple_t, nn_t, y_int_n, y_bool_n, y_str_n, y_list_n, y_tuple_n, nn_n, tr_b, tr_i, tr_l, tr_t, a3_l, a3_t, sq_l, sq_t, au_add, au_sub, List.getElem?_cons_zero, List.getElem?_cons_succ, List.set_cons_zero, List.set_cons_succ, Option.map_some, Option.bind_some, if_true, if_false, Bool.false_eq_true, reduceIte, Exs.len, Nat.reduceAdd, Nat.reduceLeDiff, Nat.reduceLT, List.length_cons, List.length_nil, Nat.lt_add_left_iff_pos, Nat.zero_lt_succ, decide_true, decide_false, Bool.not_true, Bool.not_false, List.map_cons, List.map_nil, List.replicate, List.cons_append, List.nil_append, decide_eq_true_eq, Bool.not_eq_true', decide_eq_false_iff_not, Bool.and_eq_true, Bool.or_eq_true, or_self, or_false, false_or, or_true, true_or, and_true, true_and, and_self, not_false_eq_true, not_true_eq_false, ite_self, h, hb, hsz, d1]
    simp only [List.map_append, List.map_cons, List.map_nil]
  · have m1 := mul64 c0 48271 (by omega)
    have m2 := mul64 (61 * k + x + 1) 69621 (by omega)
    have m3 := mul64l 61 k (by omega)
    have mx : 0 ≤ mixN c0 k x ∧ mixN c0 k x < 1000003 := ⟨Int.emod_nonneg _ (by omega), Int.emod_lt_of_pos _ (by omega)⟩
    have m4 := mul64l (mixN c0 k x) (mixN c0 k x + 7) (by omega)
    have m5 := mul64l 7919 x (by omega)
    unfold mixN at m4
    simp only [x_var, x_lit, x_op1, x_op2, x_sl, x_tup, x_lst, x_call, x_ite, x_andV, x_orV, x_notV, x_revL, x_comp, x_n, x_c, t_val, t_and, t_or, t_not, t_yes, i_seq, i_r1, i_r2, i_enum, i_zip, i_rev, s_asg, s_aug, s_app, s_setI, s_expr, s_if, s_whl, s_for, s_ret, s_retV, s_retN, s_brk, s_cont, s_pass, s_raise, s_try, q_n, q_c, b_ok, b_exc, b_bad, b_ite, u_ok, u_exc, u_bad, u_ite, o_some, o_none, q_nx, q_rt, q_bk, q_ct, q_exc, q_bad, q_ite, of_some, f_nx, f_rt, f_exc, f_ite, c_ok, c_exc, c_ite, an_t, an_b, or_b, no_b, rv_l, in_i, au_s, li_s, re_s, nx_s, en_l, zi_l, ri_l, tr_nx, tr_rt, tr_bk, tr_ct, tr_exc, tr_ite, rd_c, rd_s, pk_c, pk_f, pk_o, bo_var, bo_lit, op_lit, bo_glob, op_glob, bo_op1, op_op1, bo_op2, op_op2, bo_sl, op_sl, bo_tup, op_tup, bo_lst, op_lst, bo_call, op_call, bo_ite, op_ite, bo_andV, op_andV, bo_orV, op_orV, bo_notV, op_notV, bo_revL, op_revL, bo_comp, op_comp, op_var, op_abs, opR_i, g_var, g_tup, gs_n, gs_c, d_fz, d_ow, a_add, a_sub, a_lt, a_le, a_gt, a_ge, a_max, a_min, a_mul, a_fdiv, a_mod, a_pow, a_addl, a_addt, a_adds, a_mull, a_eqi, a_nei, a_ixl, a_ixt, a1_neg, a1_lenl, a1_lent, a1_lens, a1_listl, a1_listt, a1_tupl, a1_tupt, a1_int, a1_sum, a1_isN, a1_notN, y_int_i, y_bool_i, y_str_i, y_list_i, y_tuple_i, nn_i, y_int_s, y_bool_s, y_str_s, y_list_s, y_tuple_s, nn_s, y_int_b, y_bool_b, y_str_b, y_list_b, y_tuple_b, nn_b, y_int_l, y_bool_l, y_str_l, y_list_l, y_tuple_l, nn_l, y_int_t, y_bool_t, y_str_t, y_list_t, y_tuple_t, nn_t, y_int_n, y_bool_n, y_str_n, y_list_n, y_tuple_n, nn_n, tr_b, tr_i, tr_l, tr_t, a3_l, a3_t, sq_l, sq_t, au_add, au_sub, List.getElem?_cons_zero, List.getElem?_cons_succ, List.set_cons_zero, List.set_cons_succ, Option.map_some, Option.bind_some, if_true, if_false, Bool.false_eq_true, reduceIte, Exs.len, Nat.reduceAdd, Nat.reduceLeDiff, Nat.reduceLT, List.length_cons, List.length_nil, Nat.lt_add_left_iff_pos, Nat.zero_lt_succ, decide_true, decide_false, Bool.not_true, Bool.not_false, List.map_cons, List.map_nil, List.replicate, List.cons_append, List.nil_append, decide_eq_true_eq, Bool.not_eq_true', decide_eq_false_iff_not, Bool.and_eq_true, Bool.or_eq_true, or_self, or_false, false_or, or_true, true_or, and_true, true_and, and_self, not_false_eq_true, not_true_eq_false, ite_self, h, hb, hsz, d1, m1, m2, m3, m4, m5, Int.reduceLT, mixN]
    simp only [List.map_append, List.map_cons, List.map_nil]
theorem dr_loop (R : RT) (ns : List Int) (k base c0 : Int) (count : Nat) (hb : 0 < base) (hb2 : base < 2 ^ 64) (hc : count ≤ 1000) (hc0 : cellOf ns k = c0) :
    ∃ j j2 j3, forL (Tg.var 7) (exSs R drB) ((List.range count).map (fun (i : Nat) => PyData.int (i : Int))) (drE ns k base c0 count (([], c0 - big), (none, none))) =
      .nx [some (.fz (.list (ns.map .int))), some (.fz (.int k)), some (.fz (.int base)), some (.fz (.int count)), some (.fz (.int c0)), j, some (.ow ((draws ns k base count).map .int)), j2, j3] := by
  have q := forL_k (t := Tg.var 7) (b := exSs R drB) (E := drE ns k base c0 count) (f := fun (i : Nat) => PyData.int (i : Int)) (step := drS c0 k base) (fun i s => s.1.1.length = i) 1000 (fun i s x hi hs =>
    ⟨⟨_, by simp only [asgT, drE]; rfl, dr_step R ns k base c0 count hb hb2 s x (by omega)⟩, by
      show (drG c0 k base s.1 x).1.length = i + 1
      unfold drG
      split <;> simp [hs]⟩) (List.range count) 0 (([], c0 - big), (none, none)) (by rw [List.length_range]; omega) rfl
  have e : (draws ns k base count) = ((List.range count).foldl (drS c0 k base) (([], c0 - big), (none, none))).1.1 := by
    rw [foldl_fst (drG c0 k base) (fun s x => rfl)]
    unfold draws
    rw [hc0]
  rw [e, q.1]
  exact ⟨_, _, _, rfl⟩
end PD.K55

end

section
set_option Elab.async false
set_option linter.all false
set_option maxRecDepth 100000
namespace PD.K55
open PySem
theorem pw18 : powOk 10 18 = true := by decide
theorem x_e18 (R : RT) (s : Option Cell) (e : Env) : evE R (.op2 .pow (.lit (.int 10)) (.lit (.int 18))) (s :: e) = .ok (.fz (.int big)) (s :: e) := by
  have hb : (10 : Int) ^ Int.toNat 18 = big := by decide +kernel
  simp only [x_var, x_lit, x_op1, x_op2, x_sl, x_tup, x_lst, x_call, x_ite, x_andV, x_orV, x_notV, x_revL, x_comp, x_n, x_c, t_val, t_and, t_or, t_not, t_yes, i_seq, i_r1, i_r2, i_enum, i_zip, i_rev, s_asg, s_aug, s_app, s_setI, s_expr, s_if, s_whl, s_for, s_ret, s_retV, s_retN, s_brk, s_cont, s_pass, s_raise, s_try, q_n, q_c, b_ok, b_exc, b_bad, b_ite, u_ok, u_exc, u_bad, u_ite, o_some, o_none, q_nx, q_rt, q_bk, q_ct, q_exc, q_bad, q_ite, of_some, f_nx, f_rt, f_exc, f_ite, c_ok, c_exc, c_ite, an_t, an_b, or_b, no_b, rv_l, in_i, au_s, li_s, re_s, nx_s, en_l, zi_l, ri_l, tr_nx, tr_rt, tr_bk, tr_ct, tr_exc, tr_ite, rd_c, rd_s, pk_c, pk_f, pk_o, bo_var, bo_lit, op_lit, bo_glob, op_glob, bo_op1, op_op1, bo_op2, op_op2, bo_sl, op_sl, bo_tup, op_tup, bo_lst, op_lst, bo_call, op_call, bo_ite, op_ite, bo_andV, op_andV, bo_orV, op_orV, bo_notV, op_notV, bo_revL, op_revL, bo_comp, op_comp, op_var, op_abs, opR_i, g_var, g_tup, gs_n, gs_c, d_fz, d_ow, a_add, a_sub, a_lt, a_le, a_gt, a_ge, a_max, a_min, a_mul, a_fdiv, a_mod, a_pow, a_addl, a_addt, a_adds, a_mull, a_eqi, a_nei, a_ixl, a_ixt, a1_neg, a1_lenl, a1_lent, a1_lens, a1_listl, a1_listt, a1_tupl, a1_tupt, a1_int, a1_sum, a1_isN, a1_notN, y_int_i, y_bool_i, y_str_i, y_list_i, y_tuple_i, nn_i, y_int_s, y_bool_s, y_str_s, y_list_s, y_tuple_s, nn_s, y_int_b, y_bool_b, y_str_b, y_list_b, y_tuple_b, nn_b, y_int_l, y_bool_l, y_str_l, y_list_l, y_tuple_l, nn_l, y_int_t, y_bool_t, y_str_t, y_list_t, y_tuple_t, nn_t, y_int_n, y_bool_n, y_str_n, y_list_n, y_tuple_n, nn_n, tr_b, tr_i, tr_l, tr_t, a3_l, a3_t, sq_l, sq_t, au_add, au_sub, List.getElem?_cons_zero, List.getElem?_cons_succ, List.set_cons_zero, List.set_cons_succ, Option.map_some, Option.bind_some, if_true, if_false, Bool.false_eq_true, reduceIte, Exs.len, Nat.reduceAdd, Nat.reduceLeDiff, Nat.reduceLT, List.length_cons, List.length_nil, Nat.lt_add_left_iff_pos, Nat.zero_lt_succ, decide_true, decide_false, Bool.not_true, Bool.not_false, List.map_cons, List.map_nil, List.replicate, List.cons_append, List.nil_append, decide_eq_true_eq, Bool.not_eq_true', decide_eq_false_iff_not, Bool.and_eq_true, Bool.or_eq_true, or_self, or_false, false_or, or_true, true_or, and_true, true_and, and_self, not_false_eq_true, not_true_eq_false, ite_self, pw18, hb]
theorem draws_body (R : RT) (ns : List Int) (k base : Int) (count : Nat) (hk : 0 ≤ k) (hb : 0 < base) (hb2 : base < 2 ^ 64) (hc : count ≤ 1000) : fin (exSs R (.c (.asg (.var 4) (.lit (.int 0))) (.c (.ite (.val (.op2 .lt (.var 1) (.op1 .len (.var 0)))) (.c (.asg (.var 4) (.op2 .ix (.var 0) (.var 1))) .n) .n) (.c (.asg (.var 5) (.op2 .sub (.var 4) (.op2 .pow (.lit (.int 10)) (.lit (.int 18))))) (.c (.asg (.var 6) (.lst .n)) (.c (.for_ (.var 7) (.rng1 (.var 3)) drB) (.c (.retV 6) .n)))))) [some (.fz (.list (ns.map .int))), some (.fz (.int k)), some (.fz (.int base)), some (.fz (.int count)), none, none, none, none, none]) = .ok (.ow ((draws ns k base count).map .int)) := by
  obtain ⟨j, j2, j3, e⟩ := dr_loop R ns k base (cellOf ns k) count hb hb2 hc rfl
  simp only [drE, List.map_nil] at e
  have sm := fun e => rngR_nat count e (by omega)
  by_cases h : k < (ns.length : Int)
  · have e0 : cellOf ns k = ns.getD k.toNat 0 := by
      unfold cellOf
      rw [if_pos h]
    have ix := ix_int ns k.toNat (by omega)
    rw [Int.toNat_of_nonneg hk] at ix
    rw [e0] at e
    simp only [h, ix, ↓x_e18, x_var, x_lit, x_op1, x_op2, x_sl, x_tup, x_lst, x_call, x_ite, x_andV, x_orV, x_notV, x_revL, x_comp, x_n, x_c, t_val, t_and, t_or, t_not, t_yes, i_seq, i_r1, i_r2, i_enum, i_zip, i_rev, s_asg, s_aug, s_app, s_setI, s_expr, s_if, s_whl, s_for, s_ret, s_retV, s_retN, s_brk, s_cont, s_pass, s_raise, s_try, q_n, q_c, b_ok, b_exc, b_bad, b_ite, u_ok, u_exc, u_bad, u_ite, o_some, o_none, q_nx, q_rt, q_bk, q_ct, q_exc, q_bad, q_ite, of_some, f_nx, f_rt, f_exc, f_ite, c_ok, c_exc, c_ite, an_t, an_b, or_b, no_b, rv_l, in_i, au_s, li_s, re_s, nx_s, en_l, zi_l, ri_l, tr_nx, tr_rt, tr_bk, tr_ct, tr_exc, tr_ite, rd_c, rd_s, pk_c, pk_f, pk_o, bo_var, bo_lit, op_lit, bo_glob, op_glob, bo_op1, op_op1, bo_op2, op_op2, bo_sl, op_sl, bo_tup, op_tup, bo_lst, op_lst, bo_call, op_call, bo_ite, op_ite, bo_andV, op_andV, bo_orV, op_orV, bo_notV, op_notV, bo_revL, op_revL, bo_comp, op_comp, op_var, op_abs, opR_i, g_var, g_tup, gs_n, gs_c, d_fz, d_ow, a_add, a_sub, a_lt, a_le, a_gt, a_ge, a_max, a_min, a_mul, a_fdiv, a_mod, a_pow, a_addl, a_addt, a_adds, a_mull, a_eqi, a_nei, a_ixl, a_ixt, a1_neg, a1_lenl, a1_lent, a1_lens, a1_listl, a1_listt, a1_tupl, a1_tupt, a1_int, a1_sum, a1_isN, a1_notN, y_int_i, y_bool_i, y_str_i, y_list_i, y_tuple_i, nn_i, y_int_s, y_bool_s, y_str_s, y_list_s, y_tuple_s, nn_s, y_int_b, y_bool_b, y_str_b, y_list_b, y_tuple_b, nn_b, y_int_l, y_bool_l, y_str_l, y_list_l, y_tuple_l, nn_l, y_int_t, y_bool_t, y_str_t, y_list_t, y_tuple_t, nn_t, y_int_n, y_bool_n, y_str_n, y_list_n, y_tuple_n, nn_n, tr_b, tr_i, tr_l, tr_t, a3_l, a3_t, sq_l, sq_t, au_add, au_sub, List.getElem?_cons_zero, List.getElem?_cons_succ, List.set_cons_zero, List.set_cons_succ, Option.map_some, Option.bind_some, if_true, if_false, Bool.false_eq_true, reduceIte, Exs.len, Nat.reduceAdd, Nat.reduceLeDiff, Nat.reduceLT, List.length_cons, List.length_nil, Nat.lt_add_left_iff_pos, Nat.zero_lt_succ, decide_true, decide_false, Bool.not_true, Bool.not_false, List.map_cons, List.map_nil, List.replicate, List.cons_append, List.nil_append, decide_eq_true_eq, Bool.not_eq_true', decide_eq_false_iff_not, Bool.and_eq_true, Bool.or_eq_true, or_self, or_false, false_or, or_true, true_or, and_true, true_and, and_self, not_false_eq_true, not_true_eq_false, ite_self, List.length_map, sm, forR, e]
  · have e0 : cellOf ns k = 0 := by
      unfold cellOf
      rw [if_neg h]
    rw [e0] at e
    simp only [h, ↓x_e18, x_var, x_lit, x_op1, x_op2, x_sl, x_tup, x_lst, x_call, x_ite, x_andV, x_orV, x_notV, x_revL, x_comp, x_n, x_c, t_val, t_and, t_or, t_not, t_yes, i_seq, i_r1, i_r2, i_enum, i_zip, i_rev, s_asg, s_aug, s_app, s_setI, s_expr, s_if, s_whl, s_for, s_ret, s_retV, s_retN, s_brk, s_cont, s_pass, s_raise, s_try, q_n, q_c, b_ok, b_exc, b_bad, b_ite, u_ok, u_exc, u_bad, u_ite, o_some, o_none, q_nx, q_rt, q_bk, q_ct, q_exc, q_bad, q_ite, of_some, f_nx, f_rt, f_exc, f_ite, c_ok, c_exc, c_ite, an_t, an_b, or_b, no_b, rv_l, in_i, au_s, li_s, re_s, nx_s, en_l, zi_l, ri_l, tr_nx, tr_rt, tr_bk, tr_ct, tr_exc, tr_ite, rd_c, rd_s, pk_c, pk_f, pk_o, bo_var, bo_lit, op_lit, bo_glob, op_glob, bo_op1, op_op1, bo_op2, op_op2, bo_sl, op_sl, bo_tup, op_tup, bo_lst, op_lst, bo_call, op_call, bo_ite, op_ite, bo_andV, op_andV, bo_orV, op_orV, bo_notV, op_notV, bo_revL, op_revL, bo_comp, op_comp, op_var, op_abs, opR_i, g_var, g_tup, gs_n, gs_c, d_fz, d_ow, a_add, a_sub, a_lt, a_le, a_gt, a_ge, a_max, a_min, a_mul, a_fdiv, a_mod, a_pow, a_addl, a_addt, a_adds, a_mull, a_eqi, a_nei, a_ixl, a_ixt, a1_neg, a1_lenl, a1_lent, a1_lens, a1_listl, a1_listt, a1_tupl, a1_tupt, a1_int, a1_sum, a1_isN, a1_notN, y_int_i, y_bool_i, y_str_i, y_list_i, y_tuple_i, nn_i, y_int_s, y_bool_s, y_str_s, y_list_s, y_tuple_s, nn_s, y_int_b, y_bool_b, y_str_b, y_list_b, y_tuple_b, nn_b, y_int_l, y_bool_l, y_str_l, y_list_l, y_tuple_l, nn_l, y_int_t, y_bool_t, y_str_t, y_list_t, y_tuple_t, nn_t, y_int_n, y_bool_n, y_str_n, y_list_n, y_tuple_n, nn_n, tr_b, tr_i, tr_l, tr_t, a3_l, a3_t, sq_l, sq_t, au_add, au_sub, List.getElem?_cons_zero, List.getElem?_cons_succ, List.set_cons_zero, List.set_cons_succ, Option.map_some, Option.bind_some, if_true, if_false, Bool.false_eq_true, reduceIte, Exs.len, Nat.reduceAdd, Nat.reduceLeDiff, Nat.reduceLT, List.length_cons, List.length_nil, Nat.lt_add_left_iff_pos, Nat.zero_lt_succ, decide_true, decide_false, Bool.not_true, Bool.not_false, List.map_cons, List.map_nil, List.replicate, List.cons_append, List.nil_append, decide_eq_true_eq, Bool.not_eq_true', decide_eq_false_iff_not, Bool.and_eq_true, Bool.or_eq_true, or_self, or_false, false_or, or_true, true_or, and_true, true_and, and_self, not_false_eq_true, not_true_eq_false, ite_self, List.length_map, sm, forR, e]
theorem r_draws (n : Nat) (ns : List Int) (k base : Int) (count : Nat) (hk : 0 ≤ k) (hb : 0 < base) (hb2 : base < 2 ^ 64) (hc : count ≤ 1000) : runF cfg (n + 1) 8 [il ns, .int k, .int base, .int count] = .ok (.ow ((draws ns k base count).map .int)) := by
  rw [run_at (show cfg.funs[8]? = some f__law_draws from rfl) rfl]
  exact draws_body ⟨runF cfg n, cfg.consts⟩ ns k base count hk hb hb2 hc
end PD.K55

end

section
set_option Elab.async false
set_option linter.all false
set_option maxRecDepth 100000
namespace PD.K55
open PySem
/-! ### _law_same: a value is the same as itself -/
mutual
def dep : D → Nat
  | .list ds => deps ds + 1
  | .tuple ds => deps ds + 1
  | .dict _ => 1000
  | _ => 0
def deps : List D → Nat
  | [] => 0
  | d :: ds => max (dep d) (deps ds)
end
theorem dep_mem {d : D} : ∀ {ds : List D}, d ∈ ds → dep d ≤ deps ds
  | e :: ds, h => by
    rw [deps]
    rcases List.mem_cons.mp h with rfl | h
    · omega
    · have := dep_mem h
      omega
theorem a_eqs (x : Str) : a2 .eq (.str x) (.str x) = some (.fz (.bool true)) := by
  simp only [a2, eqC, dOk, PyData.depth]
  simp [b2, PyData.eqv]
theorem a_eqb (b : Bool) : a2 .eq (.bool b) (.bool b) = some (.fz (.bool true)) := by
  simp only [a2, eqC, dOk, PyData.depth]
  simp [b2, PyData.eqv]
theorem same_loop (R : RT) (ds : List D) (d : D) (hd : d = .list ds ∨ d = .tuple ds) (hl : ds.length ≤ 1000000) (hr : ∀ x ∈ ds, R.call 9 [x, x] = .ok (.fz (.bool true))) :
    ∀ (xs : List Nat) (z : Option Cell), (∀ i ∈ xs, i < ds.length) → ∃ z', forL (.var 2) (exSs R (.c (.ite (.not (.val (.call 9 (.c (.op2 .ix (.var 0) (.var 2)) (.c (.op2 .ix (.var 1) (.var 2)) .n))))) (.c (.ret (.lit (.bool false))) .n) .n) .n)) (xs.map fun (i : Nat) => PyData.int (i : Int)) [some (.fz d), some (.fz d), z] = .nx [some (.fz d), some (.fz d), z']
  | [], z, _ => ⟨z, rfl⟩
  | i :: xs, z, h => by
    obtain ⟨z', e⟩ := same_loop R ds d hd hl hr xs (some (.fz (.int (i : Int)))) fun j hj => h j (List.mem_cons_of_mem _ hj)
    have hi := h i (List.mem_cons_self ..)
    have ix := atI_nat ds i hi
    have r := hr ds[i] (List.getElem_mem hi)
    refine ⟨z', ?_⟩
    rcases hd with rfl | rfl
    · simp only [List.map_cons, forL, x_var, x_lit, x_op1, x_op2, x_sl, x_tup, x_lst, x_call, x_ite, x_andV, x_orV, x_notV, x_revL, x_comp, x_n, x_c, t_val, t_and, t_or, t_not, t_yes, i_seq, i_r1, i_r2, i_enum, i_zip, i_rev, s_asg, s_aug, s_app, s_setI, s_expr, s_if, s_whl, s_for, s_ret, s_retV, s_retN, s_brk, s_cont, s_pass, s_raise, s_try, q_n, q_c, b_ok, b_exc, b_bad, b_ite, u_ok, u_exc, u_bad, u_ite, o_some, o_none, q_nx, q_rt, q_bk, q_ct, q_exc, q_bad, q_ite, of_some, f_nx, f_rt, f_exc, f_ite, c_ok, c_exc, c_ite, an_t, an_b, or_b, no_b, rv_l, in_i, au_s, li_s, re_s, nx_s, en_l, zi_l, ri_l, tr_nx, tr_rt, tr_bk, tr_ct, tr_exc, tr_ite, rd_c, rd_s, pk_c, pk_f, pk_o, bo_var, bo_lit, op_lit, bo_glob, op_glob, bo_op1, op_op1, bo_op2, op_op2, bo_sl, op_sl, bo_tup, op_tup, bo_lst, op_lst, bo_call, op_call, bo_ite, op_ite, bo_andV, op_andV, bo_orV, op_orV, bo_notV, op_notV, bo_revL, op_revL, bo_comp, op_comp, op_var, op_abs, opR_i, g_var, g_tup, gs_n, gs_c, d_fz, d_ow, a_add, a_sub, a_lt, a_le, a_gt, a_ge, a_max, a_min, a_mul, a_fdiv, a_mod, a_pow, a_addl, a_addt, a_adds, a_mull, a_eqi, a_nei, a_ixl, a_ixt, a1_neg, a1_lenl, a1_lent, a1_lens, a1_listl, a1_listt, a1_tupl, a1_tupt, a1_int, a1_sum, a1_isN, a1_notN, y_int_i, y_bool_i, y_str_i, y_list_i, y_tuple_i, nn_i, y_int_s, y_bool_s, y_str_s, y_list_s, y_tuple_s, nn_s, y_int_b, y_bool_b, y_str_b, y_list_b, y_tuple_b, nn_b, y_int_l, y_bool_l, y_str_l, y_list_l, y_tuple_l, nn_l, y_int_t, y_bool_t, y_str_t, y_list_t, y_tuple_t, nn_t, y_int_n, y_bool_n, y_str_n, y_list_n, y_tuple_n, nn_n, tr_b, tr_i, tr_l, tr_t, a3_l, a3_t, sq_l, sq_t, au_add, au_sub, List.getElem?_cons_zero, List.getElem?_cons_succ, List.set_cons_zero, List.set_cons_succ, Option.map_some, Option.bind_some, if_true, if_false, Bool.false_eq_true, reduceIte, Exs.len, Nat.reduceAdd, Nat.reduceLeDiff, Nat.reduceLT, List.length_cons, List.length_nil, Nat.lt_add_left_iff_pos, Nat.zero_lt_succ, decide_true, decide_false, Bool.not_true, Bool.not_false, List.map_cons, List.map_nil, List.replicate, List.cons_append, List.nil_append, decide_eq_true_eq, Bool.not_eq_true', decide_eq_false_iff_not, Bool.and_eq_true, Bool.or_eq_true, or_self, or_false, false_or, or_true, true_or, and_true, true_and, and_self, not_false_eq_true, not_true_eq_false, ite_self, ix, r, e]
    · simp only [List.map_cons, forL, x_var, x_lit, x_op1, x_op2, x_sl, x_tup, x_lst, x_call, x_ite, x_andV, x_orV, x_notV, x_revL, x_comp, x_n, x_c, t_val, t_and, t_or, t_not, t_yes, i_seq, i_r1, i_r2, i_enum, i_zip, i_rev, s_asg, s_aug, s_app, s_setI, s_expr, s_if, s_whl, s_for, s_ret, s_retV, s_retN, s_brk, s_cont, s_pass, s_raise, s_try, q_n, q_c, b_ok, b_exc, b_bad, b_ite, u_ok, u_exc, u_bad, u_ite, o_some, o_none, q_nx, q_rt, q_bk, q_ct, q_exc, q_bad, q_ite, of_some, f_nx, f_rt, f_exc, f_ite, c_ok, c_exc, c_ite, an_t, an_b, or_b, no_b, rv_l, in_i, au_s, li_s, re_s, nx_s, en_l, zi_l, ri_l, tr_nx, tr_rt, tr_bk, tr_ct, tr_exc, tr_ite, rd_c, rd_s, pk_c, pk_f, pk_o, bo_var, bo_lit, op_lit, bo_glob, op_glob, bo_op1, op_op1, bo_op2, op_op2, bo_sl, op_sl, bo_tup, op_tup, bo_lst, op_lst, bo_call, op_call, bo_ite, op_ite, bo_andV, op_andV, bo_orV, op_orV, bo_notV, op_notV, bo_revL, op_revL, bo_comp, op_comp, op_var, op_abs, opR_i, g_var, g_tup, gs_n, gs_c, d_fz, d_ow, a_add, a_sub, a_lt, a_le, a_gt, a_ge, a_max, a_min, a_mul, a_fdiv, a_mod, a_pow, a_addl, a_addt, a_adds, a_mull, a_eqi, a_nei, a_ixl, a_ixt, a1_neg, a1_lenl, a1_lent, a1_lens, a1_listl, a1_listt, a1_tupl, a1_tupt, a1_int, a1_sum, a1_isN, a1_notN, y_int_i, y_bool_i, y_str_i, y_list_i, y_tuple_i, nn_i, y_int_s, y_bool_s, y_str_s, y_list_s, y_tuple_s, nn_s, y_int_b, y_bool_b, y_str_b, y_list_b, y_tuple_b, nn_b, y_int_l, y_bool_l, y_str_l, y_list_l, y_tuple_l, nn_l, y_int_t, y_bool_t, y_str_t, y_list_t, y_tuple_t, nn_t, y_int_n, y_bool_n, y_str_n, y_list_n, y_tuple_n, nn_n, tr_b, tr_i, tr_l, tr_t, a3_l, a3_t, sq_l, sq_t, au_add, au_sub, List.getElem?_cons_zero, List.getElem?_cons_succ, List.set_cons_zero, List.set_cons_succ, Option.map_some, Option.bind_some, if_true, if_false, Bool.false_eq_true, reduceIte, Exs.len, Nat.reduceAdd, Nat.reduceLeDiff, Nat.reduceLT, List.length_cons, List.length_nil, Nat.lt_add_left_iff_pos, Nat.zero_lt_succ, decide_true, decide_false, Bool.not_true, Bool.not_false, List.map_cons, List.map_nil, List.replicate, List.cons_append, List.nil_append, decide_eq_true_eq, Bool.not_eq_true', decide_eq_false_iff_not, Bool.and_eq_true, Bool.or_eq_true, or_self, or_false, false_or, or_true, true_or, and_true, true_and, and_self, not_false_eq_true, not_true_eq_false, ite_self, ix, r, e]
mutual
def okLen : D → Bool
  | .list ds => decide (ds.length ≤ 1000000) && okLens ds
  | .tuple ds => decide (ds.length ≤ 1000000) && okLens ds
  | .dict _ => false
  | _ => true
def okLens : List D → Bool
  | [] => true
  | d :: ds => okLen d && okLens ds
end
theorem okLen_mem {d : D} : ∀ {ds : List D}, okLens ds = true → d ∈ ds → okLen d = true
  | e :: ds, h, hm => by
    rw [okLens, Bool.and_eq_true] at h
    rcases List.mem_cons.mp hm with rfl | hm
    · exact h.1
    · exact okLen_mem h.2 hm
theorem same_body (R : RT) (d : D) (hk : okLen d = true) (hr : ∀ ds, d = .list ds ∨ d = .tuple ds → ∀ x ∈ ds, R.call 9 [x, x] = .ok (.fz (.bool true))) : fin (exSs R f__law_same.body [some (.fz d), some (.fz d), none]) = .ok (.fz (.bool true)) := by
  cases d with
  | none => simp only [f__law_same, x_var, x_lit, x_op1, x_op2, x_sl, x_tup, x_lst, x_call, x_ite, x_andV, x_orV, x_notV, x_revL, x_comp, x_n, x_c, t_val, t_and, t_or, t_not, t_yes, i_seq, i_r1, i_r2, i_enum, i_zip, i_rev, s_asg, s_aug, s_app, s_setI, s_expr, s_if, s_whl, s_for, s_ret, s_retV, s_retN, s_brk, s_cont, s_pass, s_raise, s_try, q_n, q_c, b_ok, b_exc, b_bad, b_ite, u_ok, u_exc, u_bad, u_ite, o_some, o_none, q_nx, q_rt, q_bk, q_ct, q_exc, q_bad, q_ite, of_some, f_nx, f_rt, f_exc, f_ite, c_ok, c_exc, c_ite, an_t, an_b, or_b, no_b, rv_l, in_i, au_s, li_s, re_s, nx_s, en_l, zi_l, ri_l, tr_nx, tr_rt, tr_bk, tr_ct, tr_exc, tr_ite, rd_c, rd_s, pk_c, pk_f, pk_o, bo_var, bo_lit, op_lit, bo_glob, op_glob, bo_op1, op_op1, bo_op2, op_op2, bo_sl, op_sl, bo_tup, op_tup, bo_lst, op_lst, bo_call, op_call, bo_ite, op_ite, bo_andV, op_andV, bo_orV, op_orV, bo_notV, op_notV, bo_revL, op_revL, bo_comp, op_comp, op_var, op_abs, opR_i, g_var, g_tup, gs_n, gs_c, d_fz, d_ow, a_add, a_sub, a_lt, a_le, a_gt, a_ge, a_max, a_min, a_mul, a_fdiv, a_mod, a_pow, a_addl, a_addt, a_adds, a_mull, a_eqi, a_nei, a_ixl, a_ixt, a1_neg, a1_lenl, a1_lent, a1_lens, a1_listl, a1_listt, a1_tupl, a1_tupt, a1_int, a1_sum, a1_isN, a1_notN, y_int_i, y_bool_i, y_str_i, y_list_i, y_tuple_i, nn_i, y_int_s, y_bool_s, y_str_s, y_list_s, y_tuple_s, nn_s, y_int_b, y_bool_b, y_str_b, y_list_b, y_tuple_b, nn_b, y_int_l, y_bool_l, y_str_l, y_list_l, y_tuple_l, nn_l, y_int_t, y_bool_t, y_str_t, y_list_t, y_tuple_t, nn_t, y_int_n, y_bool_n, y_str_n, y_list_n, y_tuple_n, nn_n, tr_b, tr_i, tr_l, tr_t, a3_l, a3_t, sq_l, sq_t, au_add, au_sub, List.getElem?_cons_zero, List.getElem?_cons_succ, List.set_cons_zero, List.set_cons_succ, Option.map_some, Option.bind_some, if_true, if_false, Bool.false_eq_true, reduceIte, Exs.len, Nat.reduceAdd, Nat.reduceLeDiff, Nat.reduceLT, List.length_cons, List.length_nil, Nat.lt_add_left_iff_pos, Nat.zero_lt_succ, decide_true, decide_false, Bool.not_true, Bool.not_false, List.map_cons, List.map_nil, List.replicate, List.cons_append, List.nil_append, decide_eq_true_eq, Bool.not_eq_true', decide_eq_false_iff_not, Bool.and_eq_true, Bool.or_eq_true, or_self, or_false, false_or, or_true, true_or, and_true, true_and, and_self, not_false_eq_true, not_true_eq_false, ite_self]
  | bool b => simp only [f__law_same, x_var, x_lit, x_op1, x_op2, x_sl, x_tup, x_lst, x_call, x_ite, x_andV, x_orV, x_notV, x_revL, x_comp, x_n, x_c, t_val, t_and, t_or, t_not, t_yes, i_seq, i_r1, i_r2, i_enum, i_zip, i_rev, s_asg, s_aug, s_app, s_setI, s_expr, s_if, s_whl, s_for, s_ret, s_retV, s_retN, s_brk, s_cont, s_pass, s_raise, s_try, q_n, q_c, b_ok, b_exc, b_bad, b_ite, u_ok, u_exc, u_bad, u_ite, o_some, o_none, q_nx, q_rt, q_bk, q_ct, q_exc, q_bad, q_ite, of_some, f_nx, f_rt, f_exc, f_ite, c_ok, c_exc, c_ite, an_t, an_b, or_b, no_b, rv_l, in_i, au_s, li_s, re_s, nx_s, en_l, zi_l, ri_l, tr_nx, tr_rt, tr_bk, tr_ct, tr_exc, tr_ite, rd_c, rd_s, pk_c, pk_f, pk_o, bo_var, bo_lit, op_lit, bo_glob, op_glob, bo_op1, op_op1, bo_op2, op_op2, bo_sl, op_sl, bo_tup, op_tup, bo_lst, op_lst, bo_call, op_call, bo_ite, op_ite, bo_andV, op_andV, bo_orV, op_orV, bo_notV, op_notV, bo_revL, op_revL, bo_comp, op_comp, op_var, op_abs, opR_i, g_var, g_tup, gs_n, gs_c, d_fz, d_ow, a_add, a_sub, a_lt, a_le, a_gt, a_ge, a_max, a_min, a_mul, a_fdiv, a_mod, a_pow, a_addl, a_addt, a_adds, a_mull, a_eqi, a_nei, a_ixl, a_ixt, a1_neg, a1_lenl, a1_lent, a1_lens, a1_listl, a1_listt, a1_tupl, a1_tupt, a1_int, a1_sum, a1_isN, a1_notN, y_int_i, y_bool_i, y_str_i, y_list_i, y_tuple_i, nn_i, y_int_s, y_bool_s, y_str_s, y_list_s, y_tuple_s, nn_s, y_int_b, y_bool_b, y_str_b, y_list_b, y_tuple_b, nn_b, y_int_l, y_bool_l, y_str_l, y_list_l, y_tuple_l, nn_l, y_int_t, y_bool_t, y_str_t, y_list_t, y_tuple_t, nn_t, y_int_n, y_bool_n, y_str_n, y_list_n, y_tuple_n, nn_n, tr_b, tr_i, tr_l, tr_t, a3_l, a3_t, sq_l, sq_t, au_add, au_sub, List.getElem?_cons_zero, List.getElem?_cons_succ, List.set_cons_zero, List.set_cons_succ, Option.map_some, Option.bind_some, if_true, if_false, Bool.false_eq_true, reduceIte, Exs.len, Nat.reduceAdd, Nat.reduceLeDiff, Nat.reduceLT, List.length_cons, List.length_nil, Nat.lt_add_left_iff_pos, Nat.zero_lt_succ, decide_true, decide_false, Bool.not_true, Bool.not_false, List.map_cons, List.map_nil, List.replicate, List.cons_append, List.nil_append, decide_eq_true_eq, Bool.not_eq_true', decide_eq_false_iff_not, Bool.and_eq_true, Bool.or_eq_true, or_self, or_false, false_or, or_true, true_or, and_true, true_and, and_self, not_false_eq_true, not_true_eq_false, ite_self, a_eqb]
  | int i => simp only [f__law_same, x_var, x_lit, x_op1, x_op2, x_sl, x_tup, x_lst, x_call, x_ite, x_andV, x_orV, x_notV, x_revL, x_comp, x_n, x_c, t_val, t_and, t_or, t_not, t_yes, i_seq, i_r1, i_r2, i_enum, i_zip, i_rev, s_asg, s_aug, s_app, s_setI, s_expr, s_if, s_whl, s_for, s_ret, s_retV, s_retN, s_brk, s_cont, s_pass, s_raise, s_try, q_n, q_c, b_ok, b_exc, b_bad, b_ite, u_ok, u_exc, u_bad, u_ite, o_some, o_none, q_nx, q_rt, q_bk, q_ct, q_exc, q_bad, q_ite, of_some, f_nx, f_rt, f_exc, f_ite, c_ok, c_exc, c_ite, an_t, an_b, or_b, no_b, rv_l, in_i, au_s, li_s, re_s, nx_s, en_l, zi_l, ri_l, tr_nx, tr_rt, tr_bk, tr_ct, tr_exc, tr_ite, rd_c, rd_s, pk_c, pk_f, pk_o, bo_var, bo_lit, op_lit, bo_glob, op_glob, bo_op1, op_op1, bo_op2, op_op2, bo_sl, op_sl, bo_tup, op_tup, bo_lst, op_lst, bo_call, op_call, bo_ite, op_ite, bo_andV, op_andV, bo_orV, op_orV, bo_notV, op_notV, bo_revL, op_revL, bo_comp, op_comp, op_var, op_abs, opR_i, g_var, g_tup, gs_n, gs_c, d_fz, d_ow, a_add, a_sub, a_lt, a_le, a_gt, a_ge, a_max, a_min, a_mul, a_fdiv, a_mod, a_pow, a_addl, a_addt, a_adds, a_mull, a_eqi, a_nei, a_ixl, a_ixt, a1_neg, a1_lenl, a1_lent, a1_lens, a1_listl, a1_listt, a1_tupl, a1_tupt, a1_int, a1_sum, a1_isN, a1_notN, y_int_i, y_bool_i, y_str_i, y_list_i, y_tuple_i, nn_i, y_int_s, y_bool_s, y_str_s, y_list_s, y_tuple_s, nn_s, y_int_b, y_bool_b, y_str_b, y_list_b, y_tuple_b, nn_b, y_int_l, y_bool_l, y_str_l, y_list_l, y_tuple_l, nn_l, y_int_t, y_bool_t, y_str_t, y_list_t, y_tuple_t, nn_t, y_int_n, y_bool_n, y_str_n, y_list_n, y_tuple_n, nn_n, tr_b, tr_i, tr_l, tr_t, a3_l, a3_t, sq_l, sq_t, au_add, au_sub, List.getElem?_cons_zero, List.getElem?_cons_succ, List.set_cons_zero, List.set_cons_succ, Option.map_some, Option.bind_some, if_true, if_false, Bool.false_eq_true, reduceIte, Exs.len, Nat.reduceAdd, Nat.reduceLeDiff, Nat.reduceLT, List.length_cons, List.length_nil, Nat.lt_add_left_iff_pos, Nat.zero_lt_succ, decide_true, decide_false, Bool.not_true, Bool.not_false, List.map_cons, List.map_nil, List.replicate, List.cons_append, List.nil_append, decide_eq_true_eq, Bool.not_eq_true', decide_eq_false_iff_not, Bool.and_eq_true, Bool.or_eq_true, or_self, or_false, false_or, or_true, true_or, and_true, true_and, and_self, not_false_eq_true, not_true_eq_false, ite_self]
  | str x => simp only [f__law_same, x_var, x_lit, x_op1, x_op2, x_sl, x_tup, x_lst, x_call, x_ite, x_andV, x_orV, x_notV, x_revL, x_comp, x_n, x_c, t_val, t_and, t_or, t_not, t_yes, i_seq, i_r1, i_r2, i_enum, i_zip, i_rev, s_asg, s_aug, s_app, s_setI, s_expr, s_if, s_whl, s_for, s_ret, s_retV, s_retN, s_brk, s_cont, s_pass, s_raise, s_try, q_n, q_c, b_ok, b_exc, b_bad, b_ite, u_ok, u_exc, u_bad, u_ite, o_some, o_none, q_nx, q_rt, q_bk, q_ct, q_exc, q_bad, q_ite, of_some, f_nx, f_rt, f_exc, f_ite, c_ok, c_exc, c_ite, an_t, an_b, or_b, no_b, rv_l, in_i, au_s, li_s, re_s, nx_s, en_l, zi_l, ri_l, tr_nx, tr_rt, tr_bk, tr_ct, tr_exc, tr_ite, rd_c, rd_s, pk_c, pk_f, pk_o, bo_var, bo_lit, op_lit, bo_glob, op_glob, bo_op1, op_op1, bo_op2, op_op2, bo_sl, op_sl, bo_tup, op_tup, bo_lst, op_lst, bo_call, op_call, bo_ite, op_ite, bo_andV, op_andV, bo_orV, op_orV, bo_notV, op_notV, bo_revL, op_revL, bo_comp, op_comp, op_var, op_abs, opR_i, g_var, g_tup, gs_n, gs_c, d_fz, d_ow, a_add, a_sub, a_lt, a_le, a_gt, a_ge, a_max, a_min, a_mul, a_fdiv, a_mod, a_pow, a_addl, a_addt, a_adds, a_mull, a_eqi, a_nei, a_ixl, a_ixt, a1_neg, a1_lenl, a1_lent, a1_lens, a1_listl, a1_listt, a1_tupl, a1_tupt, a1_int, a1_sum, a1_isN, a1_notN, y_int_i, y_bool_i, y_str_i, y_list_i, y_tuple_i, nn_i, y_int_s, y_bool_s, y_str_s, y_list_s, y_tuple_s, nn_s, y_int_b, y_bool_b, y_str_b, y_list_b, y_tuple_b, nn_b, y_int_l, y_bool_l, y_str_l, y_list_l, y_tuple_l, nn_l, y_int_t, y_bool_t, y_str_t, y_list_t, y_tuple_t, nn_t, y_int_n, y_bool_n, y_str_n, y_list_n, y_tuple_n, nn_n, tr_b, tr_i, tr_l, tr_t, a3_l, a3_t, sq_l, sq_t, au_add, au_sub, List.getElem?_cons_zero, List.getElem?_cons_succ, List.set_cons_zero, List.set_cons_succ, Option.map_some, Option.bind_some, if_true, if_false, Bool.false_eq_true, reduceIte, Exs.len, Nat.reduceAdd, Nat.reduceLeDiff, Nat.reduceLT, List.length_cons, List.length_nil, Nat.lt_add_left_iff_pos, Nat.zero_lt_succ, decide_true, decide_false, Bool.not_true, Bool.not_false, List.map_cons, List.map_nil, List.replicate, List.cons_append, List.nil_append, decide_eq_true_eq, Bool.not_eq_true', decide_eq_false_iff_not, Bool.and_eq_true, Bool.or_eq_true, or_self, or_false, false_or, or_true, true_or, and_true, true_and, and_self, not_false_eq_true, not_true_eq_false, ite_self, a_eqs]
  | dict x => simp [okLen] at hk
  | list ds =>
    rw [okLen, Bool.and_eq_true, decide_eq_true_eq] at hk
    obtain ⟨z', e⟩ := same_loop R ds (.list ds) (.inl rfl) hk.1 (hr ds (.inl rfl)) (List.range ds.length) none (fun i hi => List.mem_range.mp hi)
    have sm := fun e => rngR_nat ds.length e hk.1
    simp only [f__law_same, x_var, x_lit, x_op1, x_op2, x_sl, x_tup, x_lst, x_call, x_ite, x_andV, x_orV, x_notV, x_revL, x_comp, x_n, x_c, t_val, t_and, t_or, t_not, t_yes, i_seq, i_r1, i_r2, i_enum, i_zip, i_rev, s_asg, s_aug, s_app, s_setI, s_expr, s_if, s_whl, s_for, s_ret, s_retV, s_retN, s_brk, s_cont, s_pass, s_raise, s_try, q_n, q_c, b_ok, b_exc, b_bad, b_ite, u_ok, u_exc, u_bad, u_ite, o_some, o_none, q_nx, q_rt, q_bk, q_ct, q_exc, q_bad, q_ite, of_some, f_nx, f_rt, f_exc, f_ite, c_ok, c_exc, c_ite, an_t, an_b, or_b, no_b, rv_l, in_i, au_s, li_s, re_s, nx_s, en_l, zi_l, ri_l, tr_nx, tr_rt, tr_bk, tr_ct, tr_exc, tr_ite, rd_c, rd_s, pk_c, pk_f, pk_o, bo_var, bo_lit, op_lit, bo_glob, op_glob, bo_op1, op_op1, bo_op2, op_op2, bo_sl, op_sl, bo_tup, op_tup, bo_lst, op_lst, bo_call, op_call, bo_ite, op_ite, bo_andV, op_andV, bo_orV, op_orV, bo_notV, op_notV, bo_revL, op_revL, bo_comp, op_comp, op_var, op_abs, opR_i, g_var, g_tup, gs_n, gs_c, d_fz, d_ow, a_add, a_sub, a_lt, a_le, a_gt, a_ge, a_max, a_min, a_mul, a_fdiv, a_mod, a_pow, a_addl, a_addt, a_adds, a_mull, a_eqi, a_nei, a_ixl, a_ixt, a1_neg, a1_lenl, a1_lent, a1_lens, a1_listl, a1_listt, a1_tupl, a1_tupt, a1_int, a1_sum, a1_isN, a1_notN, y_int_i, y_bool_i, y_str_i, y_list_i, y_tuple_i, nn_i, y_int_s, y_bool_s, y_str_s, y_list_s, y_tuple_s, nn_s, y_int_b, y_bool_b, y_str_b, y_list_b, y_tuple_b, nn_b, y_int_l, y_bool_l, y_str_l, y_list_l, y_tuple_l, nn_l, y_int_t, y_bool_t, y_str_t, y_list_t, y_tuple_t, nn_t, y_int_n, y_bool_n, y_str_n, y_list_n, y_tuple_n, nn_n, tr_b, tr_i, tr_l, tr_t, a3_l, a3_t, sq_l, sq_t, au_add, au_sub, List.getElem?_cons_zero, List.getElem?_cons_succ, List.set_cons_zero, List.set_cons_succ, Option.map_some, Option.bind_some, if_true, if_false, Bool.false_eq_true, reduceIte, Exs.len, Nat.reduceAdd, Nat.reduceLeDiff, Nat.reduceLT, List.length_cons, List.length_nil, Nat.lt_add_left_iff_pos, Nat.zero_lt_succ, decide_true, decide_false, Bool.not_true, Bool.not_false, List.map_cons, List.map_nil, List.replicate, List.cons_append, List.nil_append, decide_eq_true_eq, Bool.not_eq_true', decide_eq_false_iff_not, Bool.and_eq_true, Bool.or_eq_true, or_self, or_false, false_or, or_true, true_or, and_true, true_and, and_self, not_false_eq_true, not_true_eq_false, ite_self, sm, forR, e]
  | tuple ds =>
    rw [okLen, Bool.and_eq_true, decide_eq_true_eq] at hk
    obtain ⟨z', e⟩ := same_loop R ds (.tuple ds) (.inr rfl) hk.1 (hr ds (.inr rfl)) (List.range ds.length) none (fun i hi => List.mem_range.mp hi)
    have sm := fun e => rngR_nat ds.length e hk.1
    simp only [f__law_same, x_var, x_lit, x_op1, x_op2, x_sl, x_tup, x_lst, x_call, x_ite, x_andV, x_orV, x_notV, x_revL, x_comp, x_n, x_c, t_val, t_and, t_or, t_not, t_yes, i_seq, i_r1, i_r2, i_enum, i_zip, i_rev, s_asg, s_aug, s_app, s_setI, s_expr, s_if, s_whl, s_for, s_ret, s_retV, s_retN, s_brk, s_cont, s_pass, s_raise, s_try, q_n, q_c, b_ok, b_exc, b_bad, b_ite, u_ok, u_exc, u_bad, u_ite, o_some, o_none, q_nx, q_rt, q_bk, q_ct, q_exc, q_bad, q_ite, of_some, f_nx, f_rt, f_exc, f_ite, c_ok, c_exc, c_ite, an_t, an_b, or_b, no_b, rv_l, in_i, au_s, li_s, re_s, nx_s, en_l, zi_l, ri_l, tr_nx, tr_rt, tr_bk, tr_ct, tr_exc, tr_ite, rd_c, rd_s, pk_c, pk_f, pk_o, bo_var, bo_lit, op_lit, bo_glob, op_glob, bo_op1, op_op1, bo_op2, op_op2, bo_sl, op_sl, bo_tup, op_tup, bo_lst, op_lst, bo_call, op_call, bo_ite, op_ite, bo_andV, op_andV, bo_orV, op_orV, bo_notV, op_notV, bo_revL, op_revL, bo_comp, op_comp, op_var, op_abs, opR_i, g_var, g_tup, gs_n, gs_c, d_fz, d_ow, a_add, a_sub, a_lt, a_le, a_gt, a_ge, a_max, a_min, a_mul, a_fdiv, a_mod, a_pow, a_addl, a_addt, a_adds, a_mull, a_eqi, a_nei, a_ixl, a_ixt, a1_neg, a1_lenl, a1_lent, a1_lens, a1_listl, a1_listt, a1_tupl, a1_tupt, a1_int, a1_sum, a1_isN, a1_notN, y_int_i, y_bool_i, y_str_i, y_list_i, y_tuple_i, nn_i, y_int_s, y_bool_s, y_str_s, y_list_s, y_tuple_s, nn_s, y_int_b, y_bool_b, y_str_b, y_list_b, y_tuple_b, nn_b, y_int_l, y_bool_l, y_str_l, y_list_l, y_tuple_l, nn_l, y_int_t, y_bool_t, y_str_t, y_list_t, y_tuple_t, nn_t, y_int_n, y_bool_n, y_str_n, y_list_n, y_tuple_n, nn_n, tr_b, tr_i, tr_l, tr_t, a3_l, a3_t, sq_l, sq_t, au_add, au_sub, List.getElem?_cons_zero, List.getElem?_cons_succ, List.set_cons_zero, List.set_cons_succ, Option.map_some, Option.bind_some, if_true, if_false, Bool.false_eq_true, reduceIte, Exs.len, Nat.reduceAdd, Nat.reduceLeDiff, Nat.reduceLT, List.length_cons, List.length_nil, Nat.lt_add_left_iff_pos, Nat.zero_lt_succ, decide_true, decide_false, Bool.not_true, Bool.not_false, List.map_cons, List.map_nil, List.replicate, List.cons_append, List.nil_append, decide_eq_true_eq, Bool.not_eq_true', decide_eq_false_iff_not, Bool.and_eq_true, Bool.or_eq_true, or_self, or_false, false_or, or_true, true_or, and_true, true_and, and_self, not_false_eq_true, not_true_eq_false, ite_self, sm, forR, e]
theorem r_same : ∀ (m n : Nat) (d : D), dep d ≤ m → okLen d = true → runF cfg (n + m + 1) 9 [d, d] = .ok (.fz (.bool true))
  | m, n, d, hd, hk => by
    rw [run_at (show cfg.funs[9]? = some f__law_same from rfl) rfl]
    refine same_body ⟨runF cfg (n + m), cfg.consts⟩ d hk fun ds e x hx => ?_
    have hdx : dep x + 1 ≤ dep d ∧ okLen x = true := by
      rcases e with rfl | rfl
      · rw [okLen, Bool.and_eq_true] at hk
        exact ⟨by rw [dep]; have := dep_mem hx; omega, okLen_mem hk.2 hx⟩
      · rw [okLen, Bool.and_eq_true] at hk
        exact ⟨by rw [dep]; have := dep_mem hx; omega, okLen_mem hk.2 hx⟩
    cases m with
    | zero => omega
    | succ m => exact r_same m n x (by omega) hdx.2
end PD.K55

end

section
set_option Elab.async false
set_option linter.all false
set_option maxRecDepth 100000
namespace PD.K55
open PySem
def szB : ISs := match f__law_sizes.body with
  | .c _ (.c _ (.c _ (.c _ (.c _ (.c (.for_ _ _ b) _))))) => b
  | _ => .n
def szS (ns : List Int) (bound : Int) (s : List Int × Option Cell) (k : Nat) : List Int × Option Cell := (s.1 ++ [1 + (draws ns (2 + (k : Int) / 20) bound 20).getD ((k : Int) % 20).toNat 0], some (.fz (.int (k : Int))))
def szE (ns : List Int) (room : Int) (ps : List Int) (count bound : Int) (s : List Int × Option Cell) : Env := [some (.fz (.list (ns.map .int))), some (.fz (.int room)), some (.fz (.list (ps.map .int))), some (.fz (.int count)), some (.fz (.int bound)), some (.ow (s.1.map .int)), s.2]
theorem sz_step (n : Nat) (ns : List Int) (room : Int) (ps : List Int) (count bound : Int) (hb : 0 < bound) (hb2 : bound ≤ 1368) (s : List Int × Option Cell) (k : Nat) (hs : s.1.length < 1000) :
    exSs ⟨runF cfg (n + 1), cfg.consts⟩ szB ((szE ns room ps count bound s).set 6 (some (.fz (.int (k : Int))))) = .nx (szE ns room ps count bound (szS ns bound s k)) := by
  have hsz : (s.1.map PyData.int).length < sizeLine := by
    rw [List.length_map]
    exact Nat.lt_trans hs (by decide)
  have d1 := div_small 20 (by omega) (by omega)
  have r := r_draws n ns (2 + (k : Int) / 20) bound 20 (by omega) hb (by omega) (by omega)
  have dl := (draws_ok ns (2 + (k : Int) / 20) bound hb 20).1
  have ix := ix_int (draws ns (2 + (k : Int) / 20) bound 20) ((k : Int) % 20).toNat (by rw [dl]; omega)
  rw [Int.toNat_of_nonneg (by omega)] at ix
  simp only [il] at r
  have e20 : ((20 : Nat) : Int) = 20 := rfl
  rw [e20] at r
  unfold szE szS
  simp only [szB, f__law_sizes]
  simp only [x_var, x_lit, x_op1, x_op2, x_sl, x_tup, x_lst, x_call, x_ite, x_andV, x_orV, x_notV, x_revL, x_comp, x_n, x_c, t_val, t_and, t_or, t_not, t_yes, i_seq, i_r1, i_r2, i_enum, i_zip, i_rev, s_asg, s_aug, s_app, s_setI, s_expr, s_if, s_whl, s_for, s_ret, s_retV, s_retN, s_brk, s_cont, s_pass, s_raise, s_try, q_n, q_c, b_ok, b_exc, b_bad, b_ite, u_ok, u_exc, u_bad, u_ite, o_some, o_none, q_nx, q_rt, q_bk, q_ct, q_exc, q_bad, q_ite, of_some, f_nx, f_rt, f_exc, f_ite, c_ok, c_exc, c_ite, an_t, an_b, or_b, no_b, rv_l, in_i, au_s, li_s, re_s, nx_s, en_l, zi_l, ri_l, tr_nx, tr_rt, tr_bk, tr_ct, tr_exc, tr_ite, rd_c, rd_s, pk_c, pk_f, pk_o, bo_var, bo_lit, op_lit, bo_glob, op_glob, bo_op1, op_op1, bo_op2, op_op2, bo_sl, op_sl, bo_tup, op_tup, bo_lst, op_lst, bo_call, op_call, bo_ite, op_ite, bo_andV, op_andV, bo_orV, op_orV, bo_notV, op_notV, bo_revL, op_revL, bo_comp, op_comp, op_var, op_abs, opR_i, g_var, g_tup, gs_n, gs_c, d_fz, d_ow, a_add, a_sub, a_lt, a_le, a_gt, a_ge, a_max, a_min, a_mul, a_fdiv, a_mod, a_pow, a_addl, a_addt, a_adds, a_mull, a_eqi, a_nei, a_ixl, a_ixt, a1_neg, a1_lenl, a1_lent, a1_lens, a1_listl, a1_listt, a1_tupl, a1_tupt, a1_int, a1_sum, a1_isN, a1_notN, y_int_i, y_bool_i, y_str_i, y_list_i, y_tuple_i, nn_i, y_int_s, y_bool_s, y_str_s, y_list_s, y_tuple_s, nn_s, y_int_b, y_bool_b, y_str_b, y_list_b, y_tuple_b, nn_b, y_int_l, y_bool_l, y_str_l, y_list_l, y_tuple_l, nn_l, y_int_t, y_bool_t, y_str_t, y_list_t, y_tuple_t, nn_t, y_int_n, y_bool_n, y_str_n, y_list_n, y_tuple_n, nn_n, tr_b, tr_i, tr_l, tr_t, a3_l, a3_t, sq_l, sq_t, au_add, au_sub, List.getElem?_cons_zero, List.getElem?_cons_succ, List.set_cons_zero, List.set_cons_succ, Option.map_some, Option.bind_some, if_true, if_false, Bool.false_eq_true, reduceIte, Exs.len, Nat.reduceAdd, Nat.reduceLeDiff, Nat.reduceLT, List.length_cons, List.length_nil, Nat.lt_add_left_iff_pos, Nat.zero_lt_succ, decide_true, decide_false, Bool.not_true, Bool.not_false, List.map_cons, List.map_nil, List.replicate, List.cons_append, List.nil_append, decide_eq_true_eq, Bool.not_eq_true', decide_eq_false_iff_not, Bool.and_eq_true, Bool.or_eq_true, or_self, or_false, false_or, or_true, true_or, and_true, true_and, and_self, not_false_eq_true, not_true_eq_false, ite_self, Int.reduceLT, d1, r, ix, hsz]
  simp only [List.map_append, List.map_cons, List.map_nil]
theorem sz_loop (n : Nat) (ns : List Int) (room : Int) (ps : List Int) (count : Nat) (ci bound : Int) (hc : count ≤ 200) (hb : 0 < bound) (hb2 : bound ≤ 1368) :
    ∃ (szs : List Int) (z : Option Cell), forL (.var 6) (exSs ⟨runF cfg (n + 1), cfg.consts⟩ szB) ((List.range count).map fun (i : Nat) => PyData.int (i : Int)) (szE ns room ps ci bound ([], none)) = .nx (szE ns room ps ci bound (szs, z)) ∧ szs.length = count ∧ ∀ x ∈ szs, 1 ≤ x ∧ x ≤ bound := by
  have q := forL_k (t := Tg.var 6) (b := exSs ⟨runF cfg (n + 1), cfg.consts⟩ szB) (E := szE ns room ps ci bound) (f := fun (i : Nat) => PyData.int (i : Int)) (step := szS ns bound) (fun i s => s.1.length = i ∧ ∀ x ∈ s.1, 1 ≤ x ∧ x ≤ bound) 200 (fun i s x hi hs =>
    ⟨⟨_, by simp only [asgT, szE]; rfl, sz_step n ns room ps ci bound hb hb2 s x (by omega)⟩, by
      have dr := draws_ok ns (2 + (x : Int) / 20) bound hb 20
      refine ⟨by show (s.1 ++ [_]).length = _; rw [List.length_append, hs.1]; rfl, fun y hy => ?_⟩
      rcases List.mem_append.mp hy with hy | hy
      · exact hs.2 y hy
      · rw [List.mem_singleton.mp hy]
        have hlt : ((x : Int) % 20).toNat < (draws ns (2 + (x : Int) / 20) bound 20).length := by rw [dr.1]; omega
        have := dr.2 _ (List.getElem_mem hlt)
        have e : (draws ns (2 + (x : Int) / 20) bound 20).getD ((x : Int) % 20).toNat 0 = (draws ns (2 + (x : Int) / 20) bound 20)[((x : Int) % 20).toNat] := by simp [List.getD, hlt]
        rw [e]
        omega⟩) (List.range count) 0 ([], none) (by rw [List.length_range]; omega) ⟨rfl, fun x hx => by cases hx⟩
  obtain ⟨q1, q2, q3⟩ := q
  exact ⟨_, _, q1, by rw [q2]; simp, q3⟩
theorem r_sizes (n : Nat) (ns : List Int) (room : Int) (ps : List Int) (hr : 1 ≤ room) (hr2 : room ≤ 1368) (hp : ps.length = 10) (hps : ∀ x ∈ ps, 0 ≤ x ∧ x < 60) :
    ∃ szs : List Int, runF cfg (n + 2) 10 [il ns, .int room, il ps] = .ok (.ow (szs.map .int)) ∧ szs.length ≤ 200 ∧ ∀ x ∈ szs, 1 ≤ x ∧ x ≤ room := by
  have gp : ∀ i, i < 10 → 0 ≤ ps.getD i 0 ∧ ps.getD i 0 < 60 := fun i hi => by
    have hi' : i < ps.length := by omega
    have := hps _ (List.getElem_mem hi')
    simpa [List.getD, hi'] using this
  have i1 : L2.atI (ps.map PyData.int) 1 = some (.int (ps.getD 1 0)) := ix_int ps 1 (by omega)
  have i2 : L2.atI (ps.map PyData.int) 2 = some (.int (ps.getD 2 0)) := ix_int ps 2 (by omega)
  have i3 : L2.atI (ps.map PyData.int) 3 = some (.int (ps.getD 3 0)) := ix_int ps 3 (by omega)
  have i4 : L2.atI (ps.map PyData.int) 4 = some (.int (ps.getD 4 0)) := ix_int ps 4 (by omega)
  have g2 := gp 2 (by omega)
  have g4 := gp 4 (by omega)
  rw [run_at (show cfg.funs[10]? = some f__law_sizes from rfl) rfl]
  have main : ∀ (ci bound : Int) (count : Nat), ci = (count : Int) → count ≤ 200 → 0 < bound → bound ≤ room → ∃ (szs : List Int) (z : Option Cell), (forR ⟨runF cfg (n + 1), cfg.consts⟩ (.var 6) szB ((List.range count).map fun (i : Nat) => PyData.int (i : Int)) [some (.fz (.list (ns.map .int))), some (.fz (.int room)), some (.fz (.list (ps.map .int))), some (.fz (.int ci)), some (.fz (.int bound)), some (.ow []), none]) =
      .nx (szE ns room ps ci bound (szs, z)) ∧ rngR (.int ci) [some (.fz (.list (ns.map .int))), some (.fz (.int room)), some (.fz (.list (ps.map .int))), some (.fz (.int ci)), some (.fz (.int bound)), some (.ow []), none] = .ok ((List.range count).map fun (i : Nat) => PyData.int (i : Int)) [some (.fz (.list (ns.map .int))), some (.fz (.int room)), some (.fz (.list (ps.map .int))), some (.fz (.int ci)), some (.fz (.int bound)), some (.ow []), none] ∧ szs.length ≤ 200 ∧ ∀ x ∈ szs, 1 ≤ x ∧ x ≤ room := by
    intro ci bound count h1 h2 h3 h4
    obtain ⟨szs, z, e, l, b⟩ := sz_loop n ns room ps count ci bound h2 h3 (by omega)
    exact ⟨szs, z, e, rngR_lit count ci _ h1 (by omega), by omega, fun x hx => by have := b x hx; omega⟩
  simp only [szB, f__law_sizes] at main
  have hci : ∃ (ci : Int) (count : Nat), ci = (count : Int) ∧ count ≤ 200 ∧ ci = (if ps.getD 1 0 % 12 = 5 then 200 else ps.getD 2 0 % 40) := by
    by_cases h : ps.getD 1 0 % 12 = 5
    · exact ⟨200, 200, rfl, Nat.le_refl _, by rw [if_pos h]⟩
    · exact ⟨ps.getD 2 0 % 40, (ps.getD 2 0 % 40).toNat, by omega, by omega, by rw [if_neg h]⟩
  obtain ⟨ci, count, c1, c2, c3⟩ := hci
  have hbd : ∃ bound : Int, 0 < bound ∧ bound ≤ room ∧ bound = (if ps.getD 3 0 % 2 = 1 then 1 + ps.getD 4 0 % room else room) := by
    by_cases h : ps.getD 3 0 % 2 = 1
    · have := Int.emod_nonneg (ps.getD 4 0) (show room ≠ 0 by omega)
      have := Int.emod_lt_of_pos (ps.getD 4 0) (show 0 < room by omega)
      exact ⟨1 + ps.getD 4 0 % room, by omega, by omega, by rw [if_pos h]⟩
    · exact ⟨room, by omega, by omega, by rw [if_neg h]⟩
  obtain ⟨bound, b1, b2, b3⟩ := hbd
  obtain ⟨szs, z, e, er, l, b⟩ := main ci bound count c1 c2 b1 b2
  refine ⟨szs, ?_, l, b⟩
  have hr0 : 0 < room := by omega
  by_cases h1 : ps.getD 1 0 % 12 = 5
  · rw [if_pos h1] at c3
    by_cases h3 : ps.getD 3 0 % 2 = 1
    · rw [if_pos h3] at b3
      subst c3 b3
      simp only [f__law_sizes, il, x_var, x_lit, x_op1, x_op2, x_sl, x_tup, x_lst, x_call, x_ite, x_andV, x_orV, x_notV, x_revL, x_comp, x_n, x_c, t_val, t_and, t_or, t_not, t_yes, i_seq, i_r1, i_r2, i_enum, i_zip, i_rev, s_asg, s_aug, s_app, s_setI, s_expr, s_if, s_whl, s_for, s_ret, s_retV, s_retN, s_brk, s_cont, s_pass, s_raise, s_try, q_n, q_c, b_ok, b_exc, b_bad, b_ite, u_ok, u_exc, u_bad, u_ite, o_some, o_none, q_nx, q_rt, q_bk, q_ct, q_exc, q_bad, q_ite, of_some, f_nx, f_rt, f_exc, f_ite, c_ok, c_exc, c_ite, an_t, an_b, or_b, no_b, rv_l, in_i, au_s, li_s, re_s, nx_s, en_l, zi_l, ri_l, tr_nx, tr_rt, tr_bk, tr_ct, tr_exc, tr_ite, rd_c, rd_s, pk_c, pk_f, pk_o, bo_var, bo_lit, op_lit, bo_glob, op_glob, bo_op1, op_op1, bo_op2, op_op2, bo_sl, op_sl, bo_tup, op_tup, bo_lst, op_lst, bo_call, op_call, bo_ite, op_ite, bo_andV, op_andV, bo_orV, op_orV, bo_notV, op_notV, bo_revL, op_revL, bo_comp, op_comp, op_var, op_abs, opR_i, g_var, g_tup, gs_n, gs_c, d_fz, d_ow, a_add, a_sub, a_lt, a_le, a_gt, a_ge, a_max, a_min, a_mul, a_fdiv, a_mod, a_pow, a_addl, a_addt, a_adds, a_mull, a_eqi, a_nei, a_ixl, a_ixt, a1_neg, a1_lenl, a1_lent, a1_lens, a1_listl, a1_listt, a1_tupl, a1_tupt, a1_int, a1_sum, a1_isN, a1_notN, y_int_i, y_bool_i, y_str_i, y_list_i, y_tuple_i, nn_i, y_int_s, y_bool_s, y_str_s, y_list_s, y_tuple_s, nn_s, y_int_b, y_bool_b, y_str_b, y_list_b, y_tuple_b, nn_b, y_int_l, y_bool_l, y_str_l, y_list_l, y_tuple_l, nn_l, y_int_t, y_bool_t, y_str_t, y_list_t, y_tuple_t, nn_t, y_int_n, y_bool_n, y_str_n, y_list_n, y_tuple_n, nn_n, tr_b, tr_i, tr_l, tr_t, a3_l, a3_t, sq_l, sq_t, au_add, au_sub, List.getElem?_cons_zero, List.getElem?_cons_succ, List.set_cons_zero, List.set_cons_succ, Option.map_some, Option.bind_some, if_true, if_false, Bool.false_eq_true, reduceIte, Exs.len, Nat.reduceAdd, Nat.reduceLeDiff, Nat.reduceLT, List.length_cons, List.length_nil, Nat.lt_add_left_iff_pos, Nat.zero_lt_succ, decide_true, decide_false, Bool.not_true, Bool.not_false, List.map_cons, List.map_nil, List.replicate, List.cons_append, List.nil_append, decide_eq_true_eq, Bool.not_eq_true', decide_eq_false_iff_not, Bool.and_eq_true, Bool.or_eq_true, or_self, or_false, false_or, or_true, true_or, and_true, true_and, and_self, not_false_eq_true, not_true_eq_false, ite_self, Int.reduceLT, i1, i2, i3, i4, h1, h3, hr0, er, e, szE]
    · rw [if_neg h3] at b3
      subst c3 b3
      simp only [f__law_sizes, il, x_var, x_lit, x_op1, x_op2, x_sl, x_tup, x_lst, x_call, x_ite, x_andV, x_orV, x_notV, x_revL, x_comp, x_n, x_c, t_val, t_and, t_or, t_not, t_yes, i_seq, i_r1, i_r2, i_enum, i_zip, i_rev, s_asg, s_aug, s_app, s_setI, s_expr, s_if, s_whl, s_for, s_ret, s_retV, s_retN, s_brk, s_cont, s_pass, s_raise, s_try, q_n, q_c, b_ok, b_exc, b_bad, b_ite, u_ok, u_exc, u_bad, u_ite, o_some, o_none, q_nx, q_rt, q_bk, q_ct, q_exc, q_bad, q_ite, of_some, f_nx, f_rt, f_exc, f_ite, c_ok, c_exc, c_ite, an_t, an_b, or_b, no_b, rv_l, in_i, au_s, li_s, re_s, nx_s, en_l, zi_l, ri_l, tr_nx, tr_rt, tr_bk, tr_ct, tr_exc, tr_ite, rd_c, rd_s, pk_c, pk_f, pk_o, bo_var, bo_lit, op_lit, bo_glob, op_glob, bo_op1, op_op1, bo_op2, op_op2, bo_sl, op_sl, bo_tup, op_tup, bo_lst, op_lst, bo_call, op_call, bo_ite, op_ite, bo_andV, op_andV, bo_orV, op_orV, bo_notV, op_notV, bo_revL, op_revL, bo_comp, op_comp, op_var, op_abs, opR_i, g_var, g_tup, gs_n, gs_c, d_fz, d_ow, a_add, a_sub, a_lt, a_le, a_gt, a_ge, a_max, a_min, a_mul, a_fdiv, a_mod, a_pow, a_addl, a_addt, a_adds, a_mull, a_eqi, a_nei, a_ixl, a_ixt, a1_neg, a1_lenl, a1_lent, a1_lens, a1_listl, a1_listt, a1_tupl, a1_tupt, a1_int, a1_sum, a1_isN, a1_notN, y_int_i, y_bool_i, y_str_i, y_list_i, y_tuple_i, nn_i, y_int_s, y_bool_s, y_str_s, y_list_s, y_tuple_s, nn_s, y_int_b, y_bool_b, y_str_b, y_list_b, y_tuple_b, nn_b, y_int_l, y_bool_l, y_str_l, y_list_l, y_tuple_l, nn_l, y_int_t, y_bool_t, y_str_t, y_list_t, y_tuple_t, nn_t, y_int_n, y_bool_n, y_str_n, y_list_n, y_tuple_n, nn_n, tr_b, tr_i, tr_l, tr_t, a3_l, a3_t, sq_l, sq_t, au_add, au_sub, List.getElem?_cons_zero, List.getElem?_cons_succ, List.set_cons_zero, List.set_cons_succ, Option.map_some, Option.bind_some, if_true, if_false, Bool.false_eq_true, reduceIte, Exs.len, Nat.reduceAdd, Nat.reduceLeDiff, Nat.reduceLT, List.length_cons, List.length_nil, Nat.lt_add_left_iff_pos, Nat.zero_lt_succ, decide_true, decide_false, Bool.not_true, Bool.not_false, List.map_cons, List.map_nil, List.replicate, List.cons_append, List.nil_append, decide_eq_true_eq, Bool.not_eq_true', decide_eq_false_iff_not, Bool.and_eq_true, Bool.or_eq_true, or_self, or_false, false_or, or_true, true_or, and_true, true_and, and_self, not_false_eq_true, not_true_eq_false, ite_self, Int.reduceLT, i1, i2, i3, i4, h1, h3, hr0, er, e, szE]
  · rw [if_neg h1] at c3
    by_cases h3 : ps.getD 3 0 % 2 = 1
    · rw [if_pos h3] at b3
      subst c3 b3
      simp only [f__law_sizes, il, x_var, x_lit, x_op1, x_op2, x_sl, x_tup, x_lst, x_call, x_ite, x_andV, x_orV, x_notV, x_revL, x_comp, x_n, x_c, t_val, t_and, t_or, t_not, t_yes, i_seq, i_r1, i_r2, i_enum, i_zip, i_rev, s_asg, s_aug, s_app, s_setI, s_expr, s_if, s_whl, s_for, s_ret, s_retV, s_retN, s_brk, s_cont, s_pass, s_raise, s_try, q_n, q_c, b_ok, b_exc, b_bad, b_ite, u_ok, u_exc, u_bad, u_ite, o_some, o_none, q_nx, q_rt, q_bk, q_ct, q_exc, q_bad, q_ite, of_some, f_nx, f_rt, f_exc, f_ite, c_ok, c_exc, c_ite, an_t, an_b, or_b, no_b, rv_l, in_i, au_s, li_s, re_s, nx_s, en_l, zi_l, ri_l, tr_nx, tr_rt, tr_bk, tr_ct, tr_exc, tr_ite, rd_c, rd_s, pk_c, pk_f, pk_o, bo_var, bo_lit, op_lit, bo_glob, op_glob, bo_op1, op_op1, bo_op2, op_op2, bo_sl, op_sl, bo_tup, op_tup, bo_lst, op_lst, bo_call, op_call, bo_ite, op_ite, bo_andV, op_andV, bo_orV, op_orV, bo_notV, op_notV, bo_revL, op_revL, bo_comp, op_comp, op_var, op_abs, opR_i, g_var, g_tup, gs_n, gs_c, d_fz, d_ow, a_add, a_sub, a_lt, a_le, a_gt, a_ge, a_max, a_min, a_mul, a_fdiv, a_mod, a_pow, a_addl, a_addt, a_adds, a_mull, a_eqi, a_nei, a_ixl, a_ixt, a1_neg, a1_lenl, a1_lent, a1_lens, a1_listl, a1_listt, a1_tupl, a1_tupt, a1_int, a1_sum, a1_isN, a1_notN, y_int_i, y_bool_i, y_str_i, y_list_i, y_tuple_i, nn_i, y_int_s, y_bool_s, y_str_s, y_list_s, y_tuple_s, nn_s, y_int_b, y_bool_b, y_str_b, y_list_b, y_tuple_b, nn_b, y_int_l, y_bool_l, y_str_l, y_list_l, y_tuple_l, nn_l, y_int_t, y_bool_t, y_str_t, y_list_t, y_tuple_t, nn_t, y_int_n, y_bool_n, y_str_n, y_list_n, y_tuple_n, nn_n, tr_b, tr_i, tr_l, tr_t, a3_l, a3_t, sq_l, sq_t, au_add, au_sub, List.getElem?_cons_zero, List.getElem?_cons_succ, List.set_cons_zero, List.set_cons_succ, Option.map_some, Option.bind_some, if_true, if_false, Bool.false_eq_true, reduceIte, Exs.len, Nat.reduceAdd, Nat.reduceLeDiff, Nat.reduceLT, List.length_cons, List.length_nil, Nat.lt_add_left_iff_pos, Nat.zero_lt_succ, decide_true, decide_false, Bool.not_true, Bool.not_false, List.map_cons, List.map_nil, List.replicate, List.cons_append, List.nil_append, decide_eq_true_eq, Bool.not_eq_true', decide_eq_false_iff_not, Bool.and_eq_true, Bool.or_eq_true, or_self, or_false, false_or, or_true, true_or, and_true, true_and, and_self, not_false_eq_true, not_true_eq_false, ite_self, Int.reduceLT, i1, i2, i3, i4, h1, h3, hr0, er, e, szE]
    · rw [if_neg h3] at b3
      subst c3 b3
      simp only [f__law_sizes, il, x_var, x_lit, x_op1, x_op2, x_sl, x_tup, x_lst, x_call, x_ite, x_andV, x_orV, x_notV, x_revL, x_comp, x_n, x_c, t_val, t_and, t_or, t_not, t_yes, i_seq, i_r1, i_r2, i_enum, i_zip, i_rev, s_asg, s_aug, s_app, s_setI, s_expr, s_if, s_whl, s_for, s_ret, s_retV, s_retN, s_brk, s_cont, s_pass, s_raise, s_try, q_n, q_c, b_ok, b_exc, b_bad, b_ite, u_ok, u_exc, u_bad, u_ite, o_some, o_none, q_nx, q_rt, q_bk, q_ct, q_exc, q_bad, q_ite, of_some, f_nx, f_rt, f_exc, f_ite, c_ok, c_exc, c_ite, an_t, an_b, or_b, no_b, rv_l, in_i, au_s, li_s, re_s, nx_s, en_l, zi_l, ri_l, tr_nx, tr_rt, tr_bk, tr_ct, tr_exc, tr_ite, rd_c, rd_s, pk_c, pk_f, pk_o, bo_var, bo_lit, op_lit, bo_glob, op_glob, bo_op1, op_op1, bo_op2, op_op2, bo_sl, op_sl, bo_tup, op_tup, bo_lst, op_lst, bo_call, op_call, bo_ite, op_ite, bo_andV, op_andV, bo_orV, op_orV, bo_notV, op_notV, bo_revL, op_revL, bo_comp, op_comp, op_var, op_abs, opR_i, g_var, g_tup, gs_n, gs_c, d_fz, d_ow, a_add, a_sub, a_lt, a_le, a_gt, a_ge, a_max, a_min, a_mul, a_fdiv, a_mod, a_pow, a_addl, a_addt, a_adds, a_mull, a_eqi, a_nei, a_ixl, a_ixt, a1_neg, a1_lenl, a1_lent, a1_lens, a1_listl, a1_listt, a1_tupl, a1_tupt, a1_int, a1_sum, a1_isN, a1_notN, y_int_i, y_bool_i, y_str_i, y_list_i, y_tuple_i, nn_i, y_int_s, y_bool_s, y_str_s, y_list_s, y_tuple_s, nn_s, y_int_b, y_bool_b, y_str_b, y_list_b, y_tuple_b, nn_b, y_int_l, y_bool_l, y_str_l, y_list_l, y_tuple_l, nn_l, y_int_t, y_bool_t, y_str_t, y_list_t, y_tuple_t, nn_t, y_int_n, y_bool_n, y_str_n, y_list_n, y_tuple_n, nn_n, tr_b, tr_i, tr_l, tr_t, a3_l, a3_t, sq_l, sq_t, au_add, au_sub, List.getElem?_cons_zero, List.getElem?_cons_succ, List.set_cons_zero, List.set_cons_succ, Option.map_some, Option.bind_some, if_true, if_false, Bool.false_eq_true, reduceIte, Exs.len, Nat.reduceAdd, Nat.reduceLeDiff, Nat.reduceLT, List.length_cons, List.length_nil, Nat.lt_add_left_iff_pos, Nat.zero_lt_succ, decide_true, decide_false, Bool.not_true, Bool.not_false, List.map_cons, List.map_nil, List.replicate, List.cons_append, List.nil_append, decide_eq_true_eq, Bool.not_eq_true', decide_eq_false_iff_not, Bool.and_eq_true, Bool.or_eq_true, or_self, or_false, false_or, or_true, true_or, and_true, true_and, and_self, not_false_eq_true, not_true_eq_false, ite_self, Int.reduceLT, i1, i2, i3, i4, h1, h3, hr0, er, e, szE]

/-! ### _law_spans -/
def lsB : ISs := match f__law_spans.body with
  | .c _ (.c _ (.c _ (.c (.for_ _ _ b) _))) => b
  | _ => .n
/-- spans, start, used; the turn -/
def lsG (ns : List Int) (room : Int) (s : List (Int × Int) × Nat × Int) (k : Nat) : List (Int × Int) × Nat × Int :=
  if s.2.2 + ns.getD k 0 > room then (s.1 ++ [((s.2.1 : Int), (k : Int))], k, 0 + ns.getD k 0) else (s.1, s.2.1, s.2.2 + ns.getD k 0)
def lsE (ns : List Int) (room : Int) (s : (List (Int × Int) × Nat × Int) × Option Cell) : Env := [some (.fz (.list (ns.map .int))), some (.fz (.int room)), some (.ow (s.1.1.map pr)), some (.fz (.int (s.1.2.1 : Int))), some (.fz (.int s.1.2.2)), s.2]
theorem ls_step (R : RT) (ns : List Int) (room : Int) (s : (List (Int × Int) × Nat × Int) × Option Cell) (k : Nat) (hk : k < ns.length) (hs : s.1.1.length < 1000) :
    exSs R lsB ((lsE ns room s).set 5 (some (.fz (.int (k : Int))))) = .nx (lsE ns room (lsG ns room s.1 k, some (.fz (.int (k : Int))))) := by
  have hsz : (s.1.1.map pr).length < sizeLine := by
    rw [List.length_map]
    exact Nat.lt_trans hs (by decide)
  have ix := ix_int ns k hk
  unfold lsE lsG
  simp only [lsB, f__law_spans]
  by_cases h : s.1.2.2 + ns.getD k 0 > room
  · have h' : room < s.1.2.2 + ns.getD k 0 := h
    simp only [x_var, x_lit, x_op1, x_op2, x_sl, x_tup, x_lst, x_call, x_ite, x_andV, x_orV, x_notV, x_revL, x_comp, x_n, x_c, t_val, t_and, t_or, t_not, t_yes, i_seq, i_r1, i_r2, i_enum, i_zip, i_rev, s_asg, s_aug, s_app, s_setI, s_expr, s_if, s_whl, s_for, s_ret, s_retV, s_retN, s_brk, s_cont, s_pass, s_raise, s_try, q_n, q_c, b_ok, b_exc, b_bad, b_ite, u_ok, u_exc, u_bad, u_ite, o_some, o_none, q_nx, q_rt, q_bk, q_ct, q_exc, q_bad, q_ite, of_some, f_nx, f_rt, f_exc, f_ite, c_ok, c_exc, c_ite, an_t, an_b, or_b, no_b, rv_l, in_i, au_s, li_s, re_s, nx_s, en_l, zi_l, ri_l, tr_nx, tr_rt, tr_bk, tr_ct, tr_exc, tr_ite, rd_c, rd_s, pk_c, pk_f, pk_o, bo_var, bo_lit, op_lit, bo_glob, op_glob, bo_op1, op_op1, bo_op2, op_op2, bo_sl, op_sl, bo_tup, op_tup, bo_lst, op_lst, bo_call, op_call, bo_ite, op_ite, bo_andV, op_andV, bo_orV, op_orV, bo_notV, op_notV, bo_revL, op_revL, bo_comp, op_comp, op_var, op_abs, opR_i, g_var, g_tup, gs_n, gs_c, d_fz, d_ow, a_add, a_sub, a_lt, a_le, a_gt, a_ge, a_max, a_min, a_mul, a_fdiv, a_mod, a_pow, a_addl, a_addt, a_adds, a_mull, a_eqi, a_nei, a_ixl, a_ixt, a1_neg, a1_lenl, a1_lent, a1_lens, a1_listl, a1_listt, a1_tupl, a1_tupt, a1_int, a1_sum, a1_isN, a1_notN, y_int_i, y_bool_i, y_str_i, y_list_i, y_tuple_i, nn_i, y_int_s, y_bool_s, y_str_s, y_list_s, y_tuple_s, nn_s, y_int_b, y_bool_b, y_str_b, y_list_b, y_tuple_b, nn_b, y_int_l, y_bool_l, y_str_l, y_list_l, y_tuple_l, nn_l, y_int_t, y_bool_t, y_str_t, y_list_t, y_tuple_t, nn_t, y_int_n, y_bool_n, y_str_n, y_list_n, y_tuple_n, nn_n, tr_b, tr_i, tr_l, tr_t, a3_l, a3_t, sq_l, sq_t, au_add, au_sub, List.getElem?_cons_zero, List.getElem?_cons_succ, List.set_cons_zero, List.set_cons_succ, Option.map_some, Option.bind_some, if_true, if_false, Bool.false_eq_true, reduceIte, Exs.len, Nat.reduceAdd, Nat.reduceLeDiff, Nat.reduceLT, List.length_cons, List.length_nil, Nat.lt_add_left_iff_pos, Nat.zero_lt_succ, decide_true, decide_false, Bool.not_true, Bool.not_false, List.map_cons, List.map_nil, List.replicate, List.cons_append, List.nil_append, decide_eq_true_eq, Bool.not_eq_true', decide_eq_false_iff_not, Bool.and_eq_true, Bool.or_eq_true, or_self, or_false, false_or, or_true, true_or, and_true, true_and, and_self, not_false_eq_true, not_true_eq_false, ite_self, ix, h, h', hsz]
    simp only [List.map_append, List.map_cons, List.map_nil]
  · have h' : ¬ room < s.1.2.2 + ns.getD k 0 := h
    simp only [x_var, x_lit, x_op1, x_op2, x_sl, x_tup, x_lst, x_call, x_ite, x_andV, x_orV, x_notV, x_revL, x_comp, x_n, x_c, t_val, t_and, t_or, t_not, t_yes, i_seq, i_r1, i_r2, i_enum, i_zip, i_rev, s_asg, s_aug, s_app, s_setI, s_expr, s_if, s_whl, s_for, s_ret, s_retV, s_retN, s_brk, s_cont, s_pass, s_raise, s_try, q_n, q_c, b_ok, b_exc, b_bad, b_ite, u_ok, u_exc, u_bad, u_ite, o_some, o_none, q_nx, q_rt, q_bk, q_ct, q_exc, q_bad, q_ite, of_some, f_nx, f_rt, f_exc, f_ite, c_ok, c_exc, c_ite, an_t, an_b, or_b, no_b, rv_l, in_i, au_s, li_s, re_s, nx_s, en_l, zi_l, ri_l, tr_nx, tr_rt, tr_bk, tr_ct, tr_exc, tr_ite, rd_c, rd_s, pk_c, pk_f, pk_o, bo_var, bo_lit, op_lit, bo_glob, op_glob, bo_op1, op_op1, bo_op2, op_op2, bo_sl, op_sl, bo_tup, op_tup, bo_lst, op_lst, bo_call, op_call, bo_ite, op_ite, bo_andV, op_andV, bo_orV, op_orV, bo_notV, op_notV, bo_revL, op_revL, bo_comp, op_comp, op_var, op_abs, opR_i, g_var, g_tup, gs_n, gs_c, d_fz, d_ow, a_add, a_sub, a_lt, a_le, a_gt, a_ge, a_max, a_min, a_mul, a_fdiv, a_mod, a_pow, a_addl, a_addt, a_adds, a_mull, a_eqi, a_nei, a_ixl, a_ixt, a1_neg, a1_lenl, a1_lent, a1_lens, a1_listl, a1_listt, a1_tupl, a1_tupt, a1_int, a1_sum, a1_isN, a1_notN, y_int_i, y_bool_i, y_str_i, y_list_i, y_tuple_i, nn_i, y_int_s, y_bool_s, y_str_s, y_list_s, y_tuple_s, nn_s, y_int_b, y_bool_b, y_str_b, y_list_b, y_tuple_b, nn_b, y_int_l, y_bool_l, y_str_l, y_list_l, y_tuple_l, nn_l, y_int_t, y_bool_t, y_str_t, y_list_t, y_tuple_t, nn_t, y_int_n, y_bool_n, y_str_n, y_list_n, y_tuple_n, nn_n, tr_b, tr_i, tr_l, tr_t, a3_l, a3_t, sq_l, sq_t, au_add, au_sub, List.getElem?_cons_zero, List.getElem?_cons_succ, List.set_cons_zero, List.set_cons_succ, Option.map_some, Option.bind_some, if_true, if_false, Bool.false_eq_true, reduceIte, Exs.len, Nat.reduceAdd, Nat.reduceLeDiff, Nat.reduceLT, List.length_cons, List.length_nil, Nat.lt_add_left_iff_pos, Nat.zero_lt_succ, decide_true, decide_false, Bool.not_true, Bool.not_false, List.map_cons, List.map_nil, List.replicate, List.cons_append, List.nil_append, decide_eq_true_eq, Bool.not_eq_true', decide_eq_false_iff_not, Bool.and_eq_true, Bool.or_eq_true, or_self, or_false, false_or, or_true, true_or, and_true, true_and, and_self, not_false_eq_true, not_true_eq_false, ite_self, ix, h, h']
theorem ls_go (ns : List Int) (room : Int) : ∀ (m k : Nat) (s : List (Int × Int) × Nat × Int), k + m = ns.length → let t := ((List.range' k m).foldl (lsG ns room) s); t.1 ++ [((t.2.1 : Int), (ns.length : Int))] = s.1 ++ go room s.2.1 k s.2.2 (ns.drop k)
  | 0, k, s, h => by
    have e : ns.drop k = [] := List.drop_eq_nil_of_le (by omega)
    rw [e]
    simp only [List.range'_zero, List.foldl_nil, go]
    rw [← h, Nat.add_zero]
  | m + 1, k, s, h => by
    have hk : k < ns.length := by omega
    have ih := ls_go ns room m (k + 1) (lsG ns room s k) (by omega)
    have eg : ns.getD k 0 = ns[k] := by simp [List.getD, hk]
    simp only [List.range'_succ, List.foldl_cons]
    simp only at ih
    rw [ih, List.drop_eq_getElem_cons hk, go]
    unfold lsG
    rw [eg]
    by_cases hc : s.2.2 + ns[k] > room
    · rw [if_pos hc, if_pos hc, List.append_assoc]
      rfl
    · rw [if_neg hc, if_neg hc]
theorem r_lspans (n : Nat) (ns : List Int) (room : Int) (hl : ns.length ≤ 300) : runF cfg (n + 1) 11 [il ns, .int room] = .ok (.ow ((spans room ns).map pr)) := by
  rw [run_at (show cfg.funs[11]? = some f__law_spans from rfl) rfl]
  have q := forL_m (t := Tg.var 5) (b := exSs ⟨runF cfg n, cfg.consts⟩ lsB) (E := lsE ns room) (f := fun (i : Nat) => PyData.int (i : Int)) (step := fun s k => (lsG ns room s.1 k, some (.fz (.int (k : Int))))) (List.range ns.length) (fun i s => s.1.1.length ≤ i) (fun i s x hx hs => by
    obtain ⟨hi, ex⟩ := List.getElem?_eq_some_iff.mp hx
    rw [List.length_range] at hi
    rw [List.getElem_range] at ex
    subst ex
    refine ⟨⟨_, by simp only [asgT, lsE]; rfl, ls_step ⟨runF cfg n, cfg.consts⟩ ns room s i hi (by omega)⟩, ?_⟩
    show (lsG ns room s.1 i).1.length ≤ i + 1
    unfold lsG
    split
    · simp; omega
    · simp; omega) (List.range ns.length) 0 (([], 0, 0), none) rfl (Nat.le_refl _)
  obtain ⟨q1, q2⟩ := q
  have g := ls_go ns room ns.length 0 ([], 0, 0) (by omega)
  rw [← List.range_eq_range'] at g
  have ef : ∀ (l : List Nat) (s : (List (Int × Int) × Nat × Int) × Option Cell), (l.foldl (fun (s : (List (Int × Int) × Nat × Int) × Option Cell) (k : Nat) => (lsG ns room s.1 k, some (Cell.fz (.int (k : Int))))) s).1 = l.foldl (lsG ns room) s.1 := fun l s => foldl_fst (lsG ns room) (fun _ _ => rfl) l s
  have e1 := ef (List.range ns.length) (([], 0, 0), none)
  have sm := fun e => rngR_nat ns.length e (by omega)
  generalize hT : (List.range ns.length).foldl (fun (s : (List (Int × Int) × Nat × Int) × Option Cell) (k : Nat) => (lsG ns room s.1 k, some (Cell.fz (.int (k : Int))))) (([], 0, 0), none) = T at q1 q2 e1
  rw [← e1] at g
  simp only [List.drop_zero, List.nil_append] at g
  simp only [lsB, f__law_spans, lsE, List.map_nil] at q1
  have z0 : ((0 : Nat) : Int) = 0 := rfl
  rw [z0] at q1
  have hsz : (T.1.1.map pr).length < sizeLine := by
    rw [List.length_map]
    rw [List.length_range] at q2
    exact Nat.lt_of_le_of_lt (by omega : _ ≤ 1000) (by decide)
  simp only [f__law_spans, il, x_var, x_lit, x_op1, x_op2, x_sl, x_tup, x_lst, x_call, x_ite, x_andV, x_orV, x_notV, x_revL, x_comp, x_n, x_c, t_val, t_and, t_or, t_not, t_yes, i_seq, i_r1, i_r2, i_enum, i_zip, i_rev, s_asg, s_aug, s_app, s_setI, s_expr, s_if, s_whl, s_for, s_ret, s_retV, s_retN, s_brk, s_cont, s_pass, s_raise, s_try, q_n, q_c, b_ok, b_exc, b_bad, b_ite, u_ok, u_exc, u_bad, u_ite, o_some, o_none, q_nx, q_rt, q_bk, q_ct, q_exc, q_bad, q_ite, of_some, f_nx, f_rt, f_exc, f_ite, c_ok, c_exc, c_ite, an_t, an_b, or_b, no_b, rv_l, in_i, au_s, li_s, re_s, nx_s, en_l, zi_l, ri_l, tr_nx, tr_rt, tr_bk, tr_ct, tr_exc, tr_ite, rd_c, rd_s, pk_c, pk_f, pk_o, bo_var, bo_lit, op_lit, bo_glob, op_glob, bo_op1, op_op1, bo_op2, op_op2, bo_sl, op_sl, bo_tup, op_tup, bo_lst, op_lst, bo_call, op_call, bo_ite, op_ite, bo_andV, op_andV, bo_orV, op_orV, bo_notV, op_notV, bo_revL, op_revL, bo_comp, op_comp, op_var, op_abs, opR_i, g_var, g_tup, gs_n, gs_c, d_fz, d_ow, a_add, a_sub, a_lt, a_le, a_gt, a_ge, a_max, a_min, a_mul, a_fdiv, a_mod, a_pow, a_addl, a_addt, a_adds, a_mull, a_eqi, a_nei, a_ixl, a_ixt, a1_neg, a1_lenl, a1_lent, a1_lens, a1_listl, a1_listt, a1_tupl, a1_tupt, a1_int, a1_sum, a1_isN, a1_notN, y_int_i, y_bool_i, y_str_i, y_list_i, y_tuple_i, nn_i, y_int_s, y_bool_s, y_str_s, y_list_s, y_tuple_s, nn_s, y_int_b, y_bool_b, y_str_b, y_list_b, y_tuple_b, nn_b, y_int_l, y_bool_l, y_str_l, y_list_l, y_tuple_l, nn_l, y_int_t, y_bool_t, y_str_t, y_list_t, y_tuple_t, nn_t, y_int_n, y_bool_n, y_str_n, y_list_n, y_tuple_n, nn_n, tr_b, tr_i, tr_l, tr_t, a3_l, a3_t, sq_l, sq_t, au_add, au_sub, List.getElem?_cons_zero, List.getElem?_cons_succ, List.set_cons_zero, List.set_cons_succ, Option.map_some, Option.bind_some, if_true, if_false, Bool.false_eq_true, reduceIte, Exs.len, Nat.reduceAdd, Nat.reduceLeDiff, Nat.reduceLT, List.length_cons, List.length_nil, Nat.lt_add_left_iff_pos, Nat.zero_lt_succ, decide_true, decide_false, Bool.not_true, Bool.not_false, List.map_cons, List.map_nil, List.replicate, List.cons_append, List.nil_append, decide_eq_true_eq, Bool.not_eq_true', decide_eq_false_iff_not, Bool.and_eq_true, Bool.or_eq_true, or_self, or_false, false_or, or_true, true_or, and_true, true_and, and_self, not_false_eq_true, not_true_eq_false, ite_self, List.length_map, sm, forR, q1]
  unfold spans rest
  by_cases h : ns = []
  · have h' : ¬ 0 < (ns.length : Int) := by rw [h]; decide
    have hT2 : T.1.1 = [] := by
      rw [e1, h]
      rfl
    simp only [h', x_var, x_lit, x_op1, x_op2, x_sl, x_tup, x_lst, x_call, x_ite, x_andV, x_orV, x_notV, x_revL, x_comp, x_n, x_c, t_val, t_and, t_or, t_not, t_yes, i_seq, i_r1, i_r2, i_enum, i_zip, i_rev, s_asg, s_aug, s_app, s_setI, s_expr, s_if, s_whl, s_for, s_ret, s_retV, s_retN, s_brk, s_cont, s_pass, s_raise, s_try, q_n, q_c, b_ok, b_exc, b_bad, b_ite, u_ok, u_exc, u_bad, u_ite, o_some, o_none, q_nx, q_rt, q_bk, q_ct, q_exc, q_bad, q_ite, of_some, f_nx, f_rt, f_exc, f_ite, c_ok, c_exc, c_ite, an_t, an_b, or_b, no_b, rv_l, in_i, au_s, li_s, re_s, nx_s, en_l, zi_l, ri_l, tr_nx, tr_rt, tr_bk, tr_ct, tr_exc, tr_ite, rd_c, rd_s, pk_c, pk_f, pk_o, bo_var, bo_lit, op_lit, bo_glob, op_glob, bo_op1, op_op1, bo_op2, op_op2, bo_sl, op_sl, bo_tup, op_tup, bo_lst, op_lst, bo_call, op_call, bo_ite, op_ite, bo_andV, op_andV, bo_orV, op_orV, bo_notV, op_notV, bo_revL, op_revL, bo_comp, op_comp, op_var, op_abs, opR_i, g_var, g_tup, gs_n, gs_c, d_fz, d_ow, a_add, a_sub, a_lt, a_le, a_gt, a_ge, a_max, a_min, a_mul, a_fdiv, a_mod, a_pow, a_addl, a_addt, a_adds, a_mull, a_eqi, a_nei, a_ixl, a_ixt, a1_neg, a1_lenl, a1_lent, a1_lens, a1_listl, a1_listt, a1_tupl, a1_tupt, a1_int, a1_sum, a1_isN, a1_notN, y_int_i, y_bool_i, y_str_i, y_list_i, y_tuple_i, nn_i, y_int_s, y_bool_s, y_str_s, y_list_s, y_tuple_s, nn_s, y_int_b, y_bool_b, y_str_b, y_list_b, y_tuple_b, nn_b, y_int_l, y_bool_l, y_str_l, y_list_l, y_tuple_l, nn_l, y_int_t, y_bool_t, y_str_t, y_list_t, y_tuple_t, nn_t, y_int_n, y_bool_n, y_str_n, y_list_n, y_tuple_n, nn_n, tr_b, tr_i, tr_l, tr_t, a3_l, a3_t, sq_l, sq_t, au_add, au_sub, List.getElem?_cons_zero, List.getElem?_cons_succ, List.set_cons_zero, List.set_cons_succ, Option.map_some, Option.bind_some, if_true, if_false, Bool.false_eq_true, reduceIte, Exs.len, Nat.reduceAdd, Nat.reduceLeDiff, Nat.reduceLT, List.length_cons, List.length_nil, Nat.lt_add_left_iff_pos, Nat.zero_lt_succ, decide_true, decide_false, Bool.not_true, Bool.not_false, List.map_cons, List.map_nil, List.replicate, List.cons_append, List.nil_append, decide_eq_true_eq, Bool.not_eq_true', decide_eq_false_iff_not, Bool.and_eq_true, Bool.or_eq_true, or_self, or_false, false_or, or_true, true_or, and_true, true_and, and_self, not_false_eq_true, not_true_eq_false, ite_self, hT2]
    rw [if_pos h]
    rfl
  · have h' : 0 < (ns.length : Int) := by
      have := List.length_pos_iff.mpr h
      omega
    rw [if_neg h, ← g]
    rw [List.length_map] at hsz
    simp only [h', hsz, x_var, x_lit, x_op1, x_op2, x_sl, x_tup, x_lst, x_call, x_ite, x_andV, x_orV, x_notV, x_revL, x_comp, x_n, x_c, t_val, t_and, t_or, t_not, t_yes, i_seq, i_r1, i_r2, i_enum, i_zip, i_rev, s_asg, s_aug, s_app, s_setI, s_expr, s_if, s_whl, s_for, s_ret, s_retV, s_retN, s_brk, s_cont, s_pass, s_raise, s_try, q_n, q_c, b_ok, b_exc, b_bad, b_ite, u_ok, u_exc, u_bad, u_ite, o_some, o_none, q_nx, q_rt, q_bk, q_ct, q_exc, q_bad, q_ite, of_some, f_nx, f_rt, f_exc, f_ite, c_ok, c_exc, c_ite, an_t, an_b, or_b, no_b, rv_l, in_i, au_s, li_s, re_s, nx_s, en_l, zi_l, ri_l, tr_nx, tr_rt, tr_bk, tr_ct, tr_exc, tr_ite, rd_c, rd_s, pk_c, pk_f, pk_o, bo_var, bo_lit, op_lit, bo_glob, op_glob, bo_op1, op_op1, bo_op2, op_op2, bo_sl, op_sl, bo_tup, op_tup, bo_lst, op_lst, bo_call, op_call, bo_ite, op_ite, bo_andV, op_andV, bo_orV, op_orV, bo_notV, op_notV, bo_revL, op_revL, bo_comp, op_comp, op_var, op_abs, opR_i, g_var, g_tup, gs_n, gs_c, d_fz, d_ow, a_add, a_sub, a_lt, a_le, a_gt, a_ge, a_max, a_min, a_mul, a_fdiv, a_mod, a_pow, a_addl, a_addt, a_adds, a_mull, a_eqi, a_nei, a_ixl, a_ixt, a1_neg, a1_lenl, a1_lent, a1_lens, a1_listl, a1_listt, a1_tupl, a1_tupt, a1_int, a1_sum, a1_isN, a1_notN, y_int_i, y_bool_i, y_str_i, y_list_i, y_tuple_i, nn_i, y_int_s, y_bool_s, y_str_s, y_list_s, y_tuple_s, nn_s, y_int_b, y_bool_b, y_str_b, y_list_b, y_tuple_b, nn_b, y_int_l, y_bool_l, y_str_l, y_list_l, y_tuple_l, nn_l, y_int_t, y_bool_t, y_str_t, y_list_t, y_tuple_t, nn_t, y_int_n, y_bool_n, y_str_n, y_list_n, y_tuple_n, nn_n, tr_b, tr_i, tr_l, tr_t, a3_l, a3_t, sq_l, sq_t, au_add, au_sub, List.getElem?_cons_zero, List.getElem?_cons_succ, List.set_cons_zero, List.set_cons_succ, Option.map_some, Option.bind_some, if_true, if_false, Bool.false_eq_true, reduceIte, Exs.len, Nat.reduceAdd, Nat.reduceLeDiff, Nat.reduceLT, List.length_cons, List.length_nil, Nat.lt_add_left_iff_pos, Nat.zero_lt_succ, decide_true, decide_false, Bool.not_true, Bool.not_false, List.map_cons, List.map_nil, List.replicate, List.cons_append, List.nil_append, decide_eq_true_eq, Bool.not_eq_true', decide_eq_false_iff_not, Bool.and_eq_true, Bool.or_eq_true, or_self, or_false, false_or, or_true, true_or, and_true, true_and, and_self, not_false_eq_true, not_true_eq_false, ite_self]
    simp only [List.map_append, List.map_cons, List.map_nil]
end PD.K55

end

section
set_option Elab.async false
set_option linter.all false
set_option maxRecDepth 100000
namespace PD.K55
open PySem
theorem pr_eq (a b : Int) : (PyData.tuple [.int a, .int b] : D) = pr (a, b) := rfl
theorem ix_pr (ps : List (Int × Int)) (i : Nat) (h : i < ps.length) : L2.atI (ps.map pr) (i : Int) = some (pr ps[i]) := by
  rw [atI_nat _ i (by simpa using h)]
  simp
/-- lists of lists of pairs, indexed -/
theorem ix_any (l : List D) (m : Int) (h : 0 ≤ m) (h2 : m < l.length) : ∃ d, L2.atI l m = some d ∧ d ∈ l := by
  have e := atI_nat l m.toNat (by omega)
  rw [Int.toNat_of_nonneg h] at e
  exact ⟨_, e, List.getElem_mem _⟩
def nwL (a b mid one size : Int) : List (List (Int × Int)) := [[], [(a, b), (a, b)], [(a, mid), (mid, b)], [(a, b + one)], [(a, b - one)], [(a + one, b)], [(a - one, b)], [(a, b), (b, b)], [(a, size)], [(a, b)]]
def isPs (d : D) : Prop := ∃ ps : List (Int × Int), d = .list (ps.map pr) ∧ ps.length ≤ 3
theorem r_changed (n : Nat) (ps : List (Int × Int)) (size : Int) (pk : List Int) (hl : ps.length ≤ 300) (hord : ∀ p ∈ ps, p.1 < p.2) (hp : pk.length = 10) (hpk : ∀ x ∈ pk, 0 ≤ x ∧ x < 60) :
    ∃ (qs : List (Int × Int)) (c : Cell), runF cfg (n + 1) 14 [.list (ps.map pr), .int size, il pk] = .ok c ∧ c.d = .list (qs.map pr) ∧ qs.length ≤ 700 := by
  have gp : ∀ i, i < 10 → 0 ≤ pk.getD i 0 ∧ pk.getD i 0 < 60 := fun i hi => by
    have hi' : i < pk.length := by omega
    have := hpk _ (List.getElem_mem hi')
    simpa [List.getD, hi'] using this
  have i5 : L2.atI (pk.map PyData.int) 5 = some (.int (pk.getD 5 0)) := ix_int pk 5 (by omega)
  have i6 : L2.atI (pk.map PyData.int) 6 = some (.int (pk.getD 6 0)) := ix_int pk 6 (by omega)
  have i7 : L2.atI (pk.map PyData.int) 7 = some (.int (pk.getD 7 0)) := ix_int pk 7 (by omega)
  have i8 : L2.atI (pk.map PyData.int) 8 = some (.int (pk.getD 8 0)) := ix_int pk 8 (by omega)
  have g5 := gp 5 (by omega)
  have g6 := gp 6 (by omega)
  have g7 := gp 7 (by omega)
  rw [run_at (show cfg.funs[14]? = some f__law_changed from rfl) rfl]
  by_cases h0 : ps = []
  · subst h0
    have m4 : ∀ x : Int, x % 4 = 0 ∨ x % 4 = 1 ∨ x % 4 = 2 ∨ x % 4 = 3 := fun x => by omega
    rcases m4 (pk.getD 7 0) with h | h | h | h
    · exact ⟨[], _, by simp only [f__law_changed, il, x_var, x_lit, x_op1, x_op2, x_sl, x_tup, x_lst, x_call, x_ite, x_andV, x_orV, x_notV, x_revL, x_comp, x_n, x_c, t_val, t_and, t_or, t_not, t_yes, i_seq, i_r1, i_r2, i_enum, i_zip, i_rev, s_asg, s_aug, s_app, s_setI, s_expr, s_if, s_whl, s_for, s_ret, s_retV, s_retN, s_brk, s_cont, s_pass, s_raise, s_try, q_n, q_c, b_ok, b_exc, b_bad, b_ite, u_ok, u_exc, u_bad, u_ite, o_some, o_none, q_nx, q_rt, q_bk, q_ct, q_exc, q_bad, q_ite, of_some, f_nx, f_rt, f_exc, f_ite, c_ok, c_exc, c_ite, an_t, an_b, or_b, no_b, rv_l, in_i, au_s, li_s, re_s, nx_s, en_l, zi_l, ri_l, tr_nx, tr_rt, tr_bk, tr_ct, tr_exc, tr_ite, rd_c, rd_s, pk_c, pk_f, pk_o, bo_var, bo_lit, op_lit, bo_glob, op_glob, bo_op1, op_op1, bo_op2, op_op2, bo_sl, op_sl, bo_tup, op_tup, bo_lst, op_lst, bo_call, op_call, bo_ite, op_ite, bo_andV, op_andV, bo_orV, op_orV, bo_notV, op_notV, bo_revL, op_revL, bo_comp, op_comp, op_var, op_abs, opR_i, g_var, g_tup, gs_n, gs_c, d_fz, d_ow, a_add, a_sub, a_lt, a_le, a_gt, a_ge, a_max, a_min, a_mul, a_fdiv, a_mod, a_pow, a_addl, a_addt, a_adds, a_mull, a_eqi, a_nei, a_ixl, a_ixt, a1_neg, a1_lenl, a1_lent, a1_lens, a1_listl, a1_listt, a1_tupl, a1_tupt, a1_int, a1_sum, a1_isN, a1_notN, y_int_i, y_bool_i, y_str_i, y_list_i, y_tuple_i, nn_i, y_int_s, y_bool_s, y_str_s, y_list_s, y_tuple_s, nn_s, y_int_b, y_bool_b, y_str_b, y_list_b, y_tuple_b, nn_b, y_int_l, y_bool_l, y_str_l, y_list_l, y_tuple_l, nn_l, y_int_t, y_bool_t, y_str_t, y_list_t, y_tuple_t, nn_t, y_int_n, y_bool_n, y_str_n, y_list_n, y_tuple_n, nn_n, tr_b, tr_i, tr_l, tr_t, a3_l, a3_t, sq_l, sq_t, au_add, au_sub, List.getElem?_cons_zero, List.getElem?_cons_succ, List.set_cons_zero, List.set_cons_succ, Option.map_some, Option.bind_some, if_true, if_false, Bool.false_eq_true, reduceIte, Exs.len, Nat.reduceAdd, Nat.reduceLeDiff, Nat.reduceLT, List.length_cons, List.length_nil, Nat.lt_add_left_iff_pos, Nat.zero_lt_succ, decide_true, decide_false, Bool.not_true, Bool.not_false, List.map_cons, List.map_nil, List.replicate, List.cons_append, List.nil_append, decide_eq_true_eq, Bool.not_eq_true', decide_eq_false_iff_not, Bool.and_eq_true, Bool.or_eq_true, or_self, or_false, false_or, or_true, true_or, and_true, true_and, and_self, not_false_eq_true, not_true_eq_false, ite_self, Int.reduceLT, i7, h]; rfl, rfl, by simp⟩
    · exact ⟨[(0, 0)], _, by simp only [f__law_changed, il, x_var, x_lit, x_op1, x_op2, x_sl, x_tup, x_lst, x_call, x_ite, x_andV, x_orV, x_notV, x_revL, x_comp, x_n, x_c, t_val, t_and, t_or, t_not, t_yes, i_seq, i_r1, i_r2, i_enum, i_zip, i_rev, s_asg, s_aug, s_app, s_setI, s_expr, s_if, s_whl, s_for, s_ret, s_retV, s_retN, s_brk, s_cont, s_pass, s_raise, s_try, q_n, q_c, b_ok, b_exc, b_bad, b_ite, u_ok, u_exc, u_bad, u_ite, o_some, o_none, q_nx, q_rt, q_bk, q_ct, q_exc, q_bad, q_ite, of_some, f_nx, f_rt, f_exc, f_ite, c_ok, c_exc, c_ite, an_t, an_b, or_b, no_b, rv_l, in_i, au_s, li_s, re_s, nx_s, en_l, zi_l, ri_l, tr_nx, tr_rt, tr_bk, tr_ct, tr_exc, tr_ite, rd_c, rd_s, pk_c, pk_f, pk_o, bo_var, bo_lit, op_lit, bo_glob, op_glob, bo_op1, op_op1, bo_op2, op_op2, bo_sl, op_sl, bo_tup, op_tup, bo_lst, op_lst, bo_call, op_call, bo_ite, op_ite, bo_andV, op_andV, bo_orV, op_orV, bo_notV, op_notV, bo_revL, op_revL, bo_comp, op_comp, op_var, op_abs, opR_i, g_var, g_tup, gs_n, gs_c, d_fz, d_ow, a_add, a_sub, a_lt, a_le, a_gt, a_ge, a_max, a_min, a_mul, a_fdiv, a_mod, a_pow, a_addl, a_addt, a_adds, a_mull, a_eqi, a_nei, a_ixl, a_ixt, a1_neg, a1_lenl, a1_lent, a1_lens, a1_listl, a1_listt, a1_tupl, a1_tupt, a1_int, a1_sum, a1_isN, a1_notN, y_int_i, y_bool_i, y_str_i, y_list_i, y_tuple_i, nn_i, y_int_s, y_bool_s, y_str_s, y_list_s, y_tuple_s, nn_s, y_int_b, y_bool_b, y_str_b, y_list_b, y_tuple_b, nn_b, y_int_l, y_bool_l, y_str_l, y_list_l, y_tuple_l, nn_l, y_int_t, y_bool_t, y_str_t, y_list_t, y_tuple_t, nn_t, y_int_n, y_bool_n, y_str_n, y_list_n, y_tuple_n, nn_n, tr_b, tr_i, tr_l, tr_t, a3_l, a3_t, sq_l, sq_t, au_add, au_sub, List.getElem?_cons_zero, List.getElem?_cons_succ, List.set_cons_zero, List.set_cons_succ, Option.map_some, Option.bind_some, if_true, if_false, Bool.false_eq_true, reduceIte, Exs.len, Nat.reduceAdd, Nat.reduceLeDiff, Nat.reduceLT, List.length_cons, List.length_nil, Nat.lt_add_left_iff_pos, Nat.zero_lt_succ, decide_true, decide_false, Bool.not_true, Bool.not_false, List.map_cons, List.map_nil, List.replicate, List.cons_append, List.nil_append, decide_eq_true_eq, Bool.not_eq_true', decide_eq_false_iff_not, Bool.and_eq_true, Bool.or_eq_true, or_self, or_false, false_or, or_true, true_or, and_true, true_and, and_self, not_false_eq_true, not_true_eq_false, ite_self, Int.reduceLT, i7, h]; rfl, rfl, by simp⟩
    · exact ⟨[(0, 1)], _, by simp only [f__law_changed, il, x_var, x_lit, x_op1, x_op2, x_sl, x_tup, x_lst, x_call, x_ite, x_andV, x_orV, x_notV, x_revL, x_comp, x_n, x_c, t_val, t_and, t_or, t_not, t_yes, i_seq, i_r1, i_r2, i_enum, i_zip, i_rev, s_asg, s_aug, s_app, s_setI, s_expr, s_if, s_whl, s_for, s_ret, s_retV, s_retN, s_brk, s_cont, s_pass, s_raise, s_try, q_n, q_c, b_ok, b_exc, b_bad, b_ite, u_ok, u_exc, u_bad, u_ite, o_some, o_none, q_nx, q_rt, q_bk, q_ct, q_exc, q_bad, q_ite, of_some, f_nx, f_rt, f_exc, f_ite, c_ok, c_exc, c_ite, an_t, an_b, or_b, no_b, rv_l, in_i, au_s, li_s, re_s, nx_s, en_l, zi_l, ri_l, tr_nx, tr_rt, tr_bk, tr_ct, tr_exc, tr_ite, rd_c, rd_s, pk_c, pk_f, pk_o, bo_var, bo_lit, op_lit, bo_glob, op_glob, bo_op1, op_op1, bo_op2, op_op2, bo_sl, op_sl, bo_tup, op_tup, bo_lst, op_lst, bo_call, op_call, bo_ite, op_ite, bo_andV, op_andV, bo_orV, op_orV, bo_notV, op_notV, bo_revL, op_revL, bo_comp, op_comp, op_var, op_abs, opR_i, g_var, g_tup, gs_n, gs_c, d_fz, d_ow, a_add, a_sub, a_lt, a_le, a_gt, a_ge, a_max, a_min, a_mul, a_fdiv, a_mod, a_pow, a_addl, a_addt, a_adds, a_mull, a_eqi, a_nei, a_ixl, a_ixt, a1_neg, a1_lenl, a1_lent, a1_lens, a1_listl, a1_listt, a1_tupl, a1_tupt, a1_int, a1_sum, a1_isN, a1_notN, y_int_i, y_bool_i, y_str_i, y_list_i, y_tuple_i, nn_i, y_int_s, y_bool_s, y_str_s, y_list_s, y_tuple_s, nn_s, y_int_b, y_bool_b, y_str_b, y_list_b, y_tuple_b, nn_b, y_int_l, y_bool_l, y_str_l, y_list_l, y_tuple_l, nn_l, y_int_t, y_bool_t, y_str_t, y_list_t, y_tuple_t, nn_t, y_int_n, y_bool_n, y_str_n, y_list_n, y_tuple_n, nn_n, tr_b, tr_i, tr_l, tr_t, a3_l, a3_t, sq_l, sq_t, au_add, au_sub, List.getElem?_cons_zero, List.getElem?_cons_succ, List.set_cons_zero, List.set_cons_succ, Option.map_some, Option.bind_some, if_true, if_false, Bool.false_eq_true, reduceIte, Exs.len, Nat.reduceAdd, Nat.reduceLeDiff, Nat.reduceLT, List.length_cons, List.length_nil, Nat.lt_add_left_iff_pos, Nat.zero_lt_succ, decide_true, decide_false, Bool.not_true, Bool.not_false, List.map_cons, List.map_nil, List.replicate, List.cons_append, List.nil_append, decide_eq_true_eq, Bool.not_eq_true', decide_eq_false_iff_not, Bool.and_eq_true, Bool.or_eq_true, or_self, or_false, false_or, or_true, true_or, and_true, true_and, and_self, not_false_eq_true, not_true_eq_false, ite_self, Int.reduceLT, i7, h]; rfl, rfl, by simp⟩
    · exact ⟨[(-1, 0)], _, by simp only [f__law_changed, il, x_var, x_lit, x_op1, x_op2, x_sl, x_tup, x_lst, x_call, x_ite, x_andV, x_orV, x_notV, x_revL, x_comp, x_n, x_c, t_val, t_and, t_or, t_not, t_yes, i_seq, i_r1, i_r2, i_enum, i_zip, i_rev, s_asg, s_aug, s_app, s_setI, s_expr, s_if, s_whl, s_for, s_ret, s_retV, s_retN, s_brk, s_cont, s_pass, s_raise, s_try, q_n, q_c, b_ok, b_exc, b_bad, b_ite, u_ok, u_exc, u_bad, u_ite, o_some, o_none, q_nx, q_rt, q_bk, q_ct, q_exc, q_bad, q_ite, of_some, f_nx, f_rt, f_exc, f_ite, c_ok, c_exc, c_ite, an_t, an_b, or_b, no_b, rv_l, in_i, au_s, li_s, re_s, nx_s, en_l, zi_l, ri_l, tr_nx, tr_rt, tr_bk, tr_ct, tr_exc, tr_ite, rd_c, rd_s, pk_c, pk_f, pk_o, bo_var, bo_lit, op_lit, bo_glob, op_glob, bo_op1, op_op1, bo_op2, op_op2, bo_sl, op_sl, bo_tup, op_tup, bo_lst, op_lst, bo_call, op_call, bo_ite, op_ite, bo_andV, op_andV, bo_orV, op_orV, bo_notV, op_notV, bo_revL, op_revL, bo_comp, op_comp, op_var, op_abs, opR_i, g_var, g_tup, gs_n, gs_c, d_fz, d_ow, a_add, a_sub, a_lt, a_le, a_gt, a_ge, a_max, a_min, a_mul, a_fdiv, a_mod, a_pow, a_addl, a_addt, a_adds, a_mull, a_eqi, a_nei, a_ixl, a_ixt, a1_neg, a1_lenl, a1_lent, a1_lens, a1_listl, a1_listt, a1_tupl, a1_tupt, a1_int, a1_sum, a1_isN, a1_notN, y_int_i, y_bool_i, y_str_i, y_list_i, y_tuple_i, nn_i, y_int_s, y_bool_s, y_str_s, y_list_s, y_tuple_s, nn_s, y_int_b, y_bool_b, y_str_b, y_list_b, y_tuple_b, nn_b, y_int_l, y_bool_l, y_str_l, y_list_l, y_tuple_l, nn_l, y_int_t, y_bool_t, y_str_t, y_list_t, y_tuple_t, nn_t, y_int_n, y_bool_n, y_str_n, y_list_n, y_tuple_n, nn_n, tr_b, tr_i, tr_l, tr_t, a3_l, a3_t, sq_l, sq_t, au_add, au_sub, List.getElem?_cons_zero, List.getElem?_cons_succ, List.set_cons_zero, List.set_cons_succ, Option.map_some, Option.bind_some, if_true, if_false, Bool.false_eq_true, reduceIte, Exs.len, Nat.reduceAdd, Nat.reduceLeDiff, Nat.reduceLT, List.length_cons, List.length_nil, Nat.lt_add_left_iff_pos, Nat.zero_lt_succ, decide_true, decide_false, Bool.not_true, Bool.not_false, List.map_cons, List.map_nil, List.replicate, List.cons_append, List.nil_append, decide_eq_true_eq, Bool.not_eq_true', decide_eq_false_iff_not, Bool.and_eq_true, Bool.or_eq_true, or_self, or_false, false_or, or_true, true_or, and_true, true_and, and_self, not_false_eq_true, not_true_eq_false, ite_self, Int.reduceLT, i7, h]; rfl, rfl, by simp⟩
  · have hpos : 0 < ps.length := List.length_pos_iff.mpr h0
    have hne : ¬ (ps.length : Int) = 0 := by omega
    have hlt0 : (0 : Int) < (ps.length : Int) := by omega
    have hpl := Int.emod_nonneg (pk.getD 5 0) (show (ps.length : Int) ≠ 0 by omega)
    have hpl2 := Int.emod_lt_of_pos (pk.getD 5 0) hlt0
    obtain ⟨pl, epl⟩ : ∃ pl : Nat, pk.getD 5 0 % (ps.length : Int) = (pl : Int) := ⟨(pk.getD 5 0 % (ps.length : Int)).toNat, by omega⟩
    have hpl3 : pl < ps.length := by omega
    have ixp := ix_pr ps pl hpl3
    have hab := hord _ (List.getElem_mem hpl3)
    generalize ps[pl] = ab at ixp hab
    obtain ⟨a, b⟩ := ab
    have hab : a < b := hab
    have hm0 : 0 < b - a + 1 := by omega
    have o0 : (0 : Int) < 10 := by decide
    have g10 := Int.emod_nonneg (pk.getD 7 0) (show (10 : Int) ≠ 0 by decide)
    have g10' := Int.emod_lt_of_pos (pk.getD 7 0) o0
    obtain ⟨m, em⟩ : ∃ m : Nat, pk.getD 7 0 % 10 = (m : Int) := ⟨(pk.getD 7 0 % 10).toNat, by omega⟩
    have hm : m < 10 := by omega
    have key : ∃ l : List (Int × Int), l.length ≤ 2 ∧ L2.atI ((nwL a b (a + pk.getD 6 0 % (b - a + 1)) (1 + pk.getD 6 0 % 2) size).map fun l => PyData.list (l.map pr)) (m : Int) = some (.list (l.map pr)) := by
      have hlen : m < (nwL a b (a + pk.getD 6 0 % (b - a + 1)) (1 + pk.getD 6 0 % 2) size).length := hm
      have e := atI_nat ((nwL a b (a + pk.getD 6 0 % (b - a + 1)) (1 + pk.getD 6 0 % 2) size).map fun l => PyData.list (l.map pr)) m (by rw [List.length_map]; exact hlen)
      rw [List.getElem_map] at e
      refine ⟨_, ?_, e⟩
      have hall : ∀ l ∈ nwL a b (a + pk.getD 6 0 % (b - a + 1)) (1 + pk.getD 6 0 % 2) size, l.length ≤ 2 := by
        intro l hl
        simp only [nwL, List.mem_cons, List.not_mem_nil, or_false] at hl
        rcases hl with rfl | rfl | rfl | rfl | rfl | rfl | rfl | rfl | rfl | rfl <;> simp
      exact hall _ (List.getElem_mem hlen)
    obtain ⟨l, ll, el⟩ := key
    simp only [nwL, List.map_cons, List.map_nil, pr] at el
    have c1 := cut_len ps none (some (pl : Int))
    have c2 := cut_len ps (some ((pl : Int) + 1)) none
    have c3 := cut_len ps (some ((pl : Int) + 2)) none
    have z1 : (cut ps none (some (pl : Int))).length + l.length ≤ sizeLine := Nat.le_trans (by omega : _ ≤ 1000) (by decide)
    have z2 : (cut ps none (some (pl : Int))).length + l.length + (cut ps (some ((pl : Int) + 1)) none).length ≤ sizeLine := Nat.le_trans (by omega : _ ≤ 1000) (by decide)
    have z3 : (cut ps none (some (pl : Int))).length + l.length + (cut ps (some ((pl : Int) + 1)) none).length + 1 ≤ sizeLine := Nat.le_trans (by omega : _ ≤ 1000) (by decide)
    have z4 : (cut ps none (some (pl : Int))).length + 1 ≤ sizeLine := Nat.le_trans (by omega : _ ≤ 1000) (by decide)
    have z5 : (cut ps none (some (pl : Int))).length + 1 + (cut ps (some ((pl : Int) + 2)) none).length ≤ sizeLine := Nat.le_trans (by omega : _ ≤ 1000) (by decide)
    have z10 : 10 ≤ sizeLine := by decide
    by_cases h7 : pk.getD 8 0 % 8 = 7
    · refine ⟨cut ps none (some (pl : Int)) ++ l ++ cut ps (some ((pl : Int) + 1)) none ++ [(size, size + 1)], _, by
        simp only [f__law_changed, il, x_var, x_lit, x_op1, x_op2, x_sl, x_tup, x_lst, x_call, x_ite, x_andV, x_orV, x_notV, x_revL, x_comp, x_n, x_c, t_val, t_and, t_or, t_not, t_yes, i_seq, i_r1, i_r2, i_enum, i_zip, i_rev, s_asg, s_aug, s_app, s_setI, s_expr, s_if, s_whl, s_for, s_ret, s_retV, s_retN, s_brk, s_cont, s_pass, s_raise, s_try, q_n, q_c, b_ok, b_exc, b_bad, b_ite, u_ok, u_exc, u_bad, u_ite, o_some, o_none, q_nx, q_rt, q_bk, q_ct, q_exc, q_bad, q_ite, of_some, f_nx, f_rt, f_exc, f_ite, c_ok, c_exc, c_ite, an_t, an_b, or_b, no_b, rv_l, in_i, au_s, li_s, re_s, nx_s, en_l, zi_l, ri_l, tr_nx, tr_rt, tr_bk, tr_ct, tr_exc, tr_ite, rd_c, rd_s, pk_c, pk_f, pk_o, bo_var, bo_lit, op_lit, bo_glob, op_glob, bo_op1, op_op1, bo_op2, op_op2, bo_sl, op_sl, bo_tup, op_tup, bo_lst, op_lst, bo_call, op_call, bo_ite, op_ite, bo_andV, op_andV, bo_orV, op_orV, bo_notV, op_notV, bo_revL, op_revL, bo_comp, op_comp, op_var, op_abs, opR_i, g_var, g_tup, gs_n, gs_c, d_fz, d_ow, a_add, a_sub, a_lt, a_le, a_gt, a_ge, a_max, a_min, a_mul, a_fdiv, a_mod, a_pow, a_addl, a_addt, a_adds, a_mull, a_eqi, a_nei, a_ixl, a_ixt, a1_neg, a1_lenl, a1_lent, a1_lens, a1_listl, a1_listt, a1_tupl, a1_tupt, a1_int, a1_sum, a1_isN, a1_notN, y_int_i, y_bool_i, y_str_i, y_list_i, y_tuple_i, nn_i, y_int_s, y_bool_s, y_str_s, y_list_s, y_tuple_s, nn_s, y_int_b, y_bool_b, y_str_b, y_list_b, y_tuple_b, nn_b, y_int_l, y_bool_l, y_str_l, y_list_l, y_tuple_l, nn_l, y_int_t, y_bool_t, y_str_t, y_list_t, y_tuple_t, nn_t, y_int_n, y_bool_n, y_str_n, y_list_n, y_tuple_n, nn_n, tr_b, tr_i, tr_l, tr_t, a3_l, a3_t, sq_l, sq_t, au_add, au_sub, List.getElem?_cons_zero, List.getElem?_cons_succ, List.set_cons_zero, List.set_cons_succ, Option.map_some, Option.bind_some, if_true, if_false, Bool.false_eq_true, reduceIte, Exs.len, Nat.reduceAdd, Nat.reduceLeDiff, Nat.reduceLT, List.length_cons, List.length_nil, Nat.lt_add_left_iff_pos, Nat.zero_lt_succ, decide_true, decide_false, Bool.not_true, Bool.not_false, List.map_cons, List.map_nil, List.replicate, List.cons_append, List.nil_append, decide_eq_true_eq, Bool.not_eq_true', decide_eq_false_iff_not, Bool.and_eq_true, Bool.or_eq_true, or_self, or_false, false_or, or_true, true_or, and_true, true_and, and_self, not_false_eq_true, not_true_eq_false, ite_self, Int.reduceLT, i5, i6, i7, i8, hne, hlt0, List.length_map, epl, ixp, pr, ix0, ix1, hm0, em, el, cut_map, List.length_append, z10, z1, z2, z3, h7]
        rfl, by simp [pr, Cell.d], by simp; omega⟩
    · by_cases h6 : pk.getD 8 0 % 8 = 6 ∧ (pl : Int) + 1 < (ps.length : Int)
      · obtain ⟨h6, h6b⟩ := h6
        have ixq := ix_pr ps (pl + 1) (by omega)
        rw [Int.natCast_add] at ixq
        have e1 : ((1 : Nat) : Int) = 1 := rfl
        rw [e1] at ixq
        generalize ps[pl + 1] = cd at ixq
        obtain ⟨c, d⟩ := cd
        refine ⟨cut ps none (some (pl : Int)) ++ [(a, d)] ++ cut ps (some ((pl : Int) + 2)) none, _, by
          simp only [f__law_changed, il, x_var, x_lit, x_op1, x_op2, x_sl, x_tup, x_lst, x_call, x_ite, x_andV, x_orV, x_notV, x_revL, x_comp, x_n, x_c, t_val, t_and, t_or, t_not, t_yes, i_seq, i_r1, i_r2, i_enum, i_zip, i_rev, s_asg, s_aug, s_app, s_setI, s_expr, s_if, s_whl, s_for, s_ret, s_retV, s_retN, s_brk, s_cont, s_pass, s_raise, s_try, q_n, q_c, b_ok, b_exc, b_bad, b_ite, u_ok, u_exc, u_bad, u_ite, o_some, o_none, q_nx, q_rt, q_bk, q_ct, q_exc, q_bad, q_ite, of_some, f_nx, f_rt, f_exc, f_ite, c_ok, c_exc, c_ite, an_t, an_b, or_b, no_b, rv_l, in_i, au_s, li_s, re_s, nx_s, en_l, zi_l, ri_l, tr_nx, tr_rt, tr_bk, tr_ct, tr_exc, tr_ite, rd_c, rd_s, pk_c, pk_f, pk_o, bo_var, bo_lit, op_lit, bo_glob, op_glob, bo_op1, op_op1, bo_op2, op_op2, bo_sl, op_sl, bo_tup, op_tup, bo_lst, op_lst, bo_call, op_call, bo_ite, op_ite, bo_andV, op_andV, bo_orV, op_orV, bo_notV, op_notV, bo_revL, op_revL, bo_comp, op_comp, op_var, op_abs, opR_i, g_var, g_tup, gs_n, gs_c, d_fz, d_ow, a_add, a_sub, a_lt, a_le, a_gt, a_ge, a_max, a_min, a_mul, a_fdiv, a_mod, a_pow, a_addl, a_addt, a_adds, a_mull, a_eqi, a_nei, a_ixl, a_ixt, a1_neg, a1_lenl, a1_lent, a1_lens, a1_listl, a1_listt, a1_tupl, a1_tupt, a1_int, a1_sum, a1_isN, a1_notN, y_int_i, y_bool_i, y_str_i, y_list_i, y_tuple_i, nn_i, y_int_s, y_bool_s, y_str_s, y_list_s, y_tuple_s, nn_s, y_int_b, y_bool_b, y_str_b, y_list_b, y_tuple_b, nn_b, y_int_l, y_bool_l, y_str_l, y_list_l, y_tuple_l, nn_l, y_int_t, y_bool_t, y_str_t, y_list_t, y_tuple_t, nn_t, y_int_n, y_bool_n, y_str_n, y_list_n, y_tuple_n, nn_n, tr_b, tr_i, tr_l, tr_t, a3_l, a3_t, sq_l, sq_t, au_add, au_sub, List.getElem?_cons_zero, List.getElem?_cons_succ, List.set_cons_zero, List.set_cons_succ, Option.map_some, Option.bind_some, if_true, if_false, Bool.false_eq_true, reduceIte, Exs.len, Nat.reduceAdd, Nat.reduceLeDiff, Nat.reduceLT, List.length_cons, List.length_nil, Nat.lt_add_left_iff_pos, Nat.zero_lt_succ, decide_true, decide_false, Bool.not_true, Bool.not_false, List.map_cons, List.map_nil, List.replicate, List.cons_append, List.nil_append, decide_eq_true_eq, Bool.not_eq_true', decide_eq_false_iff_not, Bool.and_eq_true, Bool.or_eq_true, or_self, or_false, false_or, or_true, true_or, and_true, true_and, and_self, not_false_eq_true, not_true_eq_false, ite_self, Int.reduceLT, i5, i6, i7, i8, hne, hlt0, List.length_map, epl, ixp, ixq, pr, ix0, ix1, hm0, em, el, cut_map, List.length_append, z10, z1, z2, z4, z5, h7, h6, h6b]
          rfl, by simp [pr, Cell.d], by simp; omega⟩
      · have h6' : ¬ (pk.getD 8 0 % 8 = 6) ∨ ¬ ((pl : Int) + 1 < (ps.length : Int)) := by
          by_cases q : pk.getD 8 0 % 8 = 6
          · exact .inr fun z => h6 ⟨q, z⟩
          · exact .inl q
        by_cases h5 : pk.getD 8 0 % 8 = 5
        · refine ⟨(cut ps none (some (pl : Int)) ++ l ++ cut ps (some ((pl : Int) + 1)) none).reverse, _, by
            simp only [f__law_changed, il, x_var, x_lit, x_op1, x_op2, x_sl, x_tup, x_lst, x_call, x_ite, x_andV, x_orV, x_notV, x_revL, x_comp, x_n, x_c, t_val, t_and, t_or, t_not, t_yes, i_seq, i_r1, i_r2, i_enum, i_zip, i_rev, s_asg, s_aug, s_app, s_setI, s_expr, s_if, s_whl, s_for, s_ret, s_retV, s_retN, s_brk, s_cont, s_pass, s_raise, s_try, q_n, q_c, b_ok, b_exc, b_bad, b_ite, u_ok, u_exc, u_bad, u_ite, o_some, o_none, q_nx, q_rt, q_bk, q_ct, q_exc, q_bad, q_ite, of_some, f_nx, f_rt, f_exc, f_ite, c_ok, c_exc, c_ite, an_t, an_b, or_b, no_b, rv_l, in_i, au_s, li_s, re_s, nx_s, en_l, zi_l, ri_l, tr_nx, tr_rt, tr_bk, tr_ct, tr_exc, tr_ite, rd_c, rd_s, pk_c, pk_f, pk_o, bo_var, bo_lit, op_lit, bo_glob, op_glob, bo_op1, op_op1, bo_op2, op_op2, bo_sl, op_sl, bo_tup, op_tup, bo_lst, op_lst, bo_call, op_call, bo_ite, op_ite, bo_andV, op_andV, bo_orV, op_orV, bo_notV, op_notV, bo_revL, op_revL, bo_comp, op_comp, op_var, op_abs, opR_i, g_var, g_tup, gs_n, gs_c, d_fz, d_ow, a_add, a_sub, a_lt, a_le, a_gt, a_ge, a_max, a_min, a_mul, a_fdiv, a_mod, a_pow, a_addl, a_addt, a_adds, a_mull, a_eqi, a_nei, a_ixl, a_ixt, a1_neg, a1_lenl, a1_lent, a1_lens, a1_listl, a1_listt, a1_tupl, a1_tupt, a1_int, a1_sum, a1_isN, a1_notN, y_int_i, y_bool_i, y_str_i, y_list_i, y_tuple_i, nn_i, y_int_s, y_bool_s, y_str_s, y_list_s, y_tuple_s, nn_s, y_int_b, y_bool_b, y_str_b, y_list_b, y_tuple_b, nn_b, y_int_l, y_bool_l, y_str_l, y_list_l, y_tuple_l, nn_l, y_int_t, y_bool_t, y_str_t, y_list_t, y_tuple_t, nn_t, y_int_n, y_bool_n, y_str_n, y_list_n, y_tuple_n, nn_n, tr_b, tr_i, tr_l, tr_t, a3_l, a3_t, sq_l, sq_t, au_add, au_sub, List.getElem?_cons_zero, List.getElem?_cons_succ, List.set_cons_zero, List.set_cons_succ, Option.map_some, Option.bind_some, if_true, if_false, Bool.false_eq_true, reduceIte, Exs.len, Nat.reduceAdd, Nat.reduceLeDiff, Nat.reduceLT, List.length_cons, List.length_nil, Nat.lt_add_left_iff_pos, Nat.zero_lt_succ, decide_true, decide_false, Bool.not_true, Bool.not_false, List.map_cons, List.map_nil, List.replicate, List.cons_append, List.nil_append, decide_eq_true_eq, Bool.not_eq_true', decide_eq_false_iff_not, Bool.and_eq_true, Bool.or_eq_true, or_self, or_false, false_or, or_true, true_or, and_true, true_and, and_self, not_false_eq_true, not_true_eq_false, ite_self, Int.reduceLT, i5, i6, i7, i8, hne, hlt0, List.length_map, epl, ixp, pr, ix0, ix1, hm0, em, el, cut_map, List.length_append, z10, z1, z2, h7, h5]
            simp
            try rfl, by simp [pr, Cell.d], by simp; omega⟩
        · refine ⟨cut ps none (some (pl : Int)) ++ l ++ cut ps (some ((pl : Int) + 1)) none, _, by
            rcases h6' with h6' | h6'
            · simp only [f__law_changed, il, x_var, x_lit, x_op1, x_op2, x_sl, x_tup, x_lst, x_call, x_ite, x_andV, x_orV, x_notV, x_revL, x_comp, x_n, x_c, t_val, t_and, t_or, t_not, t_yes, i_seq, i_r1, i_r2, i_enum, i_zip, i_rev, s_asg, s_aug, s_app, s_setI, s_expr, s_if, s_whl, s_for, s_ret, s_retV, s_retN, s_brk, s_cont, s_pass, s_raise, s_try, q_n, q_c, b_ok, b_exc, b_bad, b_ite, u_ok, u_exc, u_bad, u_ite, o_some, o_none, q_nx, q_rt, q_bk, q_ct, q_exc, q_bad, q_ite, of_some, f_nx, f_rt, f_exc, f_ite, c_ok, c_exc, c_ite, an_t, an_b, or_b, no_b, rv_l, in_i, au_s, li_s, re_s, nx_s, en_l, zi_l, ri_l, tr_nx, tr_rt, tr_bk, tr_ct, tr_exc, tr_ite, rd_c, rd_s, pk_c, pk_f, pk_o, bo_var, bo_lit, op_lit, bo_glob, op_glob, bo_op1, op_op1, bo_op2, op_op2, bo_sl, op_sl, bo_tup, op_tup, bo_lst, op_lst, bo_call, op_call, bo_ite, op_ite, bo_andV, op_andV, bo_orV, op_orV, bo_notV, op_notV, bo_revL, op_revL, bo_comp, op_comp, op_var, op_abs, opR_i, g_var, g_tup, gs_n, gs_c, d_fz, d_ow, a_add, a_sub, a_lt, a_le, a_gt, a_ge, a_max, a_min, a_mul, a_fdiv, a_mod, a_pow, a_addl, a_addt, a_adds, a_mull, a_eqi, a_nei, a_ixl, a_ixt, a1_neg, a1_lenl, a1_lent, a1_lens, a1_listl, a1_listt, a1_tupl, a1_tupt, a1_int, a1_sum, a1_isN, a1_notN, y_int_i, y_bool_i, y_str_i, y_list_i, y_tuple_i, nn_i, y_int_s, y_bool_s, y_str_s, y_list_s, y_tuple_s, nn_s, y_int_b, y_bool_b, y_str_b, y_list_b, y_tuple_b, nn_b, y_int_l, y_bool_l, y_str_l, y_list_l, y_tuple_l, nn_l, y_int_t, y_bool_t, y_str_t, y_list_t, y_tuple_t, nn_t, y_int_n, y_bool_n, y_str_n, y_list_n, y_tuple_n, nn_n, tr_b, tr_i, tr_l, tr_t, a3_l, a3_t, sq_l, sq_t, au_add, au_sub, List.getElem?_cons_zero, List.getElem?_cons_succ, List.set_cons_zero, List.set_cons_succ, Option.map_some, Option.bind_some, if_true, if_false, Bool.false_eq_true, reduceIte, Exs.len, Nat.reduceAdd, Nat.reduceLeDiff, Nat.reduceLT, List.length_cons, List.length_nil, Nat.lt_add_left_iff_pos, Nat.zero_lt_succ, decide_true, decide_false, Bool.not_true, Bool.not_false, List.map_cons, List.map_nil, List.replicate, List.cons_append, List.nil_append, decide_eq_true_eq, Bool.not_eq_true', decide_eq_false_iff_not, Bool.and_eq_true, Bool.or_eq_true, or_self, or_false, false_or, or_true, true_or, and_true, true_and, and_self, not_false_eq_true, not_true_eq_false, ite_self, Int.reduceLT, i5, i6, i7, i8, hne, hlt0, List.length_map, epl, ixp, pr, ix0, ix1, hm0, em, el, cut_map, List.length_append, z10, z1, z2, h7, h5, h6']
              try rfl
            · by_cases q6 : pk.getD 8 0 % 8 = 6
              · simp only [f__law_changed, il, x_var, x_lit, x_op1, x_op2, x_sl, x_tup, x_lst, x_call, x_ite, x_andV, x_orV, x_notV, x_revL, x_comp, x_n, x_c, t_val, t_and, t_or, t_not, t_yes, i_seq, i_r1, i_r2, i_enum, i_zip, i_rev, s_asg, s_aug, s_app, s_setI, s_expr, s_if, s_whl, s_for, s_ret, s_retV, s_retN, s_brk, s_cont, s_pass, s_raise, s_try, q_n, q_c, b_ok, b_exc, b_bad, b_ite, u_ok, u_exc, u_bad, u_ite, o_some, o_none, q_nx, q_rt, q_bk, q_ct, q_exc, q_bad, q_ite, of_some, f_nx, f_rt, f_exc, f_ite, c_ok, c_exc, c_ite, an_t, an_b, or_b, no_b, rv_l, in_i, au_s, li_s, re_s, nx_s, en_l, zi_l, ri_l, tr_nx, tr_rt, tr_bk, tr_ct, tr_exc, tr_ite, rd_c, rd_s, pk_c, pk_f, pk_o, bo_var, bo_lit, op_lit, bo_glob, op_glob, bo_op1, op_op1, bo_op2, op_op2, bo_sl, op_sl, bo_tup, op_tup, bo_lst, op_lst, bo_call, op_call, bo_ite, op_ite, bo_andV, op_andV, bo_orV, op_orV, bo_notV, op_notV, bo_revL, op_revL, bo_comp, op_comp, op_var, op_abs, opR_i, g_var, g_tup, gs_n, gs_c, d_fz, d_ow, a_add, a_sub, a_lt, a_le, a_gt, a_ge, a_max, a_min, a_mul, a_fdiv, a_mod, a_pow, a_addl, a_addt, a_adds, a_mull, a_eqi, a_nei, a_ixl, a_ixt, a1_neg, a1_lenl, a1_lent, a1_lens, a1_listl, a1_listt, a1_tupl, a1_tupt, a1_int, a1_sum, a1_isN, a1_notN, y_int_i, y_bool_i, y_str_i, y_list_i, y_tuple_i, nn_i, y_int_s, y_bool_s, y_str_s, y_list_s, y_tuple_s, nn_s, y_int_b, y_bool_b, y_str_b, y_list_b, y_tuple_b, nn_b, y_int_l, y_bool_l, y_str_l, y_list_l, y_tuple_l, nn_l, y_int_t, y_bool_t, y_str_t, y_list_t, y_tuple_t, nn_t, y_int_n, y_bool_n, y_str_n, y_list_n, y_tuple_n, nn_n, tr_b, tr_i, tr_l, tr_t, a3_l, a3_t, sq_l, sq_t, au_add, au_sub, List.getElem?_cons_zero, List.getElem?_cons_succ, List.set_cons_zero, List.set_cons_succ, Option.map_some, Option.bind_some, if_true, if_false, Bool.false_eq_true, reduceIte, Exs.len, Nat.reduceAdd, Nat.reduceLeDiff, Nat.reduceLT, List.length_cons, List.length_nil, Nat.lt_add_left_iff_pos, Nat.zero_lt_succ, decide_true, decide_false, Bool.not_true, Bool.not_false, List.map_cons, List.map_nil, List.replicate, List.cons_append, List.nil_append, decide_eq_true_eq, Bool.not_eq_true', decide_eq_false_iff_not, Bool.and_eq_true, Bool.or_eq_true, or_self, or_false, false_or, or_true, true_or, and_true, true_and, and_self, not_false_eq_true, not_true_eq_false, ite_self, Int.reduceLT, i5, i6, i7, i8, hne, hlt0, List.length_map, epl, ixp, pr, ix0, ix1, hm0, em, el, cut_map, List.length_append, z10, z1, z2, h7, h5, h6', q6]
                try rfl
              · simp only [f__law_changed, il, x_var, x_lit, x_op1, x_op2, x_sl, x_tup, x_lst, x_call, x_ite, x_andV, x_orV, x_notV, x_revL, x_comp, x_n, x_c, t_val, t_and, t_or, t_not, t_yes, i_seq, i_r1, i_r2, i_enum, i_zip, i_rev, s_asg, s_aug, s_app, s_setI, s_expr, s_if, s_whl, s_for, s_ret, s_retV, s_retN, s_brk, s_cont, s_pass, s_raise, s_try, q_n, q_c, b_ok, b_exc, b_bad, b_ite, u_ok, u_exc, u_bad, u_ite, o_some, o_none, q_nx, q_rt, q_bk, q_ct, q_exc, q_bad, q_ite, of_some, f_nx, f_rt, f_exc, f_ite, c_ok, c_exc, c_ite, an_t, an_b, or_b, no_b, rv_l, in_i, au_s, li_s, re_s, nx_s, en_l, zi_l, ri_l, tr_nx, tr_rt, tr_bk, tr_ct, tr_exc, tr_ite, rd_c, rd_s, pk_c, pk_f, pk_o, bo_var, bo_lit, op_lit, bo_glob, op_glob, bo_op1, op_op1, bo_op2, op_op2, bo_sl, op_sl, bo_tup, op_tup, bo_lst, op_lst, bo_call, op_call, bo_ite, op_ite, bo_andV, op_andV, bo_orV, op_orV, bo_notV, op_notV, bo_revL, op_revL, bo_comp, op_comp, op_var, op_abs, opR_i, g_var, g_tup, gs_n, gs_c, d_fz, d_ow, a_add, a_sub, a_lt, a_le, a_gt, a_ge, a_max, a_min, a_mul, a_fdiv, a_mod, a_pow, a_addl, a_addt, a_adds, a_mull, a_eqi, a_nei, a_ixl, a_ixt, a1_neg, a1_lenl, a1_lent, a1_lens, a1_listl, a1_listt, a1_tupl, a1_tupt, a1_int, a1_sum, a1_isN, a1_notN, y_int_i, y_bool_i, y_str_i, y_list_i, y_tuple_i, nn_i, y_int_s, y_bool_s, y_str_s, y_list_s, y_tuple_s, nn_s, y_int_b, y_bool_b, y_str_b, y_list_b, y_tuple_b, nn_b, y_int_l, y_bool_l, y_str_l, y_list_l, y_tuple_l, nn_l, y_int_t, y_bool_t, y_str_t, y_list_t, y_tuple_t, nn_t, y_int_n, y_bool_n, y_str_n, y_list_n, y_tuple_n, nn_n, tr_b, tr_i, tr_l, tr_t, a3_l, a3_t, sq_l, sq_t, au_add, au_sub, List.getElem?_cons_zero, List.getElem?_cons_succ, List.set_cons_zero, List.set_cons_succ, Option.map_some, Option.bind_some, if_true, if_false, Bool.false_eq_true, reduceIte, Exs.len, Nat.reduceAdd, Nat.reduceLeDiff, Nat.reduceLT, List.length_cons, List.length_nil, Nat.lt_add_left_iff_pos, Nat.zero_lt_succ, decide_true, decide_false, Bool.not_true, Bool.not_false, List.map_cons, List.map_nil, List.replicate, List.cons_append, List.nil_append, decide_eq_true_eq, Bool.not_eq_true', decide_eq_false_iff_not, Bool.and_eq_true, Bool.or_eq_true, or_self, or_false, false_or, or_true, true_or, and_true, true_and, and_self, not_false_eq_true, not_true_eq_false, ite_self, Int.reduceLT, i5, i6, i7, i8, hne, hlt0, List.length_map, epl, ixp, pr, ix0, ix1, hm0, em, el, cut_map, List.length_append, z10, z1, z2, h7, h5, h6', q6]
                first | rfl | done, by simp [pr, Cell.d], by simp; omega⟩
end PD.K55

end

section
set_option Elab.async false
set_option linter.all false
set_option maxRecDepth 100000
namespace PD.K55
open PySem
/-- what the law tells of a refusal -/
def refD (x : Exc) : D := match x.ds with
  | [d] => .tuple [.str (if x.k = 1 then Str.ofString "BadNumber" else Str.ofString "TooMany"), d]
  | _ => .none
def hds : List Hd := [.retTup [1] (some 4) [.lit (.str (Str.ofString "BadNumber")), .fld 0], .retTup [2] (some 5) [.lit (.str (Str.ofString "TooMany")), .fld 0]]
theorem hd1 (v : D) (e : Env) : handle ⟨1, [v]⟩ e hds = .rt (.fz (.tuple [.str (Str.ofString "BadNumber"), v])) := rfl
theorem hd2 (v : D) (e : Env) : handle ⟨2, [v]⟩ e hds = .rt (.fz (.tuple [.str (Str.ofString "TooMany"), v])) := rfl
theorem chk_form {ns : List Int} {room : Int} {x : Exc} (h : chk ns room = some x) : ∃ v : Int, x = ⟨1, [.int v]⟩ ∨ x = ⟨2, [.int v]⟩ := by
  unfold chk at h
  split at h
  · cases h; exact ⟨_, .inl rfl⟩
  · split at h
    · cases h; exact ⟨_, .inr rfl⟩
    · split at h
      · cases h; exact ⟨_, .inl rfl⟩
      · cases h
theorem hd_any {ns : List Int} {room : Int} {x : Exc} (h : chk ns room = some x) (e : Env) : handle x e hds = .rt (.fz (refD x)) := by
  obtain ⟨v, rfl | rfl⟩ := chk_form h
  · exact hd1 _ e
  · exact hd2 _ e
theorem r_asked_no (n : Nat) (num : Nat) (hn : num < 5) (ns : List Int) (room carriers : Int) {x : Exc} (h : chk ns room = some x) : runF cfg (n + 5) 15 [.int (num : Int), il ns, .int room, .int carriers] = .ok (.fz (refD x)) := by
  rw [run_at (show cfg.funs[15]? = some f__law_asked from rfl) rfl]
  have hh : ∀ e, handle x e _ = .rt (.fz (refD x)) := hd_any h
  simp only [hds] at hh
  have r0 := r_spread (n + 2) ns room
  have r1 := r_windows (n + 1) ns room
  have r2 := r_fits n ns room carriers
  have r3 := r_is_spread (n + 2) ns room carriers [(0, 1)]
  have r4 := r_few (n + 2) ns room carriers [(0, 2)]
  rw [h] at r0 r1 r2 r3 r4
  simp only [il, asFR, List.map_cons, List.map_nil, pr] at r0 r1 r2 r3 r4
  have c : num = 0 ∨ num = 1 ∨ num = 2 ∨ num = 3 ∨ num = 4 := by omega
  rcases c with rfl | rfl | rfl | rfl | rfl
  · simp only [f__law_asked, il, x_var, x_lit, x_op1, x_op2, x_sl, x_tup, x_lst, x_call, x_ite, x_andV, x_orV, x_notV, x_revL, x_comp, x_n, x_c, t_val, t_and, t_or, t_not, t_yes, i_seq, i_r1, i_r2, i_enum, i_zip, i_rev, s_asg, s_aug, s_app, s_setI, s_expr, s_if, s_whl, s_for, s_ret, s_retV, s_retN, s_brk, s_cont, s_pass, s_raise, s_try, q_n, q_c, b_ok, b_exc, b_bad, b_ite, u_ok, u_exc, u_bad, u_ite, o_some, o_none, q_nx, q_rt, q_bk, q_ct, q_exc, q_bad, q_ite, of_some, f_nx, f_rt, f_exc, f_ite, c_ok, c_exc, c_ite, an_t, an_b, or_b, no_b, rv_l, in_i, au_s, li_s, re_s, nx_s, en_l, zi_l, ri_l, tr_nx, tr_rt, tr_bk, tr_ct, tr_exc, tr_ite, rd_c, rd_s, pk_c, pk_f, pk_o, bo_var, bo_lit, op_lit, bo_glob, op_glob, bo_op1, op_op1, bo_op2, op_op2, bo_sl, op_sl, bo_tup, op_tup, bo_lst, op_lst, bo_call, op_call, bo_ite, op_ite, bo_andV, op_andV, bo_orV, op_orV, bo_notV, op_notV, bo_revL, op_revL, bo_comp, op_comp, op_var, op_abs, opR_i, g_var, g_tup, gs_n, gs_c, d_fz, d_ow, a_add, a_sub, a_lt, a_le, a_gt, a_ge, a_max, a_min, a_mul, a_fdiv, a_mod, a_pow, a_addl, a_addt, a_adds, a_mull, a_eqi, a_nei, a_ixl, a_ixt, a1_neg, a1_lenl, a1_lent, a1_lens, a1_listl, a1_listt, a1_tupl, a1_tupt, a1_int, a1_sum, a1_isN, a1_notN, y_int_i, y_bool_i, y_str_i, y_list_i, y_tuple_i, nn_i, y_int_s, y_bool_s, y_str_s, y_list_s, y_tuple_s, nn_s, y_int_b, y_bool_b, y_str_b, y_list_b, y_tuple_b, nn_b, y_int_l, y_bool_l, y_str_l, y_list_l, y_tuple_l, nn_l, y_int_t, y_bool_t, y_str_t, y_list_t, y_tuple_t, nn_t, y_int_n, y_bool_n, y_str_n, y_list_n, y_tuple_n, nn_n, tr_b, tr_i, tr_l, tr_t, a3_l, a3_t, sq_l, sq_t, au_add, au_sub, List.getElem?_cons_zero, List.getElem?_cons_succ, List.set_cons_zero, List.set_cons_succ, Option.map_some, Option.bind_some, if_true, if_false, Bool.false_eq_true, reduceIte, Exs.len, Nat.reduceAdd, Nat.reduceLeDiff, Nat.reduceLT, List.length_cons, List.length_nil, Nat.lt_add_left_iff_pos, Nat.zero_lt_succ, decide_true, decide_false, Bool.not_true, Bool.not_false, List.map_cons, List.map_nil, List.replicate, List.cons_append, List.nil_append, decide_eq_true_eq, Bool.not_eq_true', decide_eq_false_iff_not, Bool.and_eq_true, Bool.or_eq_true, or_self, or_false, false_or, or_true, true_or, and_true, true_and, and_self, not_false_eq_true, not_true_eq_false, ite_self, r0, hh, Int.natCast_zero]
  · have e : ((1 : Nat) : Int) = 1 := rfl
    simp only [f__law_asked, il, x_var, x_lit, x_op1, x_op2, x_sl, x_tup, x_lst, x_call, x_ite, x_andV, x_orV, x_notV, x_revL, x_comp, x_n, x_c, t_val, t_and, t_or, t_not, t_yes, i_seq, i_r1, i_r2, i_enum, i_zip, i_rev, s_asg, s_aug, s_app, s_setI, s_expr, s_if, s_whl, s_for, s_ret, s_retV, s_retN, s_brk, s_cont, s_pass, s_raise, s_try, q_n, q_c, b_ok, b_exc, b_bad, b_ite, u_ok, u_exc, u_bad, u_ite, o_some, o_none, q_nx, q_rt, q_bk, q_ct, q_exc, q_bad, q_ite, of_some, f_nx, f_rt, f_exc, f_ite, c_ok, c_exc, c_ite, an_t, an_b, or_b, no_b, rv_l, in_i, au_s, li_s, re_s, nx_s, en_l, zi_l, ri_l, tr_nx, tr_rt, tr_bk, tr_ct, tr_exc, tr_ite, rd_c, rd_s, pk_c, pk_f, pk_o, bo_var, bo_lit, op_lit, bo_glob, op_glob, bo_op1, op_op1, bo_op2, op_op2, bo_sl, op_sl, bo_tup, op_tup, bo_lst, op_lst, bo_call, op_call, bo_ite, op_ite, bo_andV, op_andV, bo_orV, op_orV, bo_notV, op_notV, bo_revL, op_revL, bo_comp, op_comp, op_var, op_abs, opR_i, g_var, g_tup, gs_n, gs_c, d_fz, d_ow, a_add, a_sub, a_lt, a_le, a_gt, a_ge, a_max, a_min, a_mul, a_fdiv, a_mod, a_pow, a_addl, a_addt, a_adds, a_mull, a_eqi, a_nei, a_ixl, a_ixt, a1_neg, a1_lenl, a1_lent, a1_lens, a1_listl, a1_listt, a1_tupl, a1_tupt, a1_int, a1_sum, a1_isN, a1_notN, y_int_i, y_bool_i, y_str_i, y_list_i, y_tuple_i, nn_i, y_int_s, y_bool_s, y_str_s, y_list_s, y_tuple_s, nn_s, y_int_b, y_bool_b, y_str_b, y_list_b, y_tuple_b, nn_b, y_int_l, y_bool_l, y_str_l, y_list_l, y_tuple_l, nn_l, y_int_t, y_bool_t, y_str_t, y_list_t, y_tuple_t, nn_t, y_int_n, y_bool_n, y_str_n, y_list_n, y_tuple_n, nn_n, tr_b, tr_i, tr_l, tr_t, a3_l, a3_t, sq_l, sq_t, au_add, au_sub, List.getElem?_cons_zero, List.getElem?_cons_succ, List.set_cons_zero, List.set_cons_succ, Option.map_some, Option.bind_some, if_true, if_false, Bool.false_eq_true, reduceIte, Exs.len, Nat.reduceAdd, Nat.reduceLeDiff, Nat.reduceLT, List.length_cons, List.length_nil, Nat.lt_add_left_iff_pos, Nat.zero_lt_succ, decide_true, decide_false, Bool.not_true, Bool.not_false, List.map_cons, List.map_nil, List.replicate, List.cons_append, List.nil_append, decide_eq_true_eq, Bool.not_eq_true', decide_eq_false_iff_not, Bool.and_eq_true, Bool.or_eq_true, or_self, or_false, false_or, or_true, true_or, and_true, true_and, and_self, not_false_eq_true, not_true_eq_false, ite_self, r1, hh, e, Int.reduceEq]
  · have e : ((2 : Nat) : Int) = 2 := rfl
    simp only [f__law_asked, il, x_var, x_lit, x_op1, x_op2, x_sl, x_tup, x_lst, x_call, x_ite, x_andV, x_orV, x_notV, x_revL, x_comp, x_n, x_c, t_val, t_and, t_or, t_not, t_yes, i_seq, i_r1, i_r2, i_enum, i_zip, i_rev, s_asg, s_aug, s_app, s_setI, s_expr, s_if, s_whl, s_for, s_ret, s_retV, s_retN, s_brk, s_cont, s_pass, s_raise, s_try, q_n, q_c, b_ok, b_exc, b_bad, b_ite, u_ok, u_exc, u_bad, u_ite, o_some, o_none, q_nx, q_rt, q_bk, q_ct, q_exc, q_bad, q_ite, of_some, f_nx, f_rt, f_exc, f_ite, c_ok, c_exc, c_ite, an_t, an_b, or_b, no_b, rv_l, in_i, au_s, li_s, re_s, nx_s, en_l, zi_l, ri_l, tr_nx, tr_rt, tr_bk, tr_ct, tr_exc, tr_ite, rd_c, rd_s, pk_c, pk_f, pk_o, bo_var, bo_lit, op_lit, bo_glob, op_glob, bo_op1, op_op1, bo_op2, op_op2, bo_sl, op_sl, bo_tup, op_tup, bo_lst, op_lst, bo_call, op_call, bo_ite, op_ite, bo_andV, op_andV, bo_orV, op_orV, bo_notV, op_notV, bo_revL, op_revL, bo_comp, op_comp, op_var, op_abs, opR_i, g_var, g_tup, gs_n, gs_c, d_fz, d_ow, a_add, a_sub, a_lt, a_le, a_gt, a_ge, a_max, a_min, a_mul, a_fdiv, a_mod, a_pow, a_addl, a_addt, a_adds, a_mull, a_eqi, a_nei, a_ixl, a_ixt, a1_neg, a1_lenl, a1_lent, a1_lens, a1_listl, a1_listt, a1_tupl, a1_tupt, a1_int, a1_sum, a1_isN, a1_notN, y_int_i, y_bool_i, y_str_i, y_list_i, y_tuple_i, nn_i, y_int_s, y_bool_s, y_str_s, y_list_s, y_tuple_s, nn_s, y_int_b, y_bool_b, y_str_b, y_list_b, y_tuple_b, nn_b, y_int_l, y_bool_l, y_str_l, y_list_l, y_tuple_l, nn_l, y_int_t, y_bool_t, y_str_t, y_list_t, y_tuple_t, nn_t, y_int_n, y_bool_n, y_str_n, y_list_n, y_tuple_n, nn_n, tr_b, tr_i, tr_l, tr_t, a3_l, a3_t, sq_l, sq_t, au_add, au_sub, List.getElem?_cons_zero, List.getElem?_cons_succ, List.set_cons_zero, List.set_cons_succ, Option.map_some, Option.bind_some, if_true, if_false, Bool.false_eq_true, reduceIte, Exs.len, Nat.reduceAdd, Nat.reduceLeDiff, Nat.reduceLT, List.length_cons, List.length_nil, Nat.lt_add_left_iff_pos, Nat.zero_lt_succ, decide_true, decide_false, Bool.not_true, Bool.not_false, List.map_cons, List.map_nil, List.replicate, List.cons_append, List.nil_append, decide_eq_true_eq, Bool.not_eq_true', decide_eq_false_iff_not, Bool.and_eq_true, Bool.or_eq_true, or_self, or_false, false_or, or_true, true_or, and_true, true_and, and_self, not_false_eq_true, not_true_eq_false, ite_self, r2, hh, e, Int.reduceEq]
  · have e : ((3 : Nat) : Int) = 3 := rfl
    simp only [f__law_asked, il, x_var, x_lit, x_op1, x_op2, x_sl, x_tup, x_lst, x_call, x_ite, x_andV, x_orV, x_notV, x_revL, x_comp, x_n, x_c, t_val, t_and, t_or, t_not, t_yes, i_seq, i_r1, i_r2, i_enum, i_zip, i_rev, s_asg, s_aug, s_app, s_setI, s_expr, s_if, s_whl, s_for, s_ret, s_retV, s_retN, s_brk, s_cont, s_pass, s_raise, s_try, q_n, q_c, b_ok, b_exc, b_bad, b_ite, u_ok, u_exc, u_bad, u_ite, o_some, o_none, q_nx, q_rt, q_bk, q_ct, q_exc, q_bad, q_ite, of_some, f_nx, f_rt, f_exc, f_ite, c_ok, c_exc, c_ite, an_t, an_b, or_b, no_b, rv_l, in_i, au_s, li_s, re_s, nx_s, en_l, zi_l, ri_l, tr_nx, tr_rt, tr_bk, tr_ct, tr_exc, tr_ite, rd_c, rd_s, pk_c, pk_f, pk_o, bo_var, bo_lit, op_lit, bo_glob, op_glob, bo_op1, op_op1, bo_op2, op_op2, bo_sl, op_sl, bo_tup, op_tup, bo_lst, op_lst, bo_call, op_call, bo_ite, op_ite, bo_andV, op_andV, bo_orV, op_orV, bo_notV, op_notV, bo_revL, op_revL, bo_comp, op_comp, op_var, op_abs, opR_i, g_var, g_tup, gs_n, gs_c, d_fz, d_ow, a_add, a_sub, a_lt, a_le, a_gt, a_ge, a_max, a_min, a_mul, a_fdiv, a_mod, a_pow, a_addl, a_addt, a_adds, a_mull, a_eqi, a_nei, a_ixl, a_ixt, a1_neg, a1_lenl, a1_lent, a1_lens, a1_listl, a1_listt, a1_tupl, a1_tupt, a1_int, a1_sum, a1_isN, a1_notN, y_int_i, y_bool_i, y_str_i, y_list_i, y_tuple_i, nn_i, y_int_s, y_bool_s, y_str_s, y_list_s, y_tuple_s, nn_s, y_int_b, y_bool_b, y_str_b, y_list_b, y_tuple_b, nn_b, y_int_l, y_bool_l, y_str_l, y_list_l, y_tuple_l, nn_l, y_int_t, y_bool_t, y_str_t, y_list_t, y_tuple_t, nn_t, y_int_n, y_bool_n, y_str_n, y_list_n, y_tuple_n, nn_n, tr_b, tr_i, tr_l, tr_t, a3_l, a3_t, sq_l, sq_t, au_add, au_sub, List.getElem?_cons_zero, List.getElem?_cons_succ, List.set_cons_zero, List.set_cons_succ, Option.map_some, Option.bind_some, if_true, if_false, Bool.false_eq_true, reduceIte, Exs.len, Nat.reduceAdd, Nat.reduceLeDiff, Nat.reduceLT, List.length_cons, List.length_nil, Nat.lt_add_left_iff_pos, Nat.zero_lt_succ, decide_true, decide_false, Bool.not_true, Bool.not_false, List.map_cons, List.map_nil, List.replicate, List.cons_append, List.nil_append, decide_eq_true_eq, Bool.not_eq_true', decide_eq_false_iff_not, Bool.and_eq_true, Bool.or_eq_true, or_self, or_false, false_or, or_true, true_or, and_true, true_and, and_self, not_false_eq_true, not_true_eq_false, ite_self, r3, hh, e, Int.reduceEq]
  · have e : ((4 : Nat) : Int) = 4 := rfl
    simp only [f__law_asked, il, x_var, x_lit, x_op1, x_op2, x_sl, x_tup, x_lst, x_call, x_ite, x_andV, x_orV, x_notV, x_revL, x_comp, x_n, x_c, t_val, t_and, t_or, t_not, t_yes, i_seq, i_r1, i_r2, i_enum, i_zip, i_rev, s_asg, s_aug, s_app, s_setI, s_expr, s_if, s_whl, s_for, s_ret, s_retV, s_retN, s_brk, s_cont, s_pass, s_raise, s_try, q_n, q_c, b_ok, b_exc, b_bad, b_ite, u_ok, u_exc, u_bad, u_ite, o_some, o_none, q_nx, q_rt, q_bk, q_ct, q_exc, q_bad, q_ite, of_some, f_nx, f_rt, f_exc, f_ite, c_ok, c_exc, c_ite, an_t, an_b, or_b, no_b, rv_l, in_i, au_s, li_s, re_s, nx_s, en_l, zi_l, ri_l, tr_nx, tr_rt, tr_bk, tr_ct, tr_exc, tr_ite, rd_c, rd_s, pk_c, pk_f, pk_o, bo_var, bo_lit, op_lit, bo_glob, op_glob, bo_op1, op_op1, bo_op2, op_op2, bo_sl, op_sl, bo_tup, op_tup, bo_lst, op_lst, bo_call, op_call, bo_ite, op_ite, bo_andV, op_andV, bo_orV, op_orV, bo_notV, op_notV, bo_revL, op_revL, bo_comp, op_comp, op_var, op_abs, opR_i, g_var, g_tup, gs_n, gs_c, d_fz, d_ow, a_add, a_sub, a_lt, a_le, a_gt, a_ge, a_max, a_min, a_mul, a_fdiv, a_mod, a_pow, a_addl, a_addt, a_adds, a_mull, a_eqi, a_nei, a_ixl, a_ixt, a1_neg, a1_lenl, a1_lent, a1_lens, a1_listl, a1_listt, a1_tupl, a1_tupt, a1_int, a1_sum, a1_isN, a1_notN, y_int_i, y_bool_i, y_str_i, y_list_i, y_tuple_i, nn_i, y_int_s, y_bool_s, y_str_s, y_list_s, y_tuple_s, nn_s, y_int_b, y_bool_b, y_str_b, y_list_b, y_tuple_b, nn_b, y_int_l, y_bool_l, y_str_l, y_list_l, y_tuple_l, nn_l, y_int_t, y_bool_t, y_str_t, y_list_t, y_tuple_t, nn_t, y_int_n, y_bool_n, y_str_n, y_list_n, y_tuple_n, nn_n, tr_b, tr_i, tr_l, tr_t, a3_l, a3_t, sq_l, sq_t, au_add, au_sub, List.getElem?_cons_zero, List.getElem?_cons_succ, List.set_cons_zero, List.set_cons_succ, Option.map_some, Option.bind_some, if_true, if_false, Bool.false_eq_true, reduceIte, Exs.len, Nat.reduceAdd, Nat.reduceLeDiff, Nat.reduceLT, List.length_cons, List.length_nil, Nat.lt_add_left_iff_pos, Nat.zero_lt_succ, decide_true, decide_false, Bool.not_true, Bool.not_false, List.map_cons, List.map_nil, List.replicate, List.cons_append, List.nil_append, decide_eq_true_eq, Bool.not_eq_true', decide_eq_false_iff_not, Bool.and_eq_true, Bool.or_eq_true, or_self, or_false, false_or, or_true, true_or, and_true, true_and, and_self, not_false_eq_true, not_true_eq_false, ite_self, r4, hh, e, Int.reduceEq]
theorem r_asked2 (n : Nat) (ns : List Int) (room carriers : Int) (h : chk ns room = none) : runF cfg (n + 5) 15 [.int 2, il ns, .int room, .int carriers] =
    .ok (.fz (if carriers < 0 then .tuple [.str (Str.ofString "BadNumber"), .int carriers] else if ((spans room ns).length : Int) ≤ carriers then .tuple [.str (Str.ofString "told"), .tuple [.str (Str.ofString "spread"), .list ((spans room ns).map pr)]]
      else .tuple [.str (Str.ofString "told"), .tuple [.str (Str.ofString "windows"), .list ((cut (win (spans room ns)) none (some carriers)).map pr)]])) := by
  rw [run_at (show cfg.funs[15]? = some f__law_asked from rfl) rfl]
  have r2 := r_fits n ns room carriers
  rw [h] at r2
  have hh1 : ∀ v e, handle ⟨1, [v]⟩ e _ = _ := hd1
  simp only [hds] at hh1
  simp only [il] at r2
  by_cases h1 : carriers < 0
  · rw [if_pos h1] at r2
    simp only [f__law_asked, il, x_var, x_lit, x_op1, x_op2, x_sl, x_tup, x_lst, x_call, x_ite, x_andV, x_orV, x_notV, x_revL, x_comp, x_n, x_c, t_val, t_and, t_or, t_not, t_yes, i_seq, i_r1, i_r2, i_enum, i_zip, i_rev, s_asg, s_aug, s_app, s_setI, s_expr, s_if, s_whl, s_for, s_ret, s_retV, s_retN, s_brk, s_cont, s_pass, s_raise, s_try, q_n, q_c, b_ok, b_exc, b_bad, b_ite, u_ok, u_exc, u_bad, u_ite, o_some, o_none, q_nx, q_rt, q_bk, q_ct, q_exc, q_bad, q_ite, of_some, f_nx, f_rt, f_exc, f_ite, c_ok, c_exc, c_ite, an_t, an_b, or_b, no_b, rv_l, in_i, au_s, li_s, re_s, nx_s, en_l, zi_l, ri_l, tr_nx, tr_rt, tr_bk, tr_ct, tr_exc, tr_ite, rd_c, rd_s, pk_c, pk_f, pk_o, bo_var, bo_lit, op_lit, bo_glob, op_glob, bo_op1, op_op1, bo_op2, op_op2, bo_sl, op_sl, bo_tup, op_tup, bo_lst, op_lst, bo_call, op_call, bo_ite, op_ite, bo_andV, op_andV, bo_orV, op_orV, bo_notV, op_notV, bo_revL, op_revL, bo_comp, op_comp, op_var, op_abs, opR_i, g_var, g_tup, gs_n, gs_c, d_fz, d_ow, a_add, a_sub, a_lt, a_le, a_gt, a_ge, a_max, a_min, a_mul, a_fdiv, a_mod, a_pow, a_addl, a_addt, a_adds, a_mull, a_eqi, a_nei, a_ixl, a_ixt, a1_neg, a1_lenl, a1_lent, a1_lens, a1_listl, a1_listt, a1_tupl, a1_tupt, a1_int, a1_sum, a1_isN, a1_notN, y_int_i, y_bool_i, y_str_i, y_list_i, y_tuple_i, nn_i, y_int_s, y_bool_s, y_str_s, y_list_s, y_tuple_s, nn_s, y_int_b, y_bool_b, y_str_b, y_list_b, y_tuple_b, nn_b, y_int_l, y_bool_l, y_str_l, y_list_l, y_tuple_l, nn_l, y_int_t, y_bool_t, y_str_t, y_list_t, y_tuple_t, nn_t, y_int_n, y_bool_n, y_str_n, y_list_n, y_tuple_n, nn_n, tr_b, tr_i, tr_l, tr_t, a3_l, a3_t, sq_l, sq_t, au_add, au_sub, List.getElem?_cons_zero, List.getElem?_cons_succ, List.set_cons_zero, List.set_cons_succ, Option.map_some, Option.bind_some, if_true, if_false, Bool.false_eq_true, reduceIte, Exs.len, Nat.reduceAdd, Nat.reduceLeDiff, Nat.reduceLT, List.length_cons, List.length_nil, Nat.lt_add_left_iff_pos, Nat.zero_lt_succ, decide_true, decide_false, Bool.not_true, Bool.not_false, List.map_cons, List.map_nil, List.replicate, List.cons_append, List.nil_append, decide_eq_true_eq, Bool.not_eq_true', decide_eq_false_iff_not, Bool.and_eq_true, Bool.or_eq_true, or_self, or_false, false_or, or_true, true_or, and_true, true_and, and_self, not_false_eq_true, not_true_eq_false, ite_self, r2, hh1, Int.reduceEq, h1]
  · rw [if_neg h1] at r2
    by_cases h2 : ((spans room ns).length : Int) ≤ carriers
    · rw [if_pos h2] at r2
      simp only [f__law_asked, il, x_var, x_lit, x_op1, x_op2, x_sl, x_tup, x_lst, x_call, x_ite, x_andV, x_orV, x_notV, x_revL, x_comp, x_n, x_c, t_val, t_and, t_or, t_not, t_yes, i_seq, i_r1, i_r2, i_enum, i_zip, i_rev, s_asg, s_aug, s_app, s_setI, s_expr, s_if, s_whl, s_for, s_ret, s_retV, s_retN, s_brk, s_cont, s_pass, s_raise, s_try, q_n, q_c, b_ok, b_exc, b_bad, b_ite, u_ok, u_exc, u_bad, u_ite, o_some, o_none, q_nx, q_rt, q_bk, q_ct, q_exc, q_bad, q_ite, of_some, f_nx, f_rt, f_exc, f_ite, c_ok, c_exc, c_ite, an_t, an_b, or_b, no_b, rv_l, in_i, au_s, li_s, re_s, nx_s, en_l, zi_l, ri_l, tr_nx, tr_rt, tr_bk, tr_ct, tr_exc, tr_ite, rd_c, rd_s, pk_c, pk_f, pk_o, bo_var, bo_lit, op_lit, bo_glob, op_glob, bo_op1, op_op1, bo_op2, op_op2, bo_sl, op_sl, bo_tup, op_tup, bo_lst, op_lst, bo_call, op_call, bo_ite, op_ite, bo_andV, op_andV, bo_orV, op_orV, bo_notV, op_notV, bo_revL, op_revL, bo_comp, op_comp, op_var, op_abs, opR_i, g_var, g_tup, gs_n, gs_c, d_fz, d_ow, a_add, a_sub, a_lt, a_le, a_gt, a_ge, a_max, a_min, a_mul, a_fdiv, a_mod, a_pow, a_addl, a_addt, a_adds, a_mull, a_eqi, a_nei, a_ixl, a_ixt, a1_neg, a1_lenl, a1_lent, a1_lens, a1_listl, a1_listt, a1_tupl, a1_tupt, a1_int, a1_sum, a1_isN, a1_notN, y_int_i, y_bool_i, y_str_i, y_list_i, y_tuple_i, nn_i, y_int_s, y_bool_s, y_str_s, y_list_s, y_tuple_s, nn_s, y_int_b, y_bool_b, y_str_b, y_list_b, y_tuple_b, nn_b, y_int_l, y_bool_l, y_str_l, y_list_l, y_tuple_l, nn_l, y_int_t, y_bool_t, y_str_t, y_list_t, y_tuple_t, nn_t, y_int_n, y_bool_n, y_str_n, y_list_n, y_tuple_n, nn_n, tr_b, tr_i, tr_l, tr_t, a3_l, a3_t, sq_l, sq_t, au_add, au_sub, List.getElem?_cons_zero, List.getElem?_cons_succ, List.set_cons_zero, List.set_cons_succ, Option.map_some, Option.bind_some, if_true, if_false, Bool.false_eq_true, reduceIte, Exs.len, Nat.reduceAdd, Nat.reduceLeDiff, Nat.reduceLT, List.length_cons, List.length_nil, Nat.lt_add_left_iff_pos, Nat.zero_lt_succ, decide_true, decide_false, Bool.not_true, Bool.not_false, List.map_cons, List.map_nil, List.replicate, List.cons_append, List.nil_append, decide_eq_true_eq, Bool.not_eq_true', decide_eq_false_iff_not, Bool.and_eq_true, Bool.or_eq_true, or_self, or_false, false_or, or_true, true_or, and_true, true_and, and_self, not_false_eq_true, not_true_eq_false, ite_self, r2, Int.reduceEq, h1, h2]
    · rw [if_neg h2] at r2
      simp only [f__law_asked, il, x_var, x_lit, x_op1, x_op2, x_sl, x_tup, x_lst, x_call, x_ite, x_andV, x_orV, x_notV, x_revL, x_comp, x_n, x_c, t_val, t_and, t_or, t_not, t_yes, i_seq, i_r1, i_r2, i_enum, i_zip, i_rev, s_asg, s_aug, s_app, s_setI, s_expr, s_if, s_whl, s_for, s_ret, s_retV, s_retN, s_brk, s_cont, s_pass, s_raise, s_try, q_n, q_c, b_ok, b_exc, b_bad, b_ite, u_ok, u_exc, u_bad, u_ite, o_some, o_none, q_nx, q_rt, q_bk, q_ct, q_exc, q_bad, q_ite, of_some, f_nx, f_rt, f_exc, f_ite, c_ok, c_exc, c_ite, an_t, an_b, or_b, no_b, rv_l, in_i, au_s, li_s, re_s, nx_s, en_l, zi_l, ri_l, tr_nx, tr_rt, tr_bk, tr_ct, tr_exc, tr_ite, rd_c, rd_s, pk_c, pk_f, pk_o, bo_var, bo_lit, op_lit, bo_glob, op_glob, bo_op1, op_op1, bo_op2, op_op2, bo_sl, op_sl, bo_tup, op_tup, bo_lst, op_lst, bo_call, op_call, bo_ite, op_ite, bo_andV, op_andV, bo_orV, op_orV, bo_notV, op_notV, bo_revL, op_revL, bo_comp, op_comp, op_var, op_abs, opR_i, g_var, g_tup, gs_n, gs_c, d_fz, d_ow, a_add, a_sub, a_lt, a_le, a_gt, a_ge, a_max, a_min, a_mul, a_fdiv, a_mod, a_pow, a_addl, a_addt, a_adds, a_mull, a_eqi, a_nei, a_ixl, a_ixt, a1_neg, a1_lenl, a1_lent, a1_lens, a1_listl, a1_listt, a1_tupl, a1_tupt, a1_int, a1_sum, a1_isN, a1_notN, y_int_i, y_bool_i, y_str_i, y_list_i, y_tuple_i, nn_i, y_int_s, y_bool_s, y_str_s, y_list_s, y_tuple_s, nn_s, y_int_b, y_bool_b, y_str_b, y_list_b, y_tuple_b, nn_b, y_int_l, y_bool_l, y_str_l, y_list_l, y_tuple_l, nn_l, y_int_t, y_bool_t, y_str_t, y_list_t, y_tuple_t, nn_t, y_int_n, y_bool_n, y_str_n, y_list_n, y_tuple_n, nn_n, tr_b, tr_i, tr_l, tr_t, a3_l, a3_t, sq_l, sq_t, au_add, au_sub, List.getElem?_cons_zero, List.getElem?_cons_succ, List.set_cons_zero, List.set_cons_succ, Option.map_some, Option.bind_some, if_true, if_false, Bool.false_eq_true, reduceIte, Exs.len, Nat.reduceAdd, Nat.reduceLeDiff, Nat.reduceLT, List.length_cons, List.length_nil, Nat.lt_add_left_iff_pos, Nat.zero_lt_succ, decide_true, decide_false, Bool.not_true, Bool.not_false, List.map_cons, List.map_nil, List.replicate, List.cons_append, List.nil_append, decide_eq_true_eq, Bool.not_eq_true', decide_eq_false_iff_not, Bool.and_eq_true, Bool.or_eq_true, or_self, or_false, false_or, or_true, true_or, and_true, true_and, and_self, not_false_eq_true, not_true_eq_false, ite_self, r2, Int.reduceEq, h1, h2]
end PD.K55

end

section
set_option Elab.async false
set_option linter.all false
set_option maxRecDepth 100000
namespace PD.K55
open PySem
theorem cut_nat {α : Type} (xs : List α) (a b : Nat) (h1 : a ≤ xs.length) (h2 : b ≤ xs.length) : cut xs (some (a : Int)) (some (b : Int)) = (xs.drop a).take (b - a) := by
  unfold cut
  rw [HT.sIx_nat, HT.sIx_nat, Nat.min_eq_left h1, Nat.min_eq_left h2]
theorem go_ord (room : Int) : ∀ (xs : List Int) (st k : Nat) (u : Int), (∀ x ∈ xs, x ≤ room) → (st < k ∨ st = k ∧ u = 0 ∧ xs ≠ []) → ∀ p ∈ go room st k u xs, p.1 < p.2
  | [], st, k, u, _, h, p, hp => by
    rw [go, List.mem_singleton] at hp
    subst hp
    rcases h with h | ⟨_, _, h⟩
    · show (st : Int) < k; omega
    · exact absurd rfl h
  | x :: xs, st, k, u, hx, h, p, hp => by
    have hx0 := hx x (List.mem_cons_self ..)
    rw [go] at hp
    split at hp
    · rename_i hc
      rcases List.mem_cons.mp hp with rfl | hp
      · rcases h with h | ⟨_, h, _⟩
        · show (st : Int) < k; omega
        · omega
      · exact go_ord room xs k (k + 1) (0 + x) (fun y hy => hx y (List.mem_cons_of_mem _ hy)) (.inl (by omega)) p hp
    · exact go_ord room xs st (k + 1) (u + x) (fun y hy => hx y (List.mem_cons_of_mem _ hy)) (.inl (by rcases h with h | h <;> omega)) p hp
theorem spans_ord {ns : List Int} {room : Int} (hv : ∀ x ∈ ns, x ≤ room) : ∀ p ∈ spans room ns, p.1 < p.2 := by
  unfold spans rest
  split
  · intro p hp; cases hp
  · rename_i h
    exact go_ord room ns 0 0 0 hv (.inr ⟨rfl, rfl, h⟩)
theorem win_ord {sp : List (Int × Int)} (h : ∀ p ∈ sp, p.1 < p.2) : ∀ p ∈ win sp, p.1 < p.2 := by
  intro p hp
  unfold win at hp
  obtain ⟨q, hq, rfl⟩ := List.mem_map.mp hp
  have := h q (List.dropLast_subset _ hq)
  show q.1 < q.2 + 1
  omega
theorem tf_sum (room : Int) : ∀ (xs : List Int) (u : Int), tf room u xs < xs.length → room < u + (xs.take (tf room u xs + 1)).sum
  | [], u, h => by simp at h
  | x :: xs, u, h => by
    rw [tf] at h ⊢
    by_cases hc : u + x ≤ room
    · rw [if_pos hc] at h ⊢
      have := tf_sum room xs (u + x) (by simpa using h)
      rw [List.take_succ_cons, List.sum_cons]
      omega
    · rw [if_neg hc]
      simp
      omega
theorem few_rest (ns : List Int) (room : Int) (hv : ∀ x ∈ ns, x ≤ room) : ∀ (m st : Nat) (least : Int), ns.length - st ≤ m → st ≤ ns.length → least ≤ st → ((win (rest room st (ns.drop st))).foldlM (tfG ns room) least).isSome = true
  | m, st, least, hm, hst, hl => by
    by_cases he : ns.drop st = []
    · rw [rest, if_pos he]
      rfl
    · have hlt : st < ns.length := by
        rcases Nat.lt_or_ge st ns.length with h | h
        · exact h
        · exact absurd (List.drop_eq_nil_of_le h) he
      have hvd : ∀ x ∈ ns.drop st, x ≤ room := fun x hx => hv x (List.mem_of_mem_drop hx)
      have hle := tf_le room (ns.drop st) 0
      rw [List.length_drop] at hle
      have hpos : 1 ≤ tf room 0 (ns.drop st) := by
        rw [List.drop_eq_getElem_cons hlt, tf, if_pos (by have := hv ns[st] (List.getElem_mem hlt); omega)]
        omega
      have er : rest room st (ns.drop st) = ((st : Int), ((st + tf room 0 (ns.drop st) : Nat) : Int)) :: rest room (st + tf room 0 (ns.drop st)) (ns.drop (st + tf room 0 (ns.drop st))) := by
        rw [rest, if_neg he, go_tf room _ _ _ _ hvd, List.drop_drop]
      rw [er]
      by_cases h2 : ns.drop (st + tf room 0 (ns.drop st)) = []
      · rw [rest, if_pos h2]
        rfl
      · have hlt2 : st + tf room 0 (ns.drop st) < ns.length := by
          rcases Nat.lt_or_ge (st + tf room 0 (ns.drop st)) ns.length with h | h
          · exact h
          · exact absurd (List.drop_eq_nil_of_le h) h2
        have hne : rest room (st + tf room 0 (ns.drop st)) (ns.drop (st + tf room 0 (ns.drop st))) ≠ [] := by
          rw [rest, if_neg h2, go_tf room _ _ _ _ (fun x hx => hv x (List.mem_of_mem_drop hx))]
          exact List.cons_ne_nil _ _
        have ew : win (((st : Int), ((st + tf room 0 (ns.drop st) : Nat) : Int)) :: rest room (st + tf room 0 (ns.drop st)) (ns.drop (st + tf room 0 (ns.drop st)))) = ((st : Int), ((st + tf room 0 (ns.drop st) : Nat) : Int) + 1) :: win (rest room (st + tf room 0 (ns.drop st)) (ns.drop (st + tf room 0 (ns.drop st)))) := by
          unfold win
          rw [List.dropLast_cons_of_ne_nil hne]
          rfl
        rw [ew, List.foldlM_cons]
        have hs := tf_sum room (ns.drop st) 0 (by rw [List.length_drop]; omega)
        have ec : cut ns (some (st : Int)) (some (((st + tf room 0 (ns.drop st) : Nat) : Int) + 1)) = (ns.drop st).take (tf room 0 (ns.drop st) + 1) := by
          have e : (((st + tf room 0 (ns.drop st) : Nat) : Int) + 1) = ((st + tf room 0 (ns.drop st) + 1 : Nat) : Int) := by omega
          rw [e, cut_nat ns st _ (by omega) (by omega)]
          congr 1
          omega
        have eg : tfG ns room least ((st : Int), ((st + tf room 0 (ns.drop st) : Nat) : Int) + 1) = some ((st + tf room 0 (ns.drop st) : Nat) : Int) := by
          unfold tfG
          dsimp only
          rw [if_neg (by omega), ec, if_neg (by omega)]
          congr 1
          omega
        rw [eg]
        cases m with
        | zero => omega
        | succ m => exact few_rest ns room hv m (st + tf room 0 (ns.drop st)) _ (by omega) (by omega) (Int.le_refl _)
theorem few_win {ns : List Int} {room : Int} (hv : ∀ x ∈ ns, x ≤ room) (hne : ns ≠ []) : isFew ns room ((win (spans room ns)).length : Int) (win (spans room ns)) = true := by
  rw [few_yes (by intro z; exact hne (List.length_eq_zero_iff.mp z)) rfl]
  exact few_rest ns room hv ns.length 0 0 (by omega) (by omega) (Int.le_refl _)
theorem chk_ok {ns : List Int} {room : Int} (h1 : 1 ≤ room) (h2 : room ≤ 1368) (h3 : ns.length ≤ 200) (h4 : ∀ x ∈ ns, 1 ≤ x ∧ x ≤ room) : chk ns room = none := by
  unfold chk
  rw [if_neg (by omega), if_neg (by omega)]
  have : ns.find? (fun s => decide (s < 1 ∨ room < s)) = none := by
    rw [List.find?_eq_none]
    intro x hx
    have := h4 x hx
    simp only [decide_eq_true_eq]
    omega
  rw [this]
end PD.K55

end

section
set_option Elab.async false
set_option linter.all false
set_option maxRecDepth 100000
namespace PD.K55
open PySem
def lawB : ISs := match f_law.body with
  | .c _ (.c _ (.c _ (.c _ (.c _ (.c _ (.c _ (.c _ (.c _ (.c _ (.c _ (.c (.for_ _ _ b) _))))))))))) => b
  | _ => .n
abbrev J5 := Option Cell × Option Cell × Option Cell × Option Cell × Option Cell
def lawE (ns pk szs : List Int) (room : Int) (j : J5) : Env := [some (.fz (.list (ns.map .int))), some (.fz (.list (pk.map .int))), some (.fz (.int room)), some (.fz (.list (szs.map .int))), some (.fz (.list (szs.map .int))), some (.fz (.list ((spans room szs).map pr))), some (.fz (.list ((win (spans room szs)).map pr))), j.1, j.2.1, j.2.2.1, none, j.2.2.2.1, j.2.2.2.2]
theorem deps_ps (ps : List (Int × Int)) : deps (ps.map pr) ≤ 1 := by
  induction ps with
  | nil => simp [deps]
  | cons p ps ih =>
    rw [List.map_cons, deps]
    have : dep (pr p) = 1 := by simp [dep, deps]
    omega
theorem okL_ps (ps : List (Int × Int)) : okLens (ps.map pr) = true := by
  induction ps with
  | nil => rfl
  | cons p ps ih => rw [List.map_cons, okLens, ih]; rfl
theorem same_ps (ps : List (Int × Int)) (h : ps.length ≤ 1000) : runF cfg 19 9 [.list (ps.map pr), .list (ps.map pr)] = .ok (.fz (.bool true)) := by
  refine r_same 10 8 _ ?_ ?_
  · rw [dep]; have := deps_ps ps; omega
  · rw [okLen, okL_ps, List.length_map, decide_eq_true (by omega)]; rfl
theorem law_turn (ns pk szs : List Int) (room : Int) (hc : chk szs room = none) (hp : pk.length = 10) (hpk : ∀ x ∈ pk, 0 ≤ x ∧ x < 60) (c : Int) (j : J5) :
    ∃ j', exSs ⟨runF cfg 19, cfg.consts⟩ lawB ((lawE ns pk szs room j).set 7 (some (.fz (.int c)))) = .nx (lawE ns pk szs room j') := by
  obtain ⟨v1, v2, v3, v4⟩ := chk_none hc
  have hsl := spans_len room szs
  have hwl : (win (spans room szs)).length ≤ 300 := by
    unfold win
    rw [List.length_map, List.length_dropLast]
    omega
  have ho := spans_ord (room := room) (ns := szs) fun x hx => (v4 x hx).2
  obtain ⟨q1, k1, e1, d1, l1⟩ := r_changed 18 (spans room szs) (szs.length : Int) pk (by omega) ho hp hpk
  obtain ⟨q2, k2, e2, d2, l2⟩ := r_changed 18 (win (spans room szs)) (szs.length : Int) pk hwl (win_ord ho) hp hpk
  have ra := r_asked2 14 szs room c hc
  have rs := fun q => r_is_spread 17 szs room c q
  have rl := fun q => r_lis 18 szs room c q
  have rf := fun cnt q => r_few 17 szs room cnt q
  have rg := fun cnt q => r_lfew 18 szs room cnt q
  rw [hc] at rs rf
  have sb : ∀ b : Bool, runF cfg 19 9 [.bool b, .bool b] = .ok (.fz (.bool true)) := fun b => r_same 10 8 _ (by simp [dep]) rfl
  simp only [il, asFR, Nat.reduceAdd] at e1 e2 ra rs rl rf rg
  have done : ∀ (ans : D), runF cfg 19 15 [.int 2, .list (szs.map .int), .int room, .int c] = .ok (.fz ans) → runF cfg 19 9 [ans, ans] = .ok (.fz (.bool true)) → True := fun _ _ _ => trivial
  by_cases h1 : c < 0
  · rw [if_pos h1] at ra
    have sa : runF cfg 19 9 [.tuple [.str (Str.ofString "BadNumber"), .int c], .tuple [.str (Str.ofString "BadNumber"), .int c]] = .ok (.fz (.bool true)) := r_same 10 8 _ (by simp [dep, deps]) rfl
    have h2 : ¬ ((spans room szs).length : Int) ≤ c := by omega
    exact ⟨(_, _, _, _, _), by
      simp only [lawB, f_law, lawE, x_var, x_lit, x_op1, x_op2, x_sl, x_tup, x_lst, x_call, x_ite, x_andV, x_orV, x_notV, x_revL, x_comp, x_n, x_c, t_val, t_and, t_or, t_not, t_yes, i_seq, i_r1, i_r2, i_enum, i_zip, i_rev, s_asg, s_aug, s_app, s_setI, s_expr, s_if, s_whl, s_for, s_ret, s_retV, s_retN, s_brk, s_cont, s_pass, s_raise, s_try, q_n, q_c, b_ok, b_exc, b_bad, b_ite, u_ok, u_exc, u_bad, u_ite, o_some, o_none, q_nx, q_rt, q_bk, q_ct, q_exc, q_bad, q_ite, of_some, f_nx, f_rt, f_exc, f_ite, c_ok, c_exc, c_ite, an_t, an_b, or_b, no_b, rv_l, in_i, au_s, li_s, re_s, nx_s, en_l, zi_l, ri_l, tr_nx, tr_rt, tr_bk, tr_ct, tr_exc, tr_ite, rd_c, rd_s, pk_c, pk_f, pk_o, bo_var, bo_lit, op_lit, bo_glob, op_glob, bo_op1, op_op1, bo_op2, op_op2, bo_sl, op_sl, bo_tup, op_tup, bo_lst, op_lst, bo_call, op_call, bo_ite, op_ite, bo_andV, op_andV, bo_orV, op_orV, bo_notV, op_notV, bo_revL, op_revL, bo_comp, op_comp, op_var, op_abs, opR_i, g_var, g_tup, gs_n, gs_c, d_fz, d_ow, a_add, a_sub, a_lt, a_le, a_gt, a_ge, a_max, a_min, a_mul, a_fdiv, a_mod, a_pow, a_addl, a_addt, a_adds, a_mull, a_eqi, a_nei, a_ixl, a_ixt, a1_neg, a1_lenl, a1_lent, a1_lens, a1_listl, a1_listt, a1_tupl, a1_tupt, a1_int, a1_sum, a1_isN, a1_notN, y_int_i, y_bool_i, y_str_i, y_list_i, y_tuple_i, nn_i, y_int_s, y_bool_s, y_str_s, y_list_s, y_tuple_s, nn_s, y_int_b, y_bool_b, y_str_b, y_list_b, y_tuple_b, nn_b, y_int_l, y_bool_l, y_str_l, y_list_l, y_tuple_l, nn_l, y_int_t, y_bool_t, y_str_t, y_list_t, y_tuple_t, nn_t, y_int_n, y_bool_n, y_str_n, y_list_n, y_tuple_n, nn_n, tr_b, tr_i, tr_l, tr_t, a3_l, a3_t, sq_l, sq_t, au_add, au_sub, List.getElem?_cons_zero, List.getElem?_cons_succ, List.set_cons_zero, List.set_cons_succ, Option.map_some, Option.bind_some, if_true, if_false, Bool.false_eq_true, reduceIte, Exs.len, Nat.reduceAdd, Nat.reduceLeDiff, Nat.reduceLT, List.length_cons, List.length_nil, Nat.lt_add_left_iff_pos, Nat.zero_lt_succ, decide_true, decide_false, Bool.not_true, Bool.not_false, List.map_cons, List.map_nil, List.replicate, List.cons_append, List.nil_append, decide_eq_true_eq, Bool.not_eq_true', decide_eq_false_iff_not, Bool.and_eq_true, Bool.or_eq_true, or_self, or_false, false_or, or_true, true_or, and_true, true_and, and_self, not_false_eq_true, not_true_eq_false, ite_self, forR, forL, cut_map, List.length_map, ra, sa, h1, h2, e1, d1, e2, d2, rs, rl, rf, rg, sb]
      rfl⟩
  · rw [if_neg h1] at ra
    by_cases h2 : ((spans room szs).length : Int) ≤ c
    · rw [if_pos h2] at ra
      have sa : runF cfg 19 9 [.tuple [.str (Str.ofString "told"), .tuple [.str (Str.ofString "spread"), .list ((spans room szs).map pr)]], .tuple [.str (Str.ofString "told"), .tuple [.str (Str.ofString "spread"), .list ((spans room szs).map pr)]]] = .ok (.fz (.bool true)) := by
        refine r_same 10 8 _ ?_ ?_
        · have := deps_ps (spans room szs)
          simp [dep, deps]; omega
        · simp only [okLen, okLens, okL_ps, List.length_map, decide_eq_true (by omega : (spans room szs).length ≤ 1000000)]
          rfl
      exact ⟨(_, _, _, _, _), by
        simp only [lawB, f_law, lawE, x_var, x_lit, x_op1, x_op2, x_sl, x_tup, x_lst, x_call, x_ite, x_andV, x_orV, x_notV, x_revL, x_comp, x_n, x_c, t_val, t_and, t_or, t_not, t_yes, i_seq, i_r1, i_r2, i_enum, i_zip, i_rev, s_asg, s_aug, s_app, s_setI, s_expr, s_if, s_whl, s_for, s_ret, s_retV, s_retN, s_brk, s_cont, s_pass, s_raise, s_try, q_n, q_c, b_ok, b_exc, b_bad, b_ite, u_ok, u_exc, u_bad, u_ite, o_some, o_none, q_nx, q_rt, q_bk, q_ct, q_exc, q_bad, q_ite, of_some, f_nx, f_rt, f_exc, f_ite, c_ok, c_exc, c_ite, an_t, an_b, or_b, no_b, rv_l, in_i, au_s, li_s, re_s, nx_s, en_l, zi_l, ri_l, tr_nx, tr_rt, tr_bk, tr_ct, tr_exc, tr_ite, rd_c, rd_s, pk_c, pk_f, pk_o, bo_var, bo_lit, op_lit, bo_glob, op_glob, bo_op1, op_op1, bo_op2, op_op2, bo_sl, op_sl, bo_tup, op_tup, bo_lst, op_lst, bo_call, op_call, bo_ite, op_ite, bo_andV, op_andV, bo_orV, op_orV, bo_notV, op_notV, bo_revL, op_revL, bo_comp, op_comp, op_var, op_abs, opR_i, g_var, g_tup, gs_n, gs_c, d_fz, d_ow, a_add, a_sub, a_lt, a_le, a_gt, a_ge, a_max, a_min, a_mul, a_fdiv, a_mod, a_pow, a_addl, a_addt, a_adds, a_mull, a_eqi, a_nei, a_ixl, a_ixt, a1_neg, a1_lenl, a1_lent, a1_lens, a1_listl, a1_listt, a1_tupl, a1_tupt, a1_int, a1_sum, a1_isN, a1_notN, y_int_i, y_bool_i, y_str_i, y_list_i, y_tuple_i, nn_i, y_int_s, y_bool_s, y_str_s, y_list_s, y_tuple_s, nn_s, y_int_b, y_bool_b, y_str_b, y_list_b, y_tuple_b, nn_b, y_int_l, y_bool_l, y_str_l, y_list_l, y_tuple_l, nn_l, y_int_t, y_bool_t, y_str_t, y_list_t, y_tuple_t, nn_t, y_int_n, y_bool_n, y_str_n, y_list_n, y_tuple_n, nn_n, tr_b, tr_i, tr_l, tr_t, a3_l, a3_t, sq_l, sq_t, au_add, au_sub, List.getElem?_cons_zero, List.getElem?_cons_succ, List.set_cons_zero, List.set_cons_succ, Option.map_some, Option.bind_some, if_true, if_false, Bool.false_eq_true, reduceIte, Exs.len, Nat.reduceAdd, Nat.reduceLeDiff, Nat.reduceLT, List.length_cons, List.length_nil, Nat.lt_add_left_iff_pos, Nat.zero_lt_succ, decide_true, decide_false, Bool.not_true, Bool.not_false, List.map_cons, List.map_nil, List.replicate, List.cons_append, List.nil_append, decide_eq_true_eq, Bool.not_eq_true', decide_eq_false_iff_not, Bool.and_eq_true, Bool.or_eq_true, or_self, or_false, false_or, or_true, true_or, and_true, true_and, and_self, not_false_eq_true, not_true_eq_false, ite_self, forR, forL, cut_map, List.length_map, ra, sa, h1, h2, e1, d1, e2, d2, rs, rl, rf, rg, sb]
        rfl⟩
    · rw [if_neg h2] at ra
      have hmx : (if c > 0 then c else 0) = c := by split <;> omega
      have hcl := cut_len (win (spans room szs)) none (some c)
      have sa : runF cfg 19 9 [.tuple [.str (Str.ofString "told"), .tuple [.str (Str.ofString "windows"), .list ((cut (win (spans room szs)) none (some c)).map pr)]], .tuple [.str (Str.ofString "told"), .tuple [.str (Str.ofString "windows"), .list ((cut (win (spans room szs)) none (some c)).map pr)]]] = .ok (.fz (.bool true)) := by
        refine r_same 10 8 _ ?_ ?_
        · have := deps_ps (cut (win (spans room szs)) none (some c))
          simp [dep, deps]; omega
        · simp only [okLen, okLens, okL_ps, List.length_map, decide_eq_true (by omega : (cut (win (spans room szs)) none (some c)).length ≤ 1000000)]
          rfl
      exact ⟨(_, _, _, _, _), by
        simp only [lawB, f_law, lawE, x_var, x_lit, x_op1, x_op2, x_sl, x_tup, x_lst, x_call, x_ite, x_andV, x_orV, x_notV, x_revL, x_comp, x_n, x_c, t_val, t_and, t_or, t_not, t_yes, i_seq, i_r1, i_r2, i_enum, i_zip, i_rev, s_asg, s_aug, s_app, s_setI, s_expr, s_if, s_whl, s_for, s_ret, s_retV, s_retN, s_brk, s_cont, s_pass, s_raise, s_try, q_n, q_c, b_ok, b_exc, b_bad, b_ite, u_ok, u_exc, u_bad, u_ite, o_some, o_none, q_nx, q_rt, q_bk, q_ct, q_exc, q_bad, q_ite, of_some, f_nx, f_rt, f_exc, f_ite, c_ok, c_exc, c_ite, an_t, an_b, or_b, no_b, rv_l, in_i, au_s, li_s, re_s, nx_s, en_l, zi_l, ri_l, tr_nx, tr_rt, tr_bk, tr_ct, tr_exc, tr_ite, rd_c, rd_s, pk_c, pk_f, pk_o, bo_var, bo_lit, op_lit, bo_glob, op_glob, bo_op1, op_op1, bo_op2, op_op2, bo_sl, op_sl, bo_tup, op_tup, bo_lst, op_lst, bo_call, op_call, bo_ite, op_ite, bo_andV, op_andV, bo_orV, op_orV, bo_notV, op_notV, bo_revL, op_revL, bo_comp, op_comp, op_var, op_abs, opR_i, g_var, g_tup, gs_n, gs_c, d_fz, d_ow, a_add, a_sub, a_lt, a_le, a_gt, a_ge, a_max, a_min, a_mul, a_fdiv, a_mod, a_pow, a_addl, a_addt, a_adds, a_mull, a_eqi, a_nei, a_ixl, a_ixt, a1_neg, a1_lenl, a1_lent, a1_lens, a1_listl, a1_listt, a1_tupl, a1_tupt, a1_int, a1_sum, a1_isN, a1_notN, y_int_i, y_bool_i, y_str_i, y_list_i, y_tuple_i, nn_i, y_int_s, y_bool_s, y_str_s, y_list_s, y_tuple_s, nn_s, y_int_b, y_bool_b, y_str_b, y_list_b, y_tuple_b, nn_b, y_int_l, y_bool_l, y_str_l, y_list_l, y_tuple_l, nn_l, y_int_t, y_bool_t, y_str_t, y_list_t, y_tuple_t, nn_t, y_int_n, y_bool_n, y_str_n, y_list_n, y_tuple_n, nn_n, tr_b, tr_i, tr_l, tr_t, a3_l, a3_t, sq_l, sq_t, au_add, au_sub, List.getElem?_cons_zero, List.getElem?_cons_succ, List.set_cons_zero, List.set_cons_succ, Option.map_some, Option.bind_some, if_true, if_false, Bool.false_eq_true, reduceIte, Exs.len, Nat.reduceAdd, Nat.reduceLeDiff, Nat.reduceLT, List.length_cons, List.length_nil, Nat.lt_add_left_iff_pos, Nat.zero_lt_succ, decide_true, decide_false, Bool.not_true, Bool.not_false, List.map_cons, List.map_nil, List.replicate, List.cons_append, List.nil_append, decide_eq_true_eq, Bool.not_eq_true', decide_eq_false_iff_not, Bool.and_eq_true, Bool.or_eq_true, or_self, or_false, false_or, or_true, true_or, and_true, true_and, and_self, not_false_eq_true, not_true_eq_false, ite_self, forR, forL, cut_map, List.length_map, hmx, ra, sa, h1, h2, e1, d1, e2, d2, rs, rl, rf, rg, sb]
        rfl⟩
end PD.K55

end

section
set_option Elab.async false
set_option linter.all false
set_option maxRecDepth 100000
namespace PD.K55
open PySem
theorem law_loop (ns pk szs : List Int) (room : Int) (hc : chk szs room = none) (hp : pk.length = 10) (hpk : ∀ x ∈ pk, 0 ≤ x ∧ x < 60) : ∀ (cs : List Int) (j : J5), ∃ j', forL (.var 7) (exSs ⟨runF cfg 19, cfg.consts⟩ lawB) (cs.map .int) (lawE ns pk szs room j) = .nx (lawE ns pk szs room j')
  | [], j => ⟨j, rfl⟩
  | c :: cs, j => by
    obtain ⟨j1, e1⟩ := law_turn ns pk szs room hc hp hpk c j
    obtain ⟨j2, e2⟩ := law_loop ns pk szs room hc hp hpk cs j1
    refine ⟨j2, ?_⟩
    have a : asgT (.var 7) (.fz (.int c)) (lawE ns pk szs room j) = some ((lawE ns pk szs room j).set 7 (some (.fz (.int c)))) := rfl
    rw [List.map_cons, forL, a]
    dsimp only
    rw [e1]
    exact e2
theorem cut_mx {α : Type} (xs : List α) : cut xs none (some (if (xs.length : Int) - 1 > 0 then (xs.length : Int) - 1 else 0)) = xs.dropLast := by
  by_cases h : (xs.length : Int) - 1 > 0
  · rw [if_pos h, cut_init]
  · rw [if_neg h]
    match xs, h with
    | [], _ => rfl
    | [x], _ => rfl
    | x :: y :: r, h => simp at h; try omega
theorem same_il (ns : List Int) (h : ns.length ≤ 1000) : runF cfg 19 9 [.list (ns.map .int), .list (ns.map .int)] = .ok (.fz (.bool true)) := by
  have d0 : ∀ l : List Int, deps (l.map .int) = 0 := by
    intro l
    induction l with
    | nil => rfl
    | cons a l ih => rw [List.map_cons, deps, ih]; rfl
  have o0 : ∀ l : List Int, okLens (l.map .int) = true := by
    intro l
    induction l with
    | nil => rfl
    | cons a l ih => rw [List.map_cons, okLens, ih]; rfl
  refine r_same 10 8 _ ?_ ?_
  · rw [dep, d0]; omega
  · rw [okLen, o0, List.length_map, decide_eq_true (by omega)]; rfl
theorem r_law (hR : ∀ (ns szs pk : List Int) (room : Int), chk szs room = none → pk.length = 10 → (∀ x ∈ pk, 0 ≤ x ∧ x < 60) → runF cfg 19 16 [il ns, .int room, il szs, il pk] = .ok (.fz (.bool true))) (ns : List Int) : runF cfg 20 17 [il ns] = .ok (.fz (.bool true)) := by
  obtain ⟨hp, hpk⟩ := draws_ok ns 0 60 (by omega) 10
  have rd := r_draws 18 ns 0 60 10 (by omega) (by omega) (by omega) (by omega)
  generalize draws ns 0 60 10 = pk at hp hpk rd
  have gp : ∀ i, i < 10 → 0 ≤ pk.getD i 0 ∧ pk.getD i 0 < 60 := fun i hi => by
    have hi' : i < pk.length := by omega
    have := hpk _ (List.getElem_mem hi')
    simpa [List.getD, hi'] using this
  have g0 := gp 0 (by omega)
  have e10 : ((10 : Nat) : Int) = 10 := rfl
  have i0 : L2.atI (pk.map PyData.int) 0 = some (.int (pk.getD 0 0)) := ix_int pk 0 (by omega)
  have i1 : L2.atI (pk.map PyData.int) 1 = some (.int (pk.getD 1 0)) := ix_int pk 1 (by omega)
  have i5 : L2.atI (pk.map PyData.int) 5 = some (.int (pk.getD 5 0)) := ix_int pk 5 (by omega)
  have i6 : L2.atI (pk.map PyData.int) 6 = some (.int (pk.getD 6 0)) := ix_int pk 6 (by omega)
  have i9 : L2.atI (pk.map PyData.int) 9 = some (.int (pk.getD 9 0)) := ix_int pk 9 (by omega)
  have s200 : runF cfg 19 9 [.int 200, .int 200] = .ok (.fz (.bool true)) := r_same 10 8 _ (by simp [dep]) rfl
  have hroom : ∃ room : Int, 1 ≤ room ∧ room ≤ 1368 ∧ room = (if pk.getD 1 0 % 12 = 11 then 1368 - pk.getD 0 0 else 1 + pk.getD 0 0 % 40) := by
    by_cases h : pk.getD 1 0 % 12 = 11
    · exact ⟨1368 - pk.getD 0 0, by omega, by omega, by rw [if_pos h]⟩
    · exact ⟨1 + pk.getD 0 0 % 40, by omega, by omega, by rw [if_neg h]⟩
  obtain ⟨room, v1, v2, er⟩ := hroom
  obtain ⟨szs, rz, v3, v4⟩ := r_sizes 17 ns room pk v1 v2 hp hpk
  have hc := chk_ok v1 v2 v3 v4
  have rr := hR ns szs pk room hc hp hpk
  have rsp := r_spread 17 szs room
  have rw_ := r_windows 16 szs room
  have rls := r_lspans 18 szs room (by omega)
  have hsl := spans_len room szs
  have hwl : (win (spans room szs)).length ≤ 300 := by
    unfold win
    rw [List.length_map, List.length_dropLast]
    omega
  have ssp := same_ps (spans room szs) (by omega)
  have swi := same_ps (win (spans room szs)) (by omega)
  have ssz := same_il szs (by omega)
  have rlf := r_lfew 18 szs room ((win (spans room szs)).length : Int) (win (spans room szs))
  rw [hc] at rsp rw_
  simp only [il, asFR, Nat.reduceAdd, e10] at rd rz rr rsp rw_ rls rlf
  have hlc := lcT_n (own := [10]) (tg := fun d env => asgT (.var 10) (.fz d) env) (tt := evT ⟨runF cfg 19, cfg.consts⟩ .yes) (te := evE ⟨runF cfg 19, cfg.consts⟩ (.tup (.c (.op2 .ix (.var 10) (.lit (.int 0))) (.c (.op2 .add (.op2 .ix (.var 10) (.lit (.int 1))) (.lit (.int 1))) .n))))
    (E0 := [some (.fz (.list (ns.map .int))), some (.fz (.list (pk.map .int))), some (.fz (.int room)), some (.fz (.list (szs.map .int))), some (.ow (szs.map .int)), some (.ow ((spans room szs).map pr)), none, none, none, none, none, none, none]) (f := pr) (g := fun p => pr (p.1, p.2 + 1))
    (fun p => ⟨_, _, _, _, by simp only [x_var, x_lit, x_op1, x_op2, x_sl, x_tup, x_lst, x_call, x_ite, x_andV, x_orV, x_notV, x_revL, x_comp, x_n, x_c, t_val, t_and, t_or, t_not, t_yes, i_seq, i_r1, i_r2, i_enum, i_zip, i_rev, s_asg, s_aug, s_app, s_setI, s_expr, s_if, s_whl, s_for, s_ret, s_retV, s_retN, s_brk, s_cont, s_pass, s_raise, s_try, q_n, q_c, b_ok, b_exc, b_bad, b_ite, u_ok, u_exc, u_bad, u_ite, o_some, o_none, q_nx, q_rt, q_bk, q_ct, q_exc, q_bad, q_ite, of_some, f_nx, f_rt, f_exc, f_ite, c_ok, c_exc, c_ite, an_t, an_b, or_b, no_b, rv_l, in_i, au_s, li_s, re_s, nx_s, en_l, zi_l, ri_l, tr_nx, tr_rt, tr_bk, tr_ct, tr_exc, tr_ite, rd_c, rd_s, pk_c, pk_f, pk_o, bo_var, bo_lit, op_lit, bo_glob, op_glob, bo_op1, op_op1, bo_op2, op_op2, bo_sl, op_sl, bo_tup, op_tup, bo_lst, op_lst, bo_call, op_call, bo_ite, op_ite, bo_andV, op_andV, bo_orV, op_orV, bo_notV, op_notV, bo_revL, op_revL, bo_comp, op_comp, op_var, op_abs, opR_i, g_var, g_tup, gs_n, gs_c, d_fz, d_ow, a_add, a_sub, a_lt, a_le, a_gt, a_ge, a_max, a_min, a_mul, a_fdiv, a_mod, a_pow, a_addl, a_addt, a_adds, a_mull, a_eqi, a_nei, a_ixl, a_ixt, a1_neg, a1_lenl, a1_lent, a1_lens, a1_listl, a1_listt, a1_tupl, a1_tupt, a1_int, a1_sum, a1_isN, a1_notN, y_int_i, y_bool_i, y_str_i, y_list_i, y_tuple_i, nn_i, y_int_s, y_bool_s, y_str_s, y_list_s, y_tuple_s, nn_s, y_int_b, y_bool_b, y_str_b, y_list_b, y_tuple_b, nn_b, y_int_l, y_bool_l, y_str_l, y_list_l, y_tuple_l, nn_l, y_int_t, y_bool_t, y_str_t, y_list_t, y_tuple_t, nn_t, y_int_n, y_bool_n, y_str_n, y_list_n, y_tuple_n, nn_n, tr_b, tr_i, tr_l, tr_t, a3_l, a3_t, sq_l, sq_t, au_add, au_sub, List.getElem?_cons_zero, List.getElem?_cons_succ, List.set_cons_zero, List.set_cons_succ, Option.map_some, Option.bind_some, if_true, if_false, Bool.false_eq_true, reduceIte, Exs.len, Nat.reduceAdd, Nat.reduceLeDiff, Nat.reduceLT, List.length_cons, List.length_nil, Nat.lt_add_left_iff_pos, Nat.zero_lt_succ, decide_true, decide_false, Bool.not_true, Bool.not_false, List.map_cons, List.map_nil, List.replicate, List.cons_append, List.nil_append, decide_eq_true_eq, Bool.not_eq_true', decide_eq_false_iff_not, Bool.and_eq_true, Bool.or_eq_true, or_self, or_false, false_or, or_true, true_or, and_true, true_and, and_self, not_false_eq_true, not_true_eq_false, ite_self]; rfl, by simp only [x_var, x_lit, x_op1, x_op2, x_sl, x_tup, x_lst, x_call, x_ite, x_andV, x_orV, x_notV, x_revL, x_comp, x_n, x_c, t_val, t_and, t_or, t_not, t_yes, i_seq, i_r1, i_r2, i_enum, i_zip, i_rev, s_asg, s_aug, s_app, s_setI, s_expr, s_if, s_whl, s_for, s_ret, s_retV, s_retN, s_brk, s_cont, s_pass, s_raise, s_try, q_n, q_c, b_ok, b_exc, b_bad, b_ite, u_ok, u_exc, u_bad, u_ite, o_some, o_none, q_nx, q_rt, q_bk, q_ct, q_exc, q_bad, q_ite, of_some, f_nx, f_rt, f_exc, f_ite, c_ok, c_exc, c_ite, an_t, an_b, or_b, no_b, rv_l, in_i, au_s, li_s, re_s, nx_s, en_l, zi_l, ri_l, tr_nx, tr_rt, tr_bk, tr_ct, tr_exc, tr_ite, rd_c, rd_s, pk_c, pk_f, pk_o, bo_var, bo_lit, op_lit, bo_glob, op_glob, bo_op1, op_op1, bo_op2, op_op2, bo_sl, op_sl, bo_tup, op_tup, bo_lst, op_lst, bo_call, op_call, bo_ite, op_ite, bo_andV, op_andV, bo_orV, op_orV, bo_notV, op_notV, bo_revL, op_revL, bo_comp, op_comp, op_var, op_abs, opR_i, g_var, g_tup, gs_n, gs_c, d_fz, d_ow, a_add, a_sub, a_lt, a_le, a_gt, a_ge, a_max, a_min, a_mul, a_fdiv, a_mod, a_pow, a_addl, a_addt, a_adds, a_mull, a_eqi, a_nei, a_ixl, a_ixt, a1_neg, a1_lenl, a1_lent, a1_lens, a1_listl, a1_listt, a1_tupl, a1_tupt, a1_int, a1_sum, a1_isN, a1_notN, y_int_i, y_bool_i, y_str_i, y_list_i, y_tuple_i, nn_i, y_int_s, y_bool_s, y_str_s, y_list_s, y_tuple_s, nn_s, y_int_b, y_bool_b, y_str_b, y_list_b, y_tuple_b, nn_b, y_int_l, y_bool_l, y_str_l, y_list_l, y_tuple_l, nn_l, y_int_t, y_bool_t, y_str_t, y_list_t, y_tuple_t, nn_t, y_int_n, y_bool_n, y_str_n, y_list_n, y_tuple_n, nn_n, tr_b, tr_i, tr_l, tr_t, a3_l, a3_t, sq_l, sq_t, au_add, au_sub, List.getElem?_cons_zero, List.getElem?_cons_succ, List.set_cons_zero, List.set_cons_succ, Option.map_some, Option.bind_some, if_true, if_false, Bool.false_eq_true, reduceIte, Exs.len, Nat.reduceAdd, Nat.reduceLeDiff, Nat.reduceLT, List.length_cons, List.length_nil, Nat.lt_add_left_iff_pos, Nat.zero_lt_succ, decide_true, decide_false, Bool.not_true, Bool.not_false, List.map_cons, List.map_nil, List.replicate, List.cons_append, List.nil_append, decide_eq_true_eq, Bool.not_eq_true', decide_eq_false_iff_not, Bool.and_eq_true, Bool.or_eq_true, or_self, or_false, false_or, or_true, true_or, and_true, true_and, and_self, not_false_eq_true, not_true_eq_false, ite_self]; rfl, by simp only [x_var, x_lit, x_op1, x_op2, x_sl, x_tup, x_lst, x_call, x_ite, x_andV, x_orV, x_notV, x_revL, x_comp, x_n, x_c, t_val, t_and, t_or, t_not, t_yes, i_seq, i_r1, i_r2, i_enum, i_zip, i_rev, s_asg, s_aug, s_app, s_setI, s_expr, s_if, s_whl, s_for, s_ret, s_retV, s_retN, s_brk, s_cont, s_pass, s_raise, s_try, q_n, q_c, b_ok, b_exc, b_bad, b_ite, u_ok, u_exc, u_bad, u_ite, o_some, o_none, q_nx, q_rt, q_bk, q_ct, q_exc, q_bad, q_ite, of_some, f_nx, f_rt, f_exc, f_ite, c_ok, c_exc, c_ite, an_t, an_b, or_b, no_b, rv_l, in_i, au_s, li_s, re_s, nx_s, en_l, zi_l, ri_l, tr_nx, tr_rt, tr_bk, tr_ct, tr_exc, tr_ite, rd_c, rd_s, pk_c, pk_f, pk_o, bo_var, bo_lit, op_lit, bo_glob, op_glob, bo_op1, op_op1, bo_op2, op_op2, bo_sl, op_sl, bo_tup, op_tup, bo_lst, op_lst, bo_call, op_call, bo_ite, op_ite, bo_andV, op_andV, bo_orV, op_orV, bo_notV, op_notV, bo_revL, op_revL, bo_comp, op_comp, op_var, op_abs, opR_i, g_var, g_tup, gs_n, gs_c, d_fz, d_ow, a_add, a_sub, a_lt, a_le, a_gt, a_ge, a_max, a_min, a_mul, a_fdiv, a_mod, a_pow, a_addl, a_addt, a_adds, a_mull, a_eqi, a_nei, a_ixl, a_ixt, a1_neg, a1_lenl, a1_lent, a1_lens, a1_listl, a1_listt, a1_tupl, a1_tupt, a1_int, a1_sum, a1_isN, a1_notN, y_int_i, y_bool_i, y_str_i, y_list_i, y_tuple_i, nn_i, y_int_s, y_bool_s, y_str_s, y_list_s, y_tuple_s, nn_s, y_int_b, y_bool_b, y_str_b, y_list_b, y_tuple_b, nn_b, y_int_l, y_bool_l, y_str_l, y_list_l, y_tuple_l, nn_l, y_int_t, y_bool_t, y_str_t, y_list_t, y_tuple_t, nn_t, y_int_n, y_bool_n, y_str_n, y_list_n, y_tuple_n, nn_n, tr_b, tr_i, tr_l, tr_t, a3_l, a3_t, sq_l, sq_t, au_add, au_sub, List.getElem?_cons_zero, List.getElem?_cons_succ, List.set_cons_zero, List.set_cons_succ, Option.map_some, Option.bind_some, if_true, if_false, Bool.false_eq_true, reduceIte, Exs.len, Nat.reduceAdd, Nat.reduceLeDiff, Nat.reduceLT, List.length_cons, List.length_nil, Nat.lt_add_left_iff_pos, Nat.zero_lt_succ, decide_true, decide_false, Bool.not_true, Bool.not_false, List.map_cons, List.map_nil, List.replicate, List.cons_append, List.nil_append, decide_eq_true_eq, Bool.not_eq_true', decide_eq_false_iff_not, Bool.and_eq_true, Bool.or_eq_true, or_self, or_false, false_or, or_true, true_or, and_true, true_and, and_self, not_false_eq_true, not_true_eq_false, ite_self, ix0, ix1]; rfl, rfl, rfl⟩) (spans room szs).dropLast [] (by
      rw [List.length_dropLast, List.length_nil]
      exact Nat.le_trans (by omega : _ ≤ 1000) (by decide))
  have hwm : (spans room szs).dropLast.map (fun p => pr (p.1, p.2 + 1)) = (win (spans room szs)).map pr := by
    unfold win
    rw [List.map_map]
    rfl
  rw [hwm, List.nil_append] at hlc
  obtain ⟨j', el⟩ := law_loop ns pk szs room hc hp hpk [((spans room szs).length : Int), ((spans room szs).length : Int) - 1, 0, pk.getD 5 0, 0 - 1 - pk.getD 6 0] (none, none, none, none, none)
  simp only [lawB, f_law, lawE, List.map_cons, List.map_nil] at el
  rw [run_at (show cfg.funs[17]? = some f_law from rfl) rfl]

  have cmx := cut_mx (spans room szs)
  by_cases h9 : pk.getD 9 0 % 5 = 4
  · by_cases h11 : pk.getD 1 0 % 12 = 11
    · rw [if_pos h11] at er
      rw [er] at rz rr
      simp only [f_law, il, x_var, x_lit, x_op1, x_op2, x_sl, x_tup, x_lst, x_call, x_ite, x_andV, x_orV, x_notV, x_revL, x_comp, x_n, x_c, t_val, t_and, t_or, t_not, t_yes, i_seq, i_r1, i_r2, i_enum, i_zip, i_rev, s_asg, s_aug, s_app, s_setI, s_expr, s_if, s_whl, s_for, s_ret, s_retV, s_retN, s_brk, s_cont, s_pass, s_raise, s_try, q_n, q_c, b_ok, b_exc, b_bad, b_ite, u_ok, u_exc, u_bad, u_ite, o_some, o_none, q_nx, q_rt, q_bk, q_ct, q_exc, q_bad, q_ite, of_some, f_nx, f_rt, f_exc, f_ite, c_ok, c_exc, c_ite, an_t, an_b, or_b, no_b, rv_l, in_i, au_s, li_s, re_s, nx_s, en_l, zi_l, ri_l, tr_nx, tr_rt, tr_bk, tr_ct, tr_exc, tr_ite, rd_c, rd_s, pk_c, pk_f, pk_o, bo_var, bo_lit, op_lit, bo_glob, op_glob, bo_op1, op_op1, bo_op2, op_op2, bo_sl, op_sl, bo_tup, op_tup, bo_lst, op_lst, bo_call, op_call, bo_ite, op_ite, bo_andV, op_andV, bo_orV, op_orV, bo_notV, op_notV, bo_revL, op_revL, bo_comp, op_comp, op_var, op_abs, opR_i, g_var, g_tup, gs_n, gs_c, d_fz, d_ow, a_add, a_sub, a_lt, a_le, a_gt, a_ge, a_max, a_min, a_mul, a_fdiv, a_mod, a_pow, a_addl, a_addt, a_adds, a_mull, a_eqi, a_nei, a_ixl, a_ixt, a1_neg, a1_lenl, a1_lent, a1_lens, a1_listl, a1_listt, a1_tupl, a1_tupt, a1_int, a1_sum, a1_isN, a1_notN, y_int_i, y_bool_i, y_str_i, y_list_i, y_tuple_i, nn_i, y_int_s, y_bool_s, y_str_s, y_list_s, y_tuple_s, nn_s, y_int_b, y_bool_b, y_str_b, y_list_b, y_tuple_b, nn_b, y_int_l, y_bool_l, y_str_l, y_list_l, y_tuple_l, nn_l, y_int_t, y_bool_t, y_str_t, y_list_t, y_tuple_t, nn_t, y_int_n, y_bool_n, y_str_n, y_list_n, y_tuple_n, nn_n, tr_b, tr_i, tr_l, tr_t, a3_l, a3_t, sq_l, sq_t, au_add, au_sub, List.getElem?_cons_zero, List.getElem?_cons_succ, List.set_cons_zero, List.set_cons_succ, Option.map_some, Option.bind_some, if_true, if_false, Bool.false_eq_true, reduceIte, Exs.len, Nat.reduceAdd, Nat.reduceLeDiff, Nat.reduceLT, List.length_cons, List.length_nil, Nat.lt_add_left_iff_pos, Nat.zero_lt_succ, decide_true, decide_false, Bool.not_true, Bool.not_false, List.map_cons, List.map_nil, List.replicate, List.cons_append, List.nil_append, decide_eq_true_eq, Bool.not_eq_true', decide_eq_false_iff_not, Bool.and_eq_true, Bool.or_eq_true, or_self, or_false, false_or, or_true, true_or, and_true, true_and, and_self, not_false_eq_true, not_true_eq_false, ite_self, Int.reduceLT, gl1, rd, s200, i0, i1, i9, h9, h11, rz, rr]
    · rw [if_neg h11] at er
      rw [er] at rz rr
      simp only [f_law, il, x_var, x_lit, x_op1, x_op2, x_sl, x_tup, x_lst, x_call, x_ite, x_andV, x_orV, x_notV, x_revL, x_comp, x_n, x_c, t_val, t_and, t_or, t_not, t_yes, i_seq, i_r1, i_r2, i_enum, i_zip, i_rev, s_asg, s_aug, s_app, s_setI, s_expr, s_if, s_whl, s_for, s_ret, s_retV, s_retN, s_brk, s_cont, s_pass, s_raise, s_try, q_n, q_c, b_ok, b_exc, b_bad, b_ite, u_ok, u_exc, u_bad, u_ite, o_some, o_none, q_nx, q_rt, q_bk, q_ct, q_exc, q_bad, q_ite, of_some, f_nx, f_rt, f_exc, f_ite, c_ok, c_exc, c_ite, an_t, an_b, or_b, no_b, rv_l, in_i, au_s, li_s, re_s, nx_s, en_l, zi_l, ri_l, tr_nx, tr_rt, tr_bk, tr_ct, tr_exc, tr_ite, rd_c, rd_s, pk_c, pk_f, pk_o, bo_var, bo_lit, op_lit, bo_glob, op_glob, bo_op1, op_op1, bo_op2, op_op2, bo_sl, op_sl, bo_tup, op_tup, bo_lst, op_lst, bo_call, op_call, bo_ite, op_ite, bo_andV, op_andV, bo_orV, op_orV, bo_notV, op_notV, bo_revL, op_revL, bo_comp, op_comp, op_var, op_abs, opR_i, g_var, g_tup, gs_n, gs_c, d_fz, d_ow, a_add, a_sub, a_lt, a_le, a_gt, a_ge, a_max, a_min, a_mul, a_fdiv, a_mod, a_pow, a_addl, a_addt, a_adds, a_mull, a_eqi, a_nei, a_ixl, a_ixt, a1_neg, a1_lenl, a1_lent, a1_lens, a1_listl, a1_listt, a1_tupl, a1_tupt, a1_int, a1_sum, a1_isN, a1_notN, y_int_i, y_bool_i, y_str_i, y_list_i, y_tuple_i, nn_i, y_int_s, y_bool_s, y_str_s, y_list_s, y_tuple_s, nn_s, y_int_b, y_bool_b, y_str_b, y_list_b, y_tuple_b, nn_b, y_int_l, y_bool_l, y_str_l, y_list_l, y_tuple_l, nn_l, y_int_t, y_bool_t, y_str_t, y_list_t, y_tuple_t, nn_t, y_int_n, y_bool_n, y_str_n, y_list_n, y_tuple_n, nn_n, tr_b, tr_i, tr_l, tr_t, a3_l, a3_t, sq_l, sq_t, au_add, au_sub, List.getElem?_cons_zero, List.getElem?_cons_succ, List.set_cons_zero, List.set_cons_succ, Option.map_some, Option.bind_some, if_true, if_false, Bool.false_eq_true, reduceIte, Exs.len, Nat.reduceAdd, Nat.reduceLeDiff, Nat.reduceLT, List.length_cons, List.length_nil, Nat.lt_add_left_iff_pos, Nat.zero_lt_succ, decide_true, decide_false, Bool.not_true, Bool.not_false, List.map_cons, List.map_nil, List.replicate, List.cons_append, List.nil_append, decide_eq_true_eq, Bool.not_eq_true', decide_eq_false_iff_not, Bool.and_eq_true, Bool.or_eq_true, or_self, or_false, false_or, or_true, true_or, and_true, true_and, and_self, not_false_eq_true, not_true_eq_false, ite_self, Int.reduceLT, gl1, rd, s200, i0, i1, i9, h9, h11, rz, rr]
  · by_cases h11 : pk.getD 1 0 % 12 = 11
    · rw [if_pos h11] at er
      by_cases hs0 : szs = []
      · subst hs0
        simp only [List.map_nil, List.length_nil] at rz rls rlf rsp rw_ ssz hlc el cmx ssp swi
        simp only [f_law, il, x_var, x_lit, x_op1, x_op2, x_sl, x_tup, x_lst, x_call, x_ite, x_andV, x_orV, x_notV, x_revL, x_comp, x_n, x_c, t_val, t_and, t_or, t_not, t_yes, i_seq, i_r1, i_r2, i_enum, i_zip, i_rev, s_asg, s_aug, s_app, s_setI, s_expr, s_if, s_whl, s_for, s_ret, s_retV, s_retN, s_brk, s_cont, s_pass, s_raise, s_try, q_n, q_c, b_ok, b_exc, b_bad, b_ite, u_ok, u_exc, u_bad, u_ite, o_some, o_none, q_nx, q_rt, q_bk, q_ct, q_exc, q_bad, q_ite, of_some, f_nx, f_rt, f_exc, f_ite, c_ok, c_exc, c_ite, an_t, an_b, or_b, no_b, rv_l, in_i, au_s, li_s, re_s, nx_s, en_l, zi_l, ri_l, tr_nx, tr_rt, tr_bk, tr_ct, tr_exc, tr_ite, rd_c, rd_s, pk_c, pk_f, pk_o, bo_var, bo_lit, op_lit, bo_glob, op_glob, bo_op1, op_op1, bo_op2, op_op2, bo_sl, op_sl, bo_tup, op_tup, bo_lst, op_lst, bo_call, op_call, bo_ite, op_ite, bo_andV, op_andV, bo_orV, op_orV, bo_notV, op_notV, bo_revL, op_revL, bo_comp, op_comp, op_var, op_abs, opR_i, g_var, g_tup, gs_n, gs_c, d_fz, d_ow, a_add, a_sub, a_lt, a_le, a_gt, a_ge, a_max, a_min, a_mul, a_fdiv, a_mod, a_pow, a_addl, a_addt, a_adds, a_mull, a_eqi, a_nei, a_ixl, a_ixt, a1_neg, a1_lenl, a1_lent, a1_lens, a1_listl, a1_listt, a1_tupl, a1_tupt, a1_int, a1_sum, a1_isN, a1_notN, y_int_i, y_bool_i, y_str_i, y_list_i, y_tuple_i, nn_i, y_int_s, y_bool_s, y_str_s, y_list_s, y_tuple_s, nn_s, y_int_b, y_bool_b, y_str_b, y_list_b, y_tuple_b, nn_b, y_int_l, y_bool_l, y_str_l, y_list_l, y_tuple_l, nn_l, y_int_t, y_bool_t, y_str_t, y_list_t, y_tuple_t, nn_t, y_int_n, y_bool_n, y_str_n, y_list_n, y_tuple_n, nn_n, tr_b, tr_i, tr_l, tr_t, a3_l, a3_t, sq_l, sq_t, au_add, au_sub, List.getElem?_cons_zero, List.getElem?_cons_succ, List.set_cons_zero, List.set_cons_succ, Option.map_some, Option.bind_some, if_true, if_false, Bool.false_eq_true, reduceIte, Exs.len, Nat.reduceAdd, Nat.reduceLeDiff, Nat.reduceLT, List.length_cons, List.length_nil, Nat.lt_add_left_iff_pos, Nat.zero_lt_succ, decide_true, decide_false, Bool.not_true, Bool.not_false, List.map_cons, List.map_nil, List.replicate, List.cons_append, List.nil_append, decide_eq_true_eq, Bool.not_eq_true', decide_eq_false_iff_not, Bool.and_eq_true, Bool.or_eq_true, or_self, or_false, false_or, or_true, true_or, and_true, true_and, and_self, not_false_eq_true, not_true_eq_false, ite_self, Int.reduceLT, gl1, rd, s200, i0, i1, h11, ← er, i5, i6, i9, h9, rz, rls, List.length_map, cut_map, cmx, compR, wipeE, hlc, Res.nox, rsp, ssp, rw_, swi, forR, el, ssz, Int.natCast_zero]
      · have hpos : (0 : Int) < (szs.length : Int) := by
          have := List.length_pos_iff.mpr hs0
          omega
        have hfew := few_win (ns := szs) (room := room) (fun x hx => (v4 x hx).2) hs0
        rw [hfew] at rlf
        simp only [f_law, il, x_var, x_lit, x_op1, x_op2, x_sl, x_tup, x_lst, x_call, x_ite, x_andV, x_orV, x_notV, x_revL, x_comp, x_n, x_c, t_val, t_and, t_or, t_not, t_yes, i_seq, i_r1, i_r2, i_enum, i_zip, i_rev, s_asg, s_aug, s_app, s_setI, s_expr, s_if, s_whl, s_for, s_ret, s_retV, s_retN, s_brk, s_cont, s_pass, s_raise, s_try, q_n, q_c, b_ok, b_exc, b_bad, b_ite, u_ok, u_exc, u_bad, u_ite, o_some, o_none, q_nx, q_rt, q_bk, q_ct, q_exc, q_bad, q_ite, of_some, f_nx, f_rt, f_exc, f_ite, c_ok, c_exc, c_ite, an_t, an_b, or_b, no_b, rv_l, in_i, au_s, li_s, re_s, nx_s, en_l, zi_l, ri_l, tr_nx, tr_rt, tr_bk, tr_ct, tr_exc, tr_ite, rd_c, rd_s, pk_c, pk_f, pk_o, bo_var, bo_lit, op_lit, bo_glob, op_glob, bo_op1, op_op1, bo_op2, op_op2, bo_sl, op_sl, bo_tup, op_tup, bo_lst, op_lst, bo_call, op_call, bo_ite, op_ite, bo_andV, op_andV, bo_orV, op_orV, bo_notV, op_notV, bo_revL, op_revL, bo_comp, op_comp, op_var, op_abs, opR_i, g_var, g_tup, gs_n, gs_c, d_fz, d_ow, a_add, a_sub, a_lt, a_le, a_gt, a_ge, a_max, a_min, a_mul, a_fdiv, a_mod, a_pow, a_addl, a_addt, a_adds, a_mull, a_eqi, a_nei, a_ixl, a_ixt, a1_neg, a1_lenl, a1_lent, a1_lens, a1_listl, a1_listt, a1_tupl, a1_tupt, a1_int, a1_sum, a1_isN, a1_notN, y_int_i, y_bool_i, y_str_i, y_list_i, y_tuple_i, nn_i, y_int_s, y_bool_s, y_str_s, y_list_s, y_tuple_s, nn_s, y_int_b, y_bool_b, y_str_b, y_list_b, y_tuple_b, nn_b, y_int_l, y_bool_l, y_str_l, y_list_l, y_tuple_l, nn_l, y_int_t, y_bool_t, y_str_t, y_list_t, y_tuple_t, nn_t, y_int_n, y_bool_n, y_str_n, y_list_n, y_tuple_n, nn_n, tr_b, tr_i, tr_l, tr_t, a3_l, a3_t, sq_l, sq_t, au_add, au_sub, List.getElem?_cons_zero, List.getElem?_cons_succ, List.set_cons_zero, List.set_cons_succ, Option.map_some, Option.bind_some, if_true, if_false, Bool.false_eq_true, reduceIte, Exs.len, Nat.reduceAdd, Nat.reduceLeDiff, Nat.reduceLT, List.length_cons, List.length_nil, Nat.lt_add_left_iff_pos, Nat.zero_lt_succ, decide_true, decide_false, Bool.not_true, Bool.not_false, List.map_cons, List.map_nil, List.replicate, List.cons_append, List.nil_append, decide_eq_true_eq, Bool.not_eq_true', decide_eq_false_iff_not, Bool.and_eq_true, Bool.or_eq_true, or_self, or_false, false_or, or_true, true_or, and_true, true_and, and_self, not_false_eq_true, not_true_eq_false, ite_self, Int.reduceLT, gl1, rd, s200, i0, i1, h11, ← er, i5, i6, i9, h9, rz, rls, List.length_map, cut_map, cmx, compR, wipeE, hlc, Res.nox, rsp, ssp, rw_, swi, hpos, rlf, forR, el, ssz]
    · rw [if_neg h11] at er
      by_cases hs0 : szs = []
      · subst hs0
        simp only [List.map_nil, List.length_nil] at rz rls rlf rsp rw_ ssz hlc el cmx ssp swi
        simp only [f_law, il, x_var, x_lit, x_op1, x_op2, x_sl, x_tup, x_lst, x_call, x_ite, x_andV, x_orV, x_notV, x_revL, x_comp, x_n, x_c, t_val, t_and, t_or, t_not, t_yes, i_seq, i_r1, i_r2, i_enum, i_zip, i_rev, s_asg, s_aug, s_app, s_setI, s_expr, s_if, s_whl, s_for, s_ret, s_retV, s_retN, s_brk, s_cont, s_pass, s_raise, s_try, q_n, q_c, b_ok, b_exc, b_bad, b_ite, u_ok, u_exc, u_bad, u_ite, o_some, o_none, q_nx, q_rt, q_bk, q_ct, q_exc, q_bad, q_ite, of_some, f_nx, f_rt, f_exc, f_ite, c_ok, c_exc, c_ite, an_t, an_b, or_b, no_b, rv_l, in_i, au_s, li_s, re_s, nx_s, en_l, zi_l, ri_l, tr_nx, tr_rt, tr_bk, tr_ct, tr_exc, tr_ite, rd_c, rd_s, pk_c, pk_f, pk_o, bo_var, bo_lit, op_lit, bo_glob, op_glob, bo_op1, op_op1, bo_op2, op_op2, bo_sl, op_sl, bo_tup, op_tup, bo_lst, op_lst, bo_call, op_call, bo_ite, op_ite, bo_andV, op_andV, bo_orV, op_orV, bo_notV, op_notV, bo_revL, op_revL, bo_comp, op_comp, op_var, op_abs, opR_i, g_var, g_tup, gs_n, gs_c, d_fz, d_ow, a_add, a_sub, a_lt, a_le, a_gt, a_ge, a_max, a_min, a_mul, a_fdiv, a_mod, a_pow, a_addl, a_addt, a_adds, a_mull, a_eqi, a_nei, a_ixl, a_ixt, a1_neg, a1_lenl, a1_lent, a1_lens, a1_listl, a1_listt, a1_tupl, a1_tupt, a1_int, a1_sum, a1_isN, a1_notN, y_int_i, y_bool_i, y_str_i, y_list_i, y_tuple_i, nn_i, y_int_s, y_bool_s, y_str_s, y_list_s, y_tuple_s, nn_s, y_int_b, y_bool_b, y_str_b, y_list_b, y_tuple_b, nn_b, y_int_l, y_bool_l, y_str_l, y_list_l, y_tuple_l, nn_l, y_int_t, y_bool_t, y_str_t, y_list_t, y_tuple_t, nn_t, y_int_n, y_bool_n, y_str_n, y_list_n, y_tuple_n, nn_n, tr_b, tr_i, tr_l, tr_t, a3_l, a3_t, sq_l, sq_t, au_add, au_sub, List.getElem?_cons_zero, List.getElem?_cons_succ, List.set_cons_zero, List.set_cons_succ, Option.map_some, Option.bind_some, if_true, if_false, Bool.false_eq_true, reduceIte, Exs.len, Nat.reduceAdd, Nat.reduceLeDiff, Nat.reduceLT, List.length_cons, List.length_nil, Nat.lt_add_left_iff_pos, Nat.zero_lt_succ, decide_true, decide_false, Bool.not_true, Bool.not_false, List.map_cons, List.map_nil, List.replicate, List.cons_append, List.nil_append, decide_eq_true_eq, Bool.not_eq_true', decide_eq_false_iff_not, Bool.and_eq_true, Bool.or_eq_true, or_self, or_false, false_or, or_true, true_or, and_true, true_and, and_self, not_false_eq_true, not_true_eq_false, ite_self, Int.reduceLT, gl1, rd, s200, i0, i1, h11, ← er, i5, i6, i9, h9, rz, rls, List.length_map, cut_map, cmx, compR, wipeE, hlc, Res.nox, rsp, ssp, rw_, swi, forR, el, ssz, Int.natCast_zero]
      · have hpos : (0 : Int) < (szs.length : Int) := by
          have := List.length_pos_iff.mpr hs0
          omega
        have hfew := few_win (ns := szs) (room := room) (fun x hx => (v4 x hx).2) hs0
        rw [hfew] at rlf
        simp only [f_law, il, x_var, x_lit, x_op1, x_op2, x_sl, x_tup, x_lst, x_call, x_ite, x_andV, x_orV, x_notV, x_revL, x_comp, x_n, x_c, t_val, t_and, t_or, t_not, t_yes, i_seq, i_r1, i_r2, i_enum, i_zip, i_rev, s_asg, s_aug, s_app, s_setI, s_expr, s_if, s_whl, s_for, s_ret, s_retV, s_retN, s_brk, s_cont, s_pass, s_raise, s_try, q_n, q_c, b_ok, b_exc, b_bad, b_ite, u_ok, u_exc, u_bad, u_ite, o_some, o_none, q_nx, q_rt, q_bk, q_ct, q_exc, q_bad, q_ite, of_some, f_nx, f_rt, f_exc, f_ite, c_ok, c_exc, c_ite, an_t, an_b, or_b, no_b, rv_l, in_i, au_s, li_s, re_s, nx_s, en_l, zi_l, ri_l, tr_nx, tr_rt, tr_bk, tr_ct, tr_exc, tr_ite, rd_c, rd_s, pk_c, pk_f, pk_o, bo_var, bo_lit, op_lit, bo_glob, op_glob, bo_op1, op_op1, bo_op2, op_op2, bo_sl, op_sl, bo_tup, op_tup, bo_lst, op_lst, bo_call, op_call, bo_ite, op_ite, bo_andV, op_andV, bo_orV, op_orV, bo_notV, op_notV, bo_revL, op_revL, bo_comp, op_comp, op_var, op_abs, opR_i, g_var, g_tup, gs_n, gs_c, d_fz, d_ow, a_add, a_sub, a_lt, a_le, a_gt, a_ge, a_max, a_min, a_mul, a_fdiv, a_mod, a_pow, a_addl, a_addt, a_adds, a_mull, a_eqi, a_nei, a_ixl, a_ixt, a1_neg, a1_lenl, a1_lent, a1_lens, a1_listl, a1_listt, a1_tupl, a1_tupt, a1_int, a1_sum, a1_isN, a1_notN, y_int_i, y_bool_i, y_str_i, y_list_i, y_tuple_i, nn_i, y_int_s, y_bool_s, y_str_s, y_list_s, y_tuple_s, nn_s, y_int_b, y_bool_b, y_str_b, y_list_b, y_tuple_b, nn_b, y_int_l, y_bool_l, y_str_l, y_list_l, y_tuple_l, nn_l, y_int_t, y_bool_t, y_str_t, y_list_t, y_tuple_t, nn_t, y_int_n, y_bool_n, y_str_n, y_list_n, y_tuple_n, nn_n, tr_b, tr_i, tr_l, tr_t, a3_l, a3_t, sq_l, sq_t, au_add, au_sub, List.getElem?_cons_zero, List.getElem?_cons_succ, List.set_cons_zero, List.set_cons_succ, Option.map_some, Option.bind_some, if_true, if_false, Bool.false_eq_true, reduceIte, Exs.len, Nat.reduceAdd, Nat.reduceLeDiff, Nat.reduceLT, List.length_cons, List.length_nil, Nat.lt_add_left_iff_pos, Nat.zero_lt_succ, decide_true, decide_false, Bool.not_true, Bool.not_false, List.map_cons, List.map_nil, List.replicate, List.cons_append, List.nil_append, decide_eq_true_eq, Bool.not_eq_true', decide_eq_false_iff_not, Bool.and_eq_true, Bool.or_eq_true, or_self, or_false, false_or, or_true, true_or, and_true, true_and, and_self, not_false_eq_true, not_true_eq_false, ite_self, Int.reduceLT, gl1, rd, s200, i0, i1, h11, ← er, i5, i6, i9, h9, rz, rls, List.length_map, cut_map, cmx, compR, wipeE, hlc, Res.nox, rsp, ssp, rw_, swi, hpos, rlf, forR, el, ssz]
end PD.K55

end

section
set_option Elab.async false
set_option linter.all false
set_option maxRecDepth 100000
namespace PD.K55
open PySem
def refB : ISs := match f__law_refuses.body with
  | .c _ (.c _ (.c _ (.c _ (.c _ (.c _ (.c _ (.c _ (.c _ (.c _ (.c (.for_ _ _ b) _)))))))))) => b
  | _ => .n
def refE (ns pk : List Int) (room more choice place : Int) (bad : D) (bc : Cell) (x : Exc) (cz : Cell) (j : Option Cell × Option Cell) : Env := [some (.fz (.list (ns.map .int))), some (.fz (.int room)), some cz, some (.fz (.list (pk.map .int))), some (.fz (.int choice)), some (.fz (.int more)), some bc, some (.fz (.int place)), some (.fz (refD x)), j.1, j.2]
theorem ref_turn (ns pk zs : List Int) (room more choice place : Int) (bad : D) (bc : Cell) {x : Exc} (h : chk zs room = some x) (cz : Cell) (hz : cz.d = .list (zs.map .int)) (i : Nat) (hi : i < 5) (j : Option Cell × Option Cell) :
    ∃ j', exSs ⟨runF cfg 18, cfg.consts⟩ refB ((refE ns pk room more choice place bad bc x cz j).set 9 (some (.fz (.int (i : Int))))) = .nx (refE ns pk room more choice place bad bc x (.fz (.list (zs.map .int))) j') := by
  have ra := fun c => r_asked_no 13 i hi zs room c h
  have rs : runF cfg 18 9 [refD x, refD x] = .ok (.fz (.bool true)) := by
    obtain ⟨v, rfl | rfl⟩ := chk_form h
    · exact r_same 10 7 _ (by simp [refD, dep, deps]) rfl
    · exact r_same 10 7 _ (by simp [refD, dep, deps]) rfl
  simp only [il, Nat.reduceAdd] at ra
  exact ⟨(_, _), by
    simp only [refB, f__law_refuses, refE, x_var, x_lit, x_op1, x_op2, x_sl, x_tup, x_lst, x_call, x_ite, x_andV, x_orV, x_notV, x_revL, x_comp, x_n, x_c, t_val, t_and, t_or, t_not, t_yes, i_seq, i_r1, i_r2, i_enum, i_zip, i_rev, s_asg, s_aug, s_app, s_setI, s_expr, s_if, s_whl, s_for, s_ret, s_retV, s_retN, s_brk, s_cont, s_pass, s_raise, s_try, q_n, q_c, b_ok, b_exc, b_bad, b_ite, u_ok, u_exc, u_bad, u_ite, o_some, o_none, q_nx, q_rt, q_bk, q_ct, q_exc, q_bad, q_ite, of_some, f_nx, f_rt, f_exc, f_ite, c_ok, c_exc, c_ite, an_t, an_b, or_b, no_b, rv_l, in_i, au_s, li_s, re_s, nx_s, en_l, zi_l, ri_l, tr_nx, tr_rt, tr_bk, tr_ct, tr_exc, tr_ite, rd_c, rd_s, pk_c, pk_f, pk_o, bo_var, bo_lit, op_lit, bo_glob, op_glob, bo_op1, op_op1, bo_op2, op_op2, bo_sl, op_sl, bo_tup, op_tup, bo_lst, op_lst, bo_call, op_call, bo_ite, op_ite, bo_andV, op_andV, bo_orV, op_orV, bo_notV, op_notV, bo_revL, op_revL, bo_comp, op_comp, op_var, op_abs, opR_i, g_var, g_tup, gs_n, gs_c, d_fz, d_ow, a_add, a_sub, a_lt, a_le, a_gt, a_ge, a_max, a_min, a_mul, a_fdiv, a_mod, a_pow, a_addl, a_addt, a_adds, a_mull, a_eqi, a_nei, a_ixl, a_ixt, a1_neg, a1_lenl, a1_lent, a1_lens, a1_listl, a1_listt, a1_tupl, a1_tupt, a1_int, a1_sum, a1_isN, a1_notN, y_int_i, y_bool_i, y_str_i, y_list_i, y_tuple_i, nn_i, y_int_s, y_bool_s, y_str_s, y_list_s, y_tuple_s, nn_s, y_int_b, y_bool_b, y_str_b, y_list_b, y_tuple_b, nn_b, y_int_l, y_bool_l, y_str_l, y_list_l, y_tuple_l, nn_l, y_int_t, y_bool_t, y_str_t, y_list_t, y_tuple_t, nn_t, y_int_n, y_bool_n, y_str_n, y_list_n, y_tuple_n, nn_n, tr_b, tr_i, tr_l, tr_t, a3_l, a3_t, sq_l, sq_t, au_add, au_sub, List.getElem?_cons_zero, List.getElem?_cons_succ, List.set_cons_zero, List.set_cons_succ, Option.map_some, Option.bind_some, if_true, if_false, Bool.false_eq_true, reduceIte, Exs.len, Nat.reduceAdd, Nat.reduceLeDiff, Nat.reduceLT, List.length_cons, List.length_nil, Nat.lt_add_left_iff_pos, Nat.zero_lt_succ, decide_true, decide_false, Bool.not_true, Bool.not_false, List.map_cons, List.map_nil, List.replicate, List.cons_append, List.nil_append, decide_eq_true_eq, Bool.not_eq_true', decide_eq_false_iff_not, Bool.and_eq_true, Bool.or_eq_true, or_self, or_false, false_or, or_true, true_or, and_true, true_and, and_self, not_false_eq_true, not_true_eq_false, ite_self, forR, forL, hz, ra, rs]
    rfl⟩
theorem ref_loop (ns pk zs : List Int) (room more choice place : Int) (bad : D) (bc : Cell) {x : Exc} (h : chk zs room = some x) : ∀ (nums : List Nat) (cz : Cell) (j : Option Cell × Option Cell), (∀ i ∈ nums, i < 5) → cz.d = .list (zs.map .int) →
    ∃ cz' j', forL (.var 9) (exSs ⟨runF cfg 18, cfg.consts⟩ refB) (nums.map fun (i : Nat) => PyData.int (i : Int)) (refE ns pk room more choice place bad bc x cz j) = .nx (refE ns pk room more choice place bad bc x cz' j')
  | [], cz, j, _, _ => ⟨cz, j, rfl⟩
  | i :: nums, cz, j, hn, hz => by
    obtain ⟨j1, e1⟩ := ref_turn ns pk zs room more choice place bad bc h cz hz i (hn i (List.mem_cons_self ..)) j
    obtain ⟨cz2, j2, e2⟩ := ref_loop ns pk zs room more choice place bad bc h nums (.fz (.list (zs.map .int))) j1 (fun k hk => hn k (List.mem_cons_of_mem _ hk)) rfl
    refine ⟨cz2, j2, ?_⟩
    have a : asgT (.var 9) (.fz (.int (i : Int))) (refE ns pk room more choice place bad bc x cz j) = some ((refE ns pk room more choice place bad bc x cz j).set 9 (some (.fz (.int (i : Int))))) := rfl
    rw [List.map_cons, forL, a]
    dsimp only
    rw [e1]
    exact e2
end PD.K55

end

section
set_option Elab.async false
set_option linter.all false
set_option maxRecDepth 100000
namespace PD.K55
open PySem
theorem set_i (ds : List D) (k : Int) (d : D) (f : List D → Env) {m : Nat} (h : L2.ixN ds.length k = some m) : setR ds (.int k) d f = .nx (f (ds.set m d)) := by
  simp only [setR, h]
theorem ixN_nat (n m : Nat) (h : m < n) : L2.ixN n (m : Int) = some m := by
  unfold L2.ixN
  rw [if_pos (by omega), if_pos (by omega), Int.toNat_natCast]
def ones : List Int := List.replicate 201 1
theorem ones_len : ones.length = 201 := by simp [ones]
theorem mul201 : a2 .mul (.list [.int 1]) (.int 201) = some (.ow (ones.map .int)) := by
  rw [a_mull, if_pos (by refine ⟨by decide, by decide, by decide⟩)]
  rfl
theorem chk_first {A B : List Int} {room v : Int} (h1 : 1 ≤ room) (h2 : room ≤ 1368) (h3 : (A ++ v :: B).length ≤ 200) (h4 : ∀ x ∈ A, 1 ≤ x ∧ x ≤ room) (h5 : v < 1 ∨ room < v) : chk (A ++ v :: B) room = some ⟨1, [.int v]⟩ := by
  unfold chk
  rw [if_neg (by omega), if_neg (by omega)]
  have e : (A ++ v :: B).find? (fun s => decide (s < 1 ∨ room < s)) = some v := by
    rw [List.find?_append]
    have : A.find? (fun s => decide (s < 1 ∨ room < s)) = none := by
      rw [List.find?_eq_none]
      intro x hx
      have := h4 x hx
      simp only [decide_eq_true_eq]
      omega
    rw [this, List.find?_cons, decide_eq_true h5]
    rfl
  rw [e]
theorem chk_long {zs : List Int} {room : Int} (h1 : 1 ≤ room) (h2 : room ≤ 1368) (h3 : 200 < zs.length) : chk zs room = some ⟨2, [.int 200]⟩ := by
  unfold chk
  rw [if_neg (by omega), if_pos h3]
theorem chk_room {zs : List Int} {room : Int} (h : room < 1 ∨ 1368 < room) : chk zs room = some ⟨1, [.int room]⟩ := by
  unfold chk
  rw [if_pos h]
theorem cut_take {α : Type} (xs : List α) (p : Nat) : cut xs none (some (p : Int)) = xs.take p := by
  unfold cut
  rw [HT.sIx_nat, HT.sIx_none, List.drop_zero, Nat.sub_zero]
  rcases Nat.le_total p xs.length with h | h
  · rw [Nat.min_eq_left h]
  · rw [Nat.min_eq_right h, List.take_of_length_le (Nat.le_refl _), List.take_of_length_le h]
theorem cut_dropN {α : Type} (xs : List α) (p : Nat) (h : p ≤ xs.length) : cut xs (some (p : Int)) none = xs.drop p := by
  unfold cut
  rw [HT.sIx_nat, HT.sIx_none, Nat.min_eq_left h, ← List.length_drop, List.take_length]
theorem r_refuses (ns szs pk : List Int) (room : Int) (hc : chk szs room = none) (hp : pk.length = 10) (hpk : ∀ x ∈ pk, 0 ≤ x ∧ x < 60) : runF cfg 19 16 [il ns, .int room, il szs, il pk] = .ok (.fz (.bool true)) := by
  obtain ⟨v1, v2, v3, v4⟩ := chk_none hc
  have i4 : L2.atI (pk.map PyData.int) 4 = some (.int (pk.getD 4 0)) := ix_int pk 4 (by omega)
  have i5 : L2.atI (pk.map PyData.int) 5 = some (.int (pk.getD 5 0)) := ix_int pk 5 (by omega)
  have i6 : L2.atI (pk.map PyData.int) 6 = some (.int (pk.getD 6 0)) := ix_int pk 6 (by omega)
  have i7 : L2.atI (pk.map PyData.int) 7 = some (.int (pk.getD 7 0)) := ix_int pk 7 (by omega)
  have i8 : L2.atI (pk.map PyData.int) 8 = some (.int (pk.getD 8 0)) := ix_int pk 8 (by omega)
  obtain ⟨mo, emo, mo0⟩ : ∃ mo : Int, (if pk.getD 7 0 - 29 > 0 then pk.getD 7 0 - 29 else 0) = mo ∧ 0 ≤ mo := ⟨_, rfl, by split <;> omega⟩
  have hl1 : (0 : Int) < (szs.length : Int) + 1 := by omega
  have hpl := Int.emod_nonneg (pk.getD 5 0) (show (szs.length : Int) + 1 ≠ 0 by omega)
  have hpl2 := Int.emod_lt_of_pos (pk.getD 5 0) hl1
  obtain ⟨pl, epl⟩ : ∃ pl : Nat, pk.getD 5 0 % ((szs.length : Int) + 1) = (pl : Int) := ⟨(pk.getD 5 0 % ((szs.length : Int) + 1)).toNat, by omega⟩
  have hpl3 : pl ≤ szs.length := by omega
  have bad2 : ∀ q : Int, ∃ v : Int, L2.atI [PyData.int (0 - mo), PyData.int (room + 1 + mo)] (q % 2) = some (.int v) ∧ (v < 1 ∨ room < v) := by
    intro q
    have : q % 2 = 0 ∨ q % 2 = 1 := by omega
    rcases this with h | h
    · exact ⟨_, by rw [h]; rfl, .inl (by omega)⟩
    · exact ⟨_, by rw [h]; rfl, .inr (by omega)⟩
  obtain ⟨b8, eb8, hb8⟩ := bad2 (pk.getD 8 0)
  obtain ⟨b4, eb4, hb4⟩ := bad2 (pk.getD 4 0)
  have r5 := fun e => rngR_lit 5 5 e rfl (by decide)
  have hn5 : ∀ i ∈ List.range 5, i < 5 := fun i hi => List.mem_range.mp hi
  have c1 := cut_len szs none (some mo)
  have zs1 : 201 + (cut szs none (some mo)).length ≤ sizeLine := Nat.le_trans (by omega : _ ≤ 1000) (by decide)
  rw [run_at (show cfg.funs[16]? = some f__law_refuses from rfl) rfl]
  have hch : pk.getD 6 0 % 8 = 0 ∨ pk.getD 6 0 % 8 = 1 ∨ pk.getD 6 0 % 8 = 2 ∨ pk.getD 6 0 % 8 = 3 ∨ (4 ≤ pk.getD 6 0 % 8 ∧ pk.getD 6 0 % 8 < 7) ∨ pk.getD 6 0 % 8 = 7 := by omega
  rcases hch with h | h | h | h | h | h
  · have hk := chk_long (zs := ones ++ cut szs none (some mo)) v1 v2 (by rw [List.length_append, ones_len]; omega)
    obtain ⟨cz, j, el⟩ := ref_loop ns pk _ room mo 0 pl .none (.ow [.int (0 - mo), .int (room + 1 + mo)]) hk (List.range 5) (.ow (ones.map .int ++ (cut szs none (some mo)).map .int)) (none, none) hn5 (by simp [Cell.d])
    simp only [refB, f__law_refuses, refE, refD, Nat.reduceEqDiff, if_false, reduceIte] at el
    simp only [f__law_refuses, il, x_var, x_lit, x_op1, x_op2, x_sl, x_tup, x_lst, x_call, x_ite, x_andV, x_orV, x_notV, x_revL, x_comp, x_n, x_c, t_val, t_and, t_or, t_not, t_yes, i_seq, i_r1, i_r2, i_enum, i_zip, i_rev, s_asg, s_aug, s_app, s_setI, s_expr, s_if, s_whl, s_for, s_ret, s_retV, s_retN, s_brk, s_cont, s_pass, s_raise, s_try, q_n, q_c, b_ok, b_exc, b_bad, b_ite, u_ok, u_exc, u_bad, u_ite, o_some, o_none, q_nx, q_rt, q_bk, q_ct, q_exc, q_bad, q_ite, of_some, f_nx, f_rt, f_exc, f_ite, c_ok, c_exc, c_ite, an_t, an_b, or_b, no_b, rv_l, in_i, au_s, li_s, re_s, nx_s, en_l, zi_l, ri_l, tr_nx, tr_rt, tr_bk, tr_ct, tr_exc, tr_ite, rd_c, rd_s, pk_c, pk_f, pk_o, bo_var, bo_lit, op_lit, bo_glob, op_glob, bo_op1, op_op1, bo_op2, op_op2, bo_sl, op_sl, bo_tup, op_tup, bo_lst, op_lst, bo_call, op_call, bo_ite, op_ite, bo_andV, op_andV, bo_orV, op_orV, bo_notV, op_notV, bo_revL, op_revL, bo_comp, op_comp, op_var, op_abs, opR_i, g_var, g_tup, gs_n, gs_c, d_fz, d_ow, a_add, a_sub, a_lt, a_le, a_gt, a_ge, a_max, a_min, a_mul, a_fdiv, a_mod, a_pow, a_addl, a_addt, a_adds, a_mull, a_eqi, a_nei, a_ixl, a_ixt, a1_neg, a1_lenl, a1_lent, a1_lens, a1_listl, a1_listt, a1_tupl, a1_tupt, a1_int, a1_sum, a1_isN, a1_notN, y_int_i, y_bool_i, y_str_i, y_list_i, y_tuple_i, nn_i, y_int_s, y_bool_s, y_str_s, y_list_s, y_tuple_s, nn_s, y_int_b, y_bool_b, y_str_b, y_list_b, y_tuple_b, nn_b, y_int_l, y_bool_l, y_str_l, y_list_l, y_tuple_l, nn_l, y_int_t, y_bool_t, y_str_t, y_list_t, y_tuple_t, nn_t, y_int_n, y_bool_n, y_str_n, y_list_n, y_tuple_n, nn_n, tr_b, tr_i, tr_l, tr_t, a3_l, a3_t, sq_l, sq_t, au_add, au_sub, List.getElem?_cons_zero, List.getElem?_cons_succ, List.set_cons_zero, List.set_cons_succ, Option.map_some, Option.bind_some, if_true, if_false, Bool.false_eq_true, reduceIte, Exs.len, Nat.reduceAdd, Nat.reduceLeDiff, Nat.reduceLT, List.length_cons, List.length_nil, Nat.lt_add_left_iff_pos, Nat.zero_lt_succ, decide_true, decide_false, Bool.not_true, Bool.not_false, List.map_cons, List.map_nil, List.replicate, List.cons_append, List.nil_append, decide_eq_true_eq, Bool.not_eq_true', decide_eq_false_iff_not, Bool.and_eq_true, Bool.or_eq_true, or_self, or_false, false_or, or_true, true_or, and_true, true_and, and_self, not_false_eq_true, not_true_eq_false, ite_self, Int.reduceLT, i4, i5, i6, i7, i8, h, emo, List.length_map, hl1, epl, ↓mul201, cut_map, List.length_append, ones_len, zs1, Int.reduceEq, r5, forR, el]
  · have hk := chk_long (zs := (ones ++ cut szs none (some mo)).set pl 0) v1 v2 (by rw [List.length_set, List.length_append, ones_len]; omega)
    have hset := fun (d : D) (f : List D → Env) => set_i (ones.map .int ++ (cut szs none (some mo)).map .int) (pl : Int) d f (m := pl) (ixN_nat _ _ (by rw [List.length_append, List.length_map, ones_len]; omega))
    obtain ⟨cz, j, el⟩ := ref_loop ns pk _ room mo 1 pl .none (.ow [.int (0 - mo), .int (room + 1 + mo)]) hk (List.range 5) (.ow ((ones.map PyData.int ++ (cut szs none (some mo)).map PyData.int).set pl (PyData.int 0))) (none, none) hn5 (by simp [Cell.d, List.map_set])
    simp only [refB, f__law_refuses, refE, refD, Nat.reduceEqDiff, if_false, reduceIte] at el
    simp only [f__law_refuses, il, x_var, x_lit, x_op1, x_op2, x_sl, x_tup, x_lst, x_call, x_ite, x_andV, x_orV, x_notV, x_revL, x_comp, x_n, x_c, t_val, t_and, t_or, t_not, t_yes, i_seq, i_r1, i_r2, i_enum, i_zip, i_rev, s_asg, s_aug, s_app, s_setI, s_expr, s_if, s_whl, s_for, s_ret, s_retV, s_retN, s_brk, s_cont, s_pass, s_raise, s_try, q_n, q_c, b_ok, b_exc, b_bad, b_ite, u_ok, u_exc, u_bad, u_ite, o_some, o_none, q_nx, q_rt, q_bk, q_ct, q_exc, q_bad, q_ite, of_some, f_nx, f_rt, f_exc, f_ite, c_ok, c_exc, c_ite, an_t, an_b, or_b, no_b, rv_l, in_i, au_s, li_s, re_s, nx_s, en_l, zi_l, ri_l, tr_nx, tr_rt, tr_bk, tr_ct, tr_exc, tr_ite, rd_c, rd_s, pk_c, pk_f, pk_o, bo_var, bo_lit, op_lit, bo_glob, op_glob, bo_op1, op_op1, bo_op2, op_op2, bo_sl, op_sl, bo_tup, op_tup, bo_lst, op_lst, bo_call, op_call, bo_ite, op_ite, bo_andV, op_andV, bo_orV, op_orV, bo_notV, op_notV, bo_revL, op_revL, bo_comp, op_comp, op_var, op_abs, opR_i, g_var, g_tup, gs_n, gs_c, d_fz, d_ow, a_add, a_sub, a_lt, a_le, a_gt, a_ge, a_max, a_min, a_mul, a_fdiv, a_mod, a_pow, a_addl, a_addt, a_adds, a_mull, a_eqi, a_nei, a_ixl, a_ixt, a1_neg, a1_lenl, a1_lent, a1_lens, a1_listl, a1_listt, a1_tupl, a1_tupt, a1_int, a1_sum, a1_isN, a1_notN, y_int_i, y_bool_i, y_str_i, y_list_i, y_tuple_i, nn_i, y_int_s, y_bool_s, y_str_s, y_list_s, y_tuple_s, nn_s, y_int_b, y_bool_b, y_str_b, y_list_b, y_tuple_b, nn_b, y_int_l, y_bool_l, y_str_l, y_list_l, y_tuple_l, nn_l, y_int_t, y_bool_t, y_str_t, y_list_t, y_tuple_t, nn_t, y_int_n, y_bool_n, y_str_n, y_list_n, y_tuple_n, nn_n, tr_b, tr_i, tr_l, tr_t, a3_l, a3_t, sq_l, sq_t, au_add, au_sub, List.getElem?_cons_zero, List.getElem?_cons_succ, List.set_cons_zero, List.set_cons_succ, Option.map_some, Option.bind_some, if_true, if_false, Bool.false_eq_true, reduceIte, Exs.len, Nat.reduceAdd, Nat.reduceLeDiff, Nat.reduceLT, List.length_cons, List.length_nil, Nat.lt_add_left_iff_pos, Nat.zero_lt_succ, decide_true, decide_false, Bool.not_true, Bool.not_false, List.map_cons, List.map_nil, List.replicate, List.cons_append, List.nil_append, decide_eq_true_eq, Bool.not_eq_true', decide_eq_false_iff_not, Bool.and_eq_true, Bool.or_eq_true, or_self, or_false, false_or, or_true, true_or, and_true, true_and, and_self, not_false_eq_true, not_true_eq_false, ite_self, Int.reduceLT, i4, i5, i6, i7, i8, h, emo, List.length_map, hl1, epl, ↓mul201, cut_map, List.length_append, ones_len, zs1, Int.reduceEq, hset, r5, forR, el]
  · have hk := chk_room (zs := ones ++ cut szs none (some mo)) (room := 0 - mo) (.inl (by omega))
    obtain ⟨cz, j, el⟩ := ref_loop ns pk _ (0 - mo) mo 2 pl .none (.ow [.int (0 - mo), .int (room + 1 + mo)]) hk (List.range 5) (.ow (ones.map .int ++ (cut szs none (some mo)).map .int)) (none, none) hn5 (by simp [Cell.d])
    simp only [refB, f__law_refuses, refE, refD, Nat.reduceEqDiff, if_true, reduceIte] at el
    simp only [f__law_refuses, il, x_var, x_lit, x_op1, x_op2, x_sl, x_tup, x_lst, x_call, x_ite, x_andV, x_orV, x_notV, x_revL, x_comp, x_n, x_c, t_val, t_and, t_or, t_not, t_yes, i_seq, i_r1, i_r2, i_enum, i_zip, i_rev, s_asg, s_aug, s_app, s_setI, s_expr, s_if, s_whl, s_for, s_ret, s_retV, s_retN, s_brk, s_cont, s_pass, s_raise, s_try, q_n, q_c, b_ok, b_exc, b_bad, b_ite, u_ok, u_exc, u_bad, u_ite, o_some, o_none, q_nx, q_rt, q_bk, q_ct, q_exc, q_bad, q_ite, of_some, f_nx, f_rt, f_exc, f_ite, c_ok, c_exc, c_ite, an_t, an_b, or_b, no_b, rv_l, in_i, au_s, li_s, re_s, nx_s, en_l, zi_l, ri_l, tr_nx, tr_rt, tr_bk, tr_ct, tr_exc, tr_ite, rd_c, rd_s, pk_c, pk_f, pk_o, bo_var, bo_lit, op_lit, bo_glob, op_glob, bo_op1, op_op1, bo_op2, op_op2, bo_sl, op_sl, bo_tup, op_tup, bo_lst, op_lst, bo_call, op_call, bo_ite, op_ite, bo_andV, op_andV, bo_orV, op_orV, bo_notV, op_notV, bo_revL, op_revL, bo_comp, op_comp, op_var, op_abs, opR_i, g_var, g_tup, gs_n, gs_c, d_fz, d_ow, a_add, a_sub, a_lt, a_le, a_gt, a_ge, a_max, a_min, a_mul, a_fdiv, a_mod, a_pow, a_addl, a_addt, a_adds, a_mull, a_eqi, a_nei, a_ixl, a_ixt, a1_neg, a1_lenl, a1_lent, a1_lens, a1_listl, a1_listt, a1_tupl, a1_tupt, a1_int, a1_sum, a1_isN, a1_notN, y_int_i, y_bool_i, y_str_i, y_list_i, y_tuple_i, nn_i, y_int_s, y_bool_s, y_str_s, y_list_s, y_tuple_s, nn_s, y_int_b, y_bool_b, y_str_b, y_list_b, y_tuple_b, nn_b, y_int_l, y_bool_l, y_str_l, y_list_l, y_tuple_l, nn_l, y_int_t, y_bool_t, y_str_t, y_list_t, y_tuple_t, nn_t, y_int_n, y_bool_n, y_str_n, y_list_n, y_tuple_n, nn_n, tr_b, tr_i, tr_l, tr_t, a3_l, a3_t, sq_l, sq_t, au_add, au_sub, List.getElem?_cons_zero, List.getElem?_cons_succ, List.set_cons_zero, List.set_cons_succ, Option.map_some, Option.bind_some, if_true, if_false, Bool.false_eq_true, reduceIte, Exs.len, Nat.reduceAdd, Nat.reduceLeDiff, Nat.reduceLT, List.length_cons, List.length_nil, Nat.lt_add_left_iff_pos, Nat.zero_lt_succ, decide_true, decide_false, Bool.not_true, Bool.not_false, List.map_cons, List.map_nil, List.replicate, List.cons_append, List.nil_append, decide_eq_true_eq, Bool.not_eq_true', decide_eq_false_iff_not, Bool.and_eq_true, Bool.or_eq_true, or_self, or_false, false_or, or_true, true_or, and_true, true_and, and_self, not_false_eq_true, not_true_eq_false, ite_self, Int.reduceLT, Int.reduceSub, ix0, ix1, i4, i5, i6, i7, i8, h, emo, List.length_map, hl1, epl, ↓mul201, cut_map, List.length_append, ones_len, zs1, Int.reduceEq, r5, forR, el]
  · have hk := chk_room (zs := ones ++ cut szs none (some mo)) (room := 1369 + mo) (.inr (by omega))
    obtain ⟨cz, j, el⟩ := ref_loop ns pk _ (1369 + mo) mo 3 pl .none (.ow [.int (0 - mo), .int (room + 1 + mo)]) hk (List.range 5) (.ow (ones.map .int ++ (cut szs none (some mo)).map .int)) (none, none) hn5 (by simp [Cell.d])
    simp only [refB, f__law_refuses, refE, refD, Nat.reduceEqDiff, if_true, reduceIte] at el
    simp only [f__law_refuses, il, x_var, x_lit, x_op1, x_op2, x_sl, x_tup, x_lst, x_call, x_ite, x_andV, x_orV, x_notV, x_revL, x_comp, x_n, x_c, t_val, t_and, t_or, t_not, t_yes, i_seq, i_r1, i_r2, i_enum, i_zip, i_rev, s_asg, s_aug, s_app, s_setI, s_expr, s_if, s_whl, s_for, s_ret, s_retV, s_retN, s_brk, s_cont, s_pass, s_raise, s_try, q_n, q_c, b_ok, b_exc, b_bad, b_ite, u_ok, u_exc, u_bad, u_ite, o_some, o_none, q_nx, q_rt, q_bk, q_ct, q_exc, q_bad, q_ite, of_some, f_nx, f_rt, f_exc, f_ite, c_ok, c_exc, c_ite, an_t, an_b, or_b, no_b, rv_l, in_i, au_s, li_s, re_s, nx_s, en_l, zi_l, ri_l, tr_nx, tr_rt, tr_bk, tr_ct, tr_exc, tr_ite, rd_c, rd_s, pk_c, pk_f, pk_o, bo_var, bo_lit, op_lit, bo_glob, op_glob, bo_op1, op_op1, bo_op2, op_op2, bo_sl, op_sl, bo_tup, op_tup, bo_lst, op_lst, bo_call, op_call, bo_ite, op_ite, bo_andV, op_andV, bo_orV, op_orV, bo_notV, op_notV, bo_revL, op_revL, bo_comp, op_comp, op_var, op_abs, opR_i, g_var, g_tup, gs_n, gs_c, d_fz, d_ow, a_add, a_sub, a_lt, a_le, a_gt, a_ge, a_max, a_min, a_mul, a_fdiv, a_mod, a_pow, a_addl, a_addt, a_adds, a_mull, a_eqi, a_nei, a_ixl, a_ixt, a1_neg, a1_lenl, a1_lent, a1_lens, a1_listl, a1_listt, a1_tupl, a1_tupt, a1_int, a1_sum, a1_isN, a1_notN, y_int_i, y_bool_i, y_str_i, y_list_i, y_tuple_i, nn_i, y_int_s, y_bool_s, y_str_s, y_list_s, y_tuple_s, nn_s, y_int_b, y_bool_b, y_str_b, y_list_b, y_tuple_b, nn_b, y_int_l, y_bool_l, y_str_l, y_list_l, y_tuple_l, nn_l, y_int_t, y_bool_t, y_str_t, y_list_t, y_tuple_t, nn_t, y_int_n, y_bool_n, y_str_n, y_list_n, y_tuple_n, nn_n, tr_b, tr_i, tr_l, tr_t, a3_l, a3_t, sq_l, sq_t, au_add, au_sub, List.getElem?_cons_zero, List.getElem?_cons_succ, List.set_cons_zero, List.set_cons_succ, Option.map_some, Option.bind_some, if_true, if_false, Bool.false_eq_true, reduceIte, Exs.len, Nat.reduceAdd, Nat.reduceLeDiff, Nat.reduceLT, List.length_cons, List.length_nil, Nat.lt_add_left_iff_pos, Nat.zero_lt_succ, decide_true, decide_false, Bool.not_true, Bool.not_false, List.map_cons, List.map_nil, List.replicate, List.cons_append, List.nil_append, decide_eq_true_eq, Bool.not_eq_true', decide_eq_false_iff_not, Bool.and_eq_true, Bool.or_eq_true, or_self, or_false, false_or, or_true, true_or, and_true, true_and, and_self, not_false_eq_true, not_true_eq_false, ite_self, Int.reduceLT, Int.reduceSub, ix0, ix1, i4, i5, i6, i7, i8, h, emo, List.length_map, hl1, epl, ↓mul201, cut_map, List.length_append, ones_len, zs1, Int.reduceEq, r5, forR, el]
  · obtain ⟨h, h'⟩ := h
    obtain ⟨ch, ech⟩ : ∃ ch, pk.getD 6 0 % 8 = ch := ⟨_, rfl⟩
    rw [ech] at h h'
    have e199 : ((199 : Nat) : Int) = 199 := rfl
    have es1 : cut szs none (some 199) = szs.take 199 := by rw [← e199, cut_take]
    obtain ⟨s1, hs1⟩ : ∃ s1, szs.take 199 = s1 := ⟨_, rfl⟩
    rw [hs1] at es1
    have l1 : s1.length ≤ 199 := by rw [← hs1, List.length_take]; omega
    have m1 : ∀ x ∈ s1, 1 ≤ x ∧ x ≤ room := fun x hx => v4 x (List.mem_of_mem_take (by rw [hs1]; exact hx))
    obtain ⟨p2, ep2, hp2⟩ : ∃ p2 : Nat, (if (s1.length : Int) < (pl : Int) then (s1.length : Int) else (pl : Int)) = (p2 : Int) ∧ p2 ≤ s1.length := by
      by_cases q : (s1.length : Int) < (pl : Int)
      · exact ⟨s1.length, by rw [if_pos q], Nat.le_refl _⟩
      · exact ⟨pl, by rw [if_neg q], by omega⟩
    have z1 : (s1.take p2).length + 1 ≤ sizeLine := Nat.le_trans (by rw [List.length_take]; omega : _ ≤ 1000) (by decide)
    have z2 : (s1.take p2).length + 1 + (s1.drop p2).length ≤ sizeLine := Nat.le_trans (by rw [List.length_take, List.length_drop]; omega : _ ≤ 1000) (by decide)
    have hk := chk_first (A := s1.take p2) (B := s1.drop p2) v1 v2 (by rw [List.length_append, List.length_cons, List.length_take, List.length_drop]; omega) (fun x hx => m1 x (List.mem_of_mem_take hx)) hb8
    obtain ⟨cz, j, el⟩ := ref_loop ns pk _ room mo ch p2 .none (.ow [.int (0 - mo), .int (room + 1 + mo)]) hk (List.range 5) (.ow ((s1.take p2).map .int ++ [.int b8] ++ (s1.drop p2).map .int)) (none, none) hn5 (by simp [Cell.d])
    have k1 : 3 < ch := by omega
    have k2 : ¬ ch = 7 := by omega
    have k3 : ¬ ch < 4 := by omega
    have k4 : ¬ ch = 1 := by omega
    have k5 : 1 < ch := by omega
    have t1 := cut_take s1 p2
    have t2 := cut_dropN s1 p2 hp2
    simp only [refB, f__law_refuses, refE, refD, Nat.reduceEqDiff, if_true, reduceIte] at el
    simp only [f__law_refuses, il, x_var, x_lit, x_op1, x_op2, x_sl, x_tup, x_lst, x_call, x_ite, x_andV, x_orV, x_notV, x_revL, x_comp, x_n, x_c, t_val, t_and, t_or, t_not, t_yes, i_seq, i_r1, i_r2, i_enum, i_zip, i_rev, s_asg, s_aug, s_app, s_setI, s_expr, s_if, s_whl, s_for, s_ret, s_retV, s_retN, s_brk, s_cont, s_pass, s_raise, s_try, q_n, q_c, b_ok, b_exc, b_bad, b_ite, u_ok, u_exc, u_bad, u_ite, o_some, o_none, q_nx, q_rt, q_bk, q_ct, q_exc, q_bad, q_ite, of_some, f_nx, f_rt, f_exc, f_ite, c_ok, c_exc, c_ite, an_t, an_b, or_b, no_b, rv_l, in_i, au_s, li_s, re_s, nx_s, en_l, zi_l, ri_l, tr_nx, tr_rt, tr_bk, tr_ct, tr_exc, tr_ite, rd_c, rd_s, pk_c, pk_f, pk_o, bo_var, bo_lit, op_lit, bo_glob, op_glob, bo_op1, op_op1, bo_op2, op_op2, bo_sl, op_sl, bo_tup, op_tup, bo_lst, op_lst, bo_call, op_call, bo_ite, op_ite, bo_andV, op_andV, bo_orV, op_orV, bo_notV, op_notV, bo_revL, op_revL, bo_comp, op_comp, op_var, op_abs, opR_i, g_var, g_tup, gs_n, gs_c, d_fz, d_ow, a_add, a_sub, a_lt, a_le, a_gt, a_ge, a_max, a_min, a_mul, a_fdiv, a_mod, a_pow, a_addl, a_addt, a_adds, a_mull, a_eqi, a_nei, a_ixl, a_ixt, a1_neg, a1_lenl, a1_lent, a1_lens, a1_listl, a1_listt, a1_tupl, a1_tupt, a1_int, a1_sum, a1_isN, a1_notN, y_int_i, y_bool_i, y_str_i, y_list_i, y_tuple_i, nn_i, y_int_s, y_bool_s, y_str_s, y_list_s, y_tuple_s, nn_s, y_int_b, y_bool_b, y_str_b, y_list_b, y_tuple_b, nn_b, y_int_l, y_bool_l, y_str_l, y_list_l, y_tuple_l, nn_l, y_int_t, y_bool_t, y_str_t, y_list_t, y_tuple_t, nn_t, y_int_n, y_bool_n, y_str_n, y_list_n, y_tuple_n, nn_n, tr_b, tr_i, tr_l, tr_t, a3_l, a3_t, sq_l, sq_t, au_add, au_sub, List.getElem?_cons_zero, List.getElem?_cons_succ, List.set_cons_zero, List.set_cons_succ, Option.map_some, Option.bind_some, if_true, if_false, Bool.false_eq_true, reduceIte, Exs.len, Nat.reduceAdd, Nat.reduceLeDiff, Nat.reduceLT, List.length_cons, List.length_nil, Nat.lt_add_left_iff_pos, Nat.zero_lt_succ, decide_true, decide_false, Bool.not_true, Bool.not_false, List.map_cons, List.map_nil, List.replicate, List.cons_append, List.nil_append, decide_eq_true_eq, Bool.not_eq_true', decide_eq_false_iff_not, Bool.and_eq_true, Bool.or_eq_true, or_self, or_false, false_or, or_true, true_or, and_true, true_and, and_self, not_false_eq_true, not_true_eq_false, ite_self, Int.reduceLT, Int.reduceSub, ix0, ix1, i4, i5, i6, i7, i8, ech, k1, k2, k3, k4, k5, emo, List.length_map, hl1, epl, cut_map, es1, ep2, eb8, t1, t2, z1, z2, List.length_append, Int.reduceEq, r5, forR, el]
  · have e199'' := h
    have e199 : ((199 : Nat) : Int) = 199 := rfl
    have es1 : cut szs none (some 199) = szs.take 199 := by rw [← e199, cut_take]
    obtain ⟨s1, hs1⟩ : ∃ s1, szs.take 199 = s1 := ⟨_, rfl⟩
    rw [hs1] at es1
    have l1 : s1.length ≤ 199 := by rw [← hs1, List.length_take]; omega
    have m1 : ∀ x ∈ s1, 1 ≤ x ∧ x ≤ room := fun x hx => v4 x (List.mem_of_mem_take (by rw [hs1]; exact hx))
    obtain ⟨p2, ep2, hp2⟩ : ∃ p2 : Nat, (if (s1.length : Int) < (pl : Int) then (s1.length : Int) else (pl : Int)) = (p2 : Int) ∧ p2 ≤ s1.length := by
      by_cases q : (s1.length : Int) < (pl : Int)
      · exact ⟨s1.length, by rw [if_pos q], Nat.le_refl _⟩
      · exact ⟨pl, by rw [if_neg q], by omega⟩
    have t1 := cut_take s1 p2
    have t2 := cut_dropN s1 p2 hp2
    have z1 : (s1.take p2).length + 1 ≤ sizeLine := Nat.le_trans (by rw [List.length_take]; omega : _ ≤ 1000) (by decide)
    have z2 : (s1.take p2).length + 1 + (s1.drop p2).length ≤ sizeLine := Nat.le_trans (by rw [List.length_take, List.length_drop]; omega : _ ≤ 1000) (by decide)
    obtain ⟨Z, hZ⟩ : ∃ Z, (s1.take p2 ++ b8 :: s1.drop p2).set s1.length b4 = Z := ⟨_, rfl⟩
    have lZ : Z.length = s1.length + 1 := by rw [← hZ, List.length_set, List.length_append, List.length_cons, List.length_take, List.length_drop]; omega
    have hk : chk Z room = some ⟨1, [.int (Z.getD p2 0)]⟩ := by
      by_cases q : p2 = s1.length
      · have e : Z = s1 ++ b4 :: [] := by
          rw [← hZ, q, List.take_length, List.drop_length, List.set_append_right _ _ (Nat.le_refl _), Nat.sub_self]
          rfl
        have e2 : Z.getD p2 0 = b4 := by rw [e, q]; simp [List.getD]
        rw [e2, e]
        exact chk_first v1 v2 (by simp; omega) m1 hb4
      · have e : Z = s1.take p2 ++ b8 :: (s1.drop p2).set (s1.length - p2 - 1) b4 := by
          have lt : (s1.take p2).length = p2 := by rw [List.length_take]; omega
          rw [← hZ, List.set_append_right _ _ (by rw [lt]; omega), lt]
          rw [show s1.length - p2 = (s1.length - p2 - 1) + 1 by omega, List.set_cons_succ]
          rfl
        have e2 : Z.getD p2 0 = b8 := by
          have lt : (s1.take p2).length = p2 := by rw [List.length_take]; omega
          rw [e]; simp [List.getD, lt]
        rw [e2, e]
        exact chk_first v1 v2 (by rw [List.length_append, List.length_cons, List.length_set, List.length_take, List.length_drop]; omega) (fun x hx => m1 x (List.mem_of_mem_take hx)) hb8
    have hset := fun (f : List D → Env) => set_i ((s1.take p2).map PyData.int ++ [PyData.int b8] ++ (s1.drop p2).map PyData.int) (((s1.take p2).length + 1 + (s1.drop p2).length : Nat) - 1 : Int) (PyData.int b4) f (m := s1.length) (by
      rw [show (((s1.take p2).length + 1 + (s1.drop p2).length : Nat) - 1 : Int) = ((s1.length : Nat) : Int) by rw [List.length_take, List.length_drop]; omega]
      exact ixN_nat _ _ (by simp; omega))
    have hmap : ((s1.take p2).map PyData.int ++ [PyData.int b8] ++ (s1.drop p2).map PyData.int).set s1.length (PyData.int b4) = Z.map PyData.int := by
      rw [← hZ, List.map_set]
      simp
    simp only [hmap] at hset
    have ixZ := ix_int Z p2 (by omega)
    obtain ⟨cz, j, el⟩ := ref_loop ns pk Z room mo 7 p2 .none (.ow [.int (0 - mo), .int (room + 1 + mo)]) hk (List.range 5) (.ow (Z.map .int)) (none, none) hn5 rfl
    simp only [refB, f__law_refuses, refE, refD, Nat.reduceEqDiff, if_true, reduceIte] at el
    simp only [f__law_refuses, il, x_var, x_lit, x_op1, x_op2, x_sl, x_tup, x_lst, x_call, x_ite, x_andV, x_orV, x_notV, x_revL, x_comp, x_n, x_c, t_val, t_and, t_or, t_not, t_yes, i_seq, i_r1, i_r2, i_enum, i_zip, i_rev, s_asg, s_aug, s_app, s_setI, s_expr, s_if, s_whl, s_for, s_ret, s_retV, s_retN, s_brk, s_cont, s_pass, s_raise, s_try, q_n, q_c, b_ok, b_exc, b_bad, b_ite, u_ok, u_exc, u_bad, u_ite, o_some, o_none, q_nx, q_rt, q_bk, q_ct, q_exc, q_bad, q_ite, of_some, f_nx, f_rt, f_exc, f_ite, c_ok, c_exc, c_ite, an_t, an_b, or_b, no_b, rv_l, in_i, au_s, li_s, re_s, nx_s, en_l, zi_l, ri_l, tr_nx, tr_rt, tr_bk, tr_ct, tr_exc, tr_ite, rd_c, rd_s, pk_c, pk_f, pk_o, bo_var, bo_lit, op_lit, bo_glob, op_glob, bo_op1, op_op1, bo_op2, op_op2, bo_sl, op_sl, bo_tup, op_tup, bo_lst, op_lst, bo_call, op_call, bo_ite, op_ite, bo_andV, op_andV, bo_orV, op_orV, bo_notV, op_notV, bo_revL, op_revL, bo_comp, op_comp, op_var, op_abs, opR_i, g_var, g_tup, gs_n, gs_c, d_fz, d_ow, a_add, a_sub, a_lt, a_le, a_gt, a_ge, a_max, a_min, a_mul, a_fdiv, a_mod, a_pow, a_addl, a_addt, a_adds, a_mull, a_eqi, a_nei, a_ixl, a_ixt, a1_neg, a1_lenl, a1_lent, a1_lens, a1_listl, a1_listt, a1_tupl, a1_tupt, a1_int, a1_sum, a1_isN, a1_notN, y_int_i, y_bool_i, y_str_i, y_list_i, y_tuple_i, nn_i, y_int_s, y_bool_s, y_str_s, y_list_s, y_tuple_s, nn_s, y_int_b, y_bool_b, y_str_b, y_list_b, y_tuple_b, nn_b, y_int_l, y_bool_l, y_str_l, y_list_l, y_tuple_l, nn_l, y_int_t, y_bool_t, y_str_t, y_list_t, y_tuple_t, nn_t, y_int_n, y_bool_n, y_str_n, y_list_n, y_tuple_n, nn_n, tr_b, tr_i, tr_l, tr_t, a3_l, a3_t, sq_l, sq_t, au_add, au_sub, List.getElem?_cons_zero, List.getElem?_cons_succ, List.set_cons_zero, List.set_cons_succ, Option.map_some, Option.bind_some, if_true, if_false, Bool.false_eq_true, reduceIte, Exs.len, Nat.reduceAdd, Nat.reduceLeDiff, Nat.reduceLT, List.length_cons, List.length_nil, Nat.lt_add_left_iff_pos, Nat.zero_lt_succ, decide_true, decide_false, Bool.not_true, Bool.not_false, List.map_cons, List.map_nil, List.replicate, List.cons_append, List.nil_append, decide_eq_true_eq, Bool.not_eq_true', decide_eq_false_iff_not, Bool.and_eq_true, Bool.or_eq_true, or_self, or_false, false_or, or_true, true_or, and_true, true_and, and_self, not_false_eq_true, not_true_eq_false, ite_self, Int.reduceLT, Int.reduceSub, ix0, ix1, i4, i5, i6, i7, i8, h, emo, List.length_map, hl1, epl, cut_map, es1, ep2, eb8, eb4, t1, t2, z1, z2, List.length_append, Int.reduceEq, hset, ixZ, r5, forR, el]
end PD.K55

end

set_option Elab.async false
set_option linter.all false
theorem run55 : ∀ ns : List Int, ns.length ≤ 63 → PD.runF PD.K55.cfg 20 17 [.list (ns.map .int)] = .ok (.fz (.bool true)) := fun ns _ => PD.K55.r_law PD.K55.r_refuses ns
open PySem PySem.W PyProof.Rows
set_option maxRecDepth 100000 in
set_option maxHeartbeats 0 in
theorem PySem.Challenge.cw_filechest_k55_whole_spreading_or_windows_holds : PySem.Challenge.rw_filechest_k55_whole_spreading_or_windows.Holds := by
  w_on; o_law; k_head; (case hw => w_witness2)
  k_fill
  refine L2.walk_of (l := PySem.Challenge.rw_filechest_k55_whole_spreading_or_windows) (n := 63) (k := 20) (x := "script") (CX := fun w => L2N.CX PySem.Challenge.pw_filechest_k55_whole_spreading_or_windows w) (sp := fun w => PD.spLaw _) rfl (by decide) rfl ⟨rfl, by decide, by decide⟩ (fun w h Y => PySem.W.kIn_of Y) ?F (fun _ _ a ns hl _ hS => ⟨a, ns, rfl, hS, hl, fun _ => rfl⟩) (fun _ _ _ _ _ h => by obtain ⟨_, _, _, _, _, _, _, _, _, _, _, _, z⟩ := h; exact z)
  case F =>
    intro w mg fa h KX G hmg
    refine' PD.K55.all_mk KX G hmg ?z0 ?z1 ?z2 ?z3 ?z4 ?z5 ?z6 ?z7 ?z8 ?z9 ?z10 ?z11 ?z12 ?z13 ?z14 ?z15 ?z16 ?z17 ?opq ?k0 ?k1 ?aD0 ?lD0 ?cD0 ?kD0 ?aD1 ?lD1 ?cD1 ?kD1 ?aD2 ?lD2 ?cD2 ?kD2 ?aD3 ?lD3 ?cD3 ?kD3 ?aD4 ?lD4 ?cD4 ?kD4 ?aD5 ?lD5 ?cD5 ?kD5 ?aD6 ?lD6 ?cD6 ?kD6 ?aD7 ?lD7 ?cD7 ?kD7 ?aD8 ?lD8 ?cD8 ?kD8 ?aD9 ?lD9 ?cD9 ?kD9 ?aD10 ?lD10 ?cD10 ?kD10 ?aD11 ?lD11 ?cD11 ?kD11 ?aD12 ?lD12 ?cD12 ?kD12 ?aD13 ?lD13 ?cD13 ?kD13 ?aD14 ?lD14 ?cD14 ?kD14 ?aD15 ?lD15 ?cD15 ?kD15 ?aD16 ?lD16 ?cD16 ?kD16 ?aD17 ?lD17 ?cD17 ?kD17 ?aC0 ?xC0 ?iB0 ?aC1 ?xC1 ?sa1 ?eC1 ?tC1 ?kC1 ?ga1 ?gg1 ?iC1 ?tI1 ?n1_0 ?lI1 ?cI1 ?lc1 ?hv1 ?hf1 ?cl1 ?aC2 ?xC2 ?sa2 ?eC2 ?tC2 ?kC2 ?ga2 ?gg2 ?iC2 ?tI2 ?n2_0 ?lI2 ?cI2 ?lc2 ?hv2 ?hf2 ?cl2 ?s1_1 ?s2_1 ?s1_2 ?s2_2 run55
    (case z0 => k_is)
    (case z1 => k_is)
    (case z2 => k_is)
    (case z3 => k_is)
    (case z4 => k_is)
    (case z5 => k_is)
    (case z6 => k_is)
    (case z7 => k_is)
    (case z8 => k_is)
    (case z9 => k_is)
    (case z10 => k_is)
    (case z11 => k_is)
    (case z12 => k_is)
    (case z13 => k_is)
    (case z14 => k_is)
    (case z15 => k_is)
    (case z16 => k_is)
    (case z17 => k_is)
    (case opq => k_is)
    (case k0 => k_is)
    (case k1 => k_is)
    (case aD0 => k_is)
    (case lD0 => k_is)
    (case cD0 => k_is)
    (case kD0 => k_is)
    (case aD1 => k_is)
    (case lD1 => k_is)
    (case cD1 => k_is)
    (case kD1 => k_is)
    (case aD2 => k_is)
    (case lD2 => k_is)
    (case cD2 => k_is)
    (case kD2 => k_is)
    (case aD3 => k_is)
    (case lD3 => k_is)
    (case cD3 => k_is)
    (case kD3 => k_is)
    (case aD4 => k_is)
    (case lD4 => k_is)
    (case cD4 => k_is)
    (case kD4 => k_is)
    (case aD5 => k_is)
    (case lD5 => k_is)
    (case cD5 => k_is)
    (case kD5 => k_is)
    (case aD6 => k_is)
    (case lD6 => k_is)
    (case cD6 => k_is)
    (case kD6 => k_is)
    (case aD7 => k_is)
    (case lD7 => k_is)
    (case cD7 => k_is)
    (case kD7 => k_is)
    (case aD8 => k_is)
    (case lD8 => k_is)
    (case cD8 => k_is)
    (case kD8 => k_is)
    (case aD9 => k_is)
    (case lD9 => k_is)
    (case cD9 => k_is)
    (case kD9 => k_is)
    (case aD10 => k_is)
    (case lD10 => k_is)
    (case cD10 => k_is)
    (case kD10 => k_is)
    (case aD11 => k_is)
    (case lD11 => k_is)
    (case cD11 => k_is)
    (case kD11 => k_is)
    (case aD12 => k_is)
    (case lD12 => k_is)
    (case cD12 => k_is)
    (case kD12 => k_is)
    (case aD13 => k_is)
    (case lD13 => k_is)
    (case cD13 => k_is)
    (case kD13 => k_is)
    (case aD14 => k_is)
    (case lD14 => k_is)
    (case cD14 => k_is)
    (case kD14 => k_is)
    (case aD15 => k_is)
    (case lD15 => k_is)
    (case cD15 => k_is)
    (case kD15 => k_is)
    (case aD16 => k_is)
    (case lD16 => k_is)
    (case cD16 => k_is)
    (case kD16 => k_is)
    (case aD17 => k_is)
    (case lD17 => k_is)
    (case cD17 => k_is)
    (case kD17 => k_is)
    (case aC0 => k_is)
    (case xC0 => k_is)
    (case iB0 => k_is)
    (case aC1 => k_is)
    (case xC1 => k_is)
    (case sa1 => k_is)
    (case eC1 => k_is)
    (case tC1 => k_is)
    (case kC1 => k_is)
    (case ga1 => k_is)
    (case gg1 => k_is)
    (case iC1 => k_is)
    (case tI1 => k_is)
    (case n1_0 => k_is)
    (case lI1 => k_is)
    (case cI1 => k_is)
    (case lc1 => k_is)
    (case hv1 => rfl)
    (case hf1 => decide +kernel)
    (case cl1 => k_is)
    (case aC2 => k_is)
    (case xC2 => k_is)
    (case sa2 => k_is)
    (case eC2 => k_is)
    (case tC2 => k_is)
    (case kC2 => k_is)
    (case ga2 => k_is)
    (case gg2 => k_is)
    (case iC2 => k_is)
    (case tI2 => k_is)
    (case n2_0 => k_is)
    (case lI2 => k_is)
    (case cI2 => k_is)
    (case lc2 => k_is)
    (case hv2 => rfl)
    (case hf2 => decide +kernel)
    (case cl2 => k_is)
    (case s1_1 => k_is)
    (case s2_1 => k_is)
    (case s1_2 => k_is)
    (case s2_2 => k_is)
