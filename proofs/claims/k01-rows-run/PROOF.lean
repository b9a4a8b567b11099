import PyProof.Rows.All
import Wide.All
import OpenK.AllK
import Wide.FinOn
import PySem.PyData
import PyProof.P3Statements
import PyProof.EqLayable
import HandS.ForExc
import HandS.Comp
import HandS.Iter
import HandS.Text
import HandS.TupAny
import HandS.TupLe
import HandS.Zip
import HandS.Wide
import HandS.Flow
import HandS.IsInst
import HandS.Dict
import HandS.Defaults
import KE.KExcIs
import HandS.ExcField
import HandS.ExcIs
import HandS.CallSlots
import HandS.ExcInit
import KE.KSuper
import KE.KExcSuper
import HandS.HeadHook2
import HandS.HeadEnd
import HandS.Head2
import PySem.Challenge.RW_foldsclose_k01_rows_run
set_option Elab.async false
set_option linter.all false
set_option maxRecDepth 100000
set_option maxHeartbeats 4000000
/-! # Mini: a small language of my own. Values without addresses, an interpreter in plain Lean. -/
namespace Mn
open PySem

inductive D where
  | non | bl (b : Bool) | int (i : Int) | str (s : Str) | tup (xs : List D) | loc (n : Nat)

/-- what stands at a place of the memory: a list, a list that is only read, a dict -/
inductive MO where
  | lst (xs : List D) | ro (xs : List D) | dic (kvs : List (D × D))
abbrev Mem := List MO

structure Exn where
  cls : Nat
  fs : List (Str × D)

inductive R (α : Type) where
  | ok (a : α) (μ : Mem) | exc (x : Exn) (μ : Mem) | stuck
@[inline] def R.bind {α β : Type} (r : R α) (f : α → Mem → R β) : R β := match r with
  | .ok a μ => f a μ
  | .exc x μ => .exc x μ
  | .stuck => .stuck

/-- 16,000,000: below the model's line -/
def LIM : Nat := 16000000

inductive Bop where | add | sub | mul | fdiv | mod | pow
inductive Cop where | eq | ne | lt | le | gt | ge | is | isNot | inn | notIn
inductive Ty where | int | bool | str | tuple | list | dict
inductive Bi where | len | tuple | list | int | str | sum | abs | min2 | max2 | sorted | bool
inductive Mt where | append | extend | pop | get1 | get2
inductive XC where | own (c : Nat) | ve

inductive Tgt where | slot (i : Nat) | nil | cons (a r : Tgt)

mutual
inductive ME where
  | var (i : Nat) | non | bl (b : Bool) | int (i : Int) | str (s : Str)
  | gint (x : Str) (i : Int)
  | bop (op : Bop) (a b : ME) | neg (a : ME) | not (a : ME)
  | cmp (op : Cop) (a b : ME) | cmp2 (op op' : Cop) (a b c : ME)
  | and (a b : ME) | or (a b : ME) | ite (t a b : ME)
  | tup (es : MEs) | lst (es : MEs)
  | ix (a i : ME) | slice (a : ME) (lo hi : MEs)
  | call (f : Nat) (es : MEs) | bi (b : Bi) (es : MEs) | meth (m : Mt) (o : ME) (es : MEs)
  | isin (a : ME) (t : Ty)
  | lc (elt : ME) (tg : Tgt) (it : MI) (tests : MEs) (own : List Nat)
  | xfld (f : Str) | xis (c : XC)
inductive MEs where
  | nil | cons (e : ME) (r : MEs)
inductive MI where
  | seq (e : ME) | rng1 (a : ME) | rng2 (a b : ME) | zip (a b : ME)
end

mutual
inductive MS where
  | asg (t : Tgt) (e : ME) | asgS (o i e : ME) | par (i j : Nat) (a b : ME)
  | aug (i : Nat) (op : Bop) (e : ME)
  | expr (e : ME) | ite (t : ME) (a b : MSs) | whl (t : ME) (b : MSs) | for (t : Tgt) (it : MI) (b : MSs)
  | ret (e : ME) | ret0 | brk | cnt | pass
  | raise (c : Nat) (es : MEs)
  | try (b : MSs) (c : XC) (slot : Option Nat) (s : MSs)
inductive MSs where
  | nil | cons (s : MS) (r : MSs)
end

/-! ### data: ==, types, truth -/
mutual
def D.py : D → PyData
  | .non => .none
  | .bl b => .bool b
  | .int i => .int i
  | .str s => .str s
  | .tup xs => .tuple (D.pys xs)
  | .loc _ => .none
def D.pys : List D → List PyData
  | [] => []
  | d :: ds => d.py :: D.pys ds
end
mutual
/-- no place in it -/
def D.pure : D → Bool
  | .tup xs => D.pures xs
  | .loc _ => false
  | _ => true
def D.pures : List D → Bool
  | [] => true
  | d :: ds => d.pure && D.pures ds
end
/-- what == compares -/
def eqArg (μ : Mem) : D → Option PyData
  | .loc l => match μ[l]? with
    | some (.lst xs) => if D.pures xs = true then some (.list (D.pys xs)) else none
    | some (.ro xs) => if D.pures xs = true then some (.list (D.pys xs)) else none
    | _ => none
  | d => if d.pure = true then some d.py else none
def eqM (x y : D) (μ : Mem) : Option Bool := match eqArg μ x, eqArg μ y with
  | some d, some e => if SeqAt.shaped d = true ∧ SeqAt.shaped e = true then some (PyData.eqv d e) else none
  | _, _ => none
def seqM (μ : Mem) : D → Option (List D)
  | .tup xs => some xs
  | .loc l => match μ[l]? with
    | some (.lst xs) => some xs
    | some (.ro xs) => some xs
    | _ => none
  | _ => none
def truM (μ : Mem) : D → Option Bool
  | .non => some false
  | .bl b => some b
  | .int i => some (i != 0)
  | .tup xs => some (!xs.isEmpty)
  | .loc l => (seqM μ (.loc l)).map fun xs => !xs.isEmpty
  | .str s => if s.length ≤ LIM then some ((s.length : Int) != 0) else none
/-- isinstance(x, t) -/
def isTy (μ : Mem) : D → Ty → Option Bool
  | .non, _ => some false
  | .bl _, .bool => some true
  | .bl _, .int => some true
  | .bl _, _ => some false
  | .int _, .int => some true
  | .int _, _ => some false
  | .str _, .str => some true
  | .str _, _ => some false
  | .tup _, .tuple => some true
  | .tup _, _ => some false
  | .loc l, t => match μ[l]? with
    | some (.lst _) => some (match t with | .list => true | _ => false)
    | some (.ro _) => some (match t with | .list => true | _ => false)
    | _ => none
/-- xs[i] -/
def atD (xs : List D) (i : Int) : Option D := if 0 ≤ i then xs[i.toNat]? else if -(xs.length : Int) ≤ i then xs[(i + xs.length).toNat]? else none
def setD (xs : List D) (i : Int) (v : D) : Option (List D) := if 0 ≤ i ∧ i < xs.length then some (xs.set i.toNat v) else if i < 0 ∧ -(xs.length : Int) ≤ i then some (xs.set (i + xs.length).toNat v) else none
/-- the end of a slice -/
def cutIx (n : Nat) (dflt : Nat) : Option Int → Nat
  | none => dflt
  | some i => if i < 0 then (i + n).toNat else min i.toNat n
def cutD (xs : List D) (lo hi : Option Int) : List D := (xs.drop (cutIx xs.length 0 lo)).take (cutIx xs.length xs.length hi - cutIx xs.length 0 lo)
def sliceD (x : D) (l h : Option Int) (μ : Mem) : R D := match x with
  | .tup xs => .ok (.tup (cutD xs l h)) μ
  | .loc p => match seqM μ (.loc p) with
    | some xs => .ok (.loc μ.length) (μ ++ [.lst (cutD xs l h)])
    | none => .stuck
  | _ => .stuck
def ixD (x y : D) (μ : Mem) : R D := match seqM μ x, y with
  | some xs, .int k => (match atD xs k with
    | some d => .ok d μ
    | none => .stuck)
  | _, _ => .stuck

def okO {α : Type} (o : Option α) (μ : Mem) : R α := match o with
  | some a => .ok a μ
  | none => .stuck

def bopD : Bop → D → D → Mem → R D
  | .add, .int i, .int j, μ => .ok (.int (i + j)) μ
  | .sub, .int i, .int j, μ => .ok (.int (i - j)) μ
  | .mul, .int i, .int j, μ => if (i.natAbs < 18446744073709551616 ∨ j.natAbs < 18446744073709551616) ∨ i.natAbs.log2 + j.natAbs.log2 < 1000000 then .ok (.int (i * j)) μ else .stuck
  | .fdiv, .int i, .int j, μ => if 0 < j ∧ (j < 1073741824 ∨ j.natAbs.log2 < 9000) then .ok (.int (i / j)) μ else .stuck
  | .mod, .int i, .int j, μ => if 0 < j then .ok (.int (i % j)) μ else .stuck
  | .pow, .int i, .int j, μ => if 0 ≤ j ∧ j ≤ 1000000 ∧ i.natAbs < 18446744073709551616 then .ok (.int (i ^ j.toNat)) μ else .stuck
  | .add, .str a, .str b, μ => if a.length + b.length ≤ LIM then .ok (.str (a ++ b)) μ else .stuck
  | .add, .tup a, .tup b, μ => if a.length + b.length ≤ LIM then .ok (.tup (a ++ b)) μ else .stuck
  | .add, .loc l, .loc m, μ => match μ[l]?, μ[m]? with
    | some (.lst a), some (.lst b) => if a.length + b.length ≤ LIM then .ok (.loc μ.length) (μ ++ [.lst (a ++ b)]) else .stuck
    | _, _ => .stuck
  | .mul, .loc l, .int k, μ => match μ[l]? with
    | some (.lst a) => if k ≤ 1000000 ∧ -1000000 ≤ k ∧ a.length * k.toNat ≤ LIM then .ok (.loc μ.length) (μ ++ [.lst (List.replicate k.toNat a).flatten]) else .stuck
    | _ => .stuck
  | _, _, _, _ => .stuck

def copD : Cop → D → D → Mem → R D
  | .eq, x, y, μ => okO ((eqM x y μ).map D.bl) μ
  | .ne, x, y, μ => okO ((eqM x y μ).map fun b => D.bl (!b)) μ
  | .lt, .int i, .int j, μ => .ok (.bl (decide (i < j))) μ
  | .le, .int i, .int j, μ => .ok (.bl (decide (i ≤ j))) μ
  | .gt, .int i, .int j, μ => .ok (.bl (decide (j < i))) μ
  | .ge, .int i, .int j, μ => .ok (.bl (decide (j ≤ i))) μ
  | .is, .bl a, .bl b, μ => .ok (.bl (decide (a = b))) μ
  | .is, x, .non, μ => .ok (.bl (match x with | .non => true | _ => false)) μ
  | .isNot, .bl a, .bl b, μ => .ok (.bl (!decide (a = b))) μ
  | .isNot, x, .non, μ => .ok (.bl (match x with | .non => false | _ => true)) μ
  | _, _, _, _ => .stuck

/-- x op= y -/
def augD : Bop → D → D → Mem → R D
  | .add, .int i, .int j, μ => .ok (.int (i + j)) μ
  | .sub, .int i, .int j, μ => .ok (.int (i - j)) μ
  | .mul, .int i, .int j, μ => if i.natAbs < 18446744073709551616 ∨ j.natAbs < 18446744073709551616 then .ok (.int (i * j)) μ else .stuck
  | .fdiv, .int i, .int j, μ => if 0 < j ∧ j < 1073741824 then .ok (.int (i / j)) μ else .stuck
  | .mod, .int i, .int j, μ => if 0 < j then .ok (.int (i % j)) μ else .stuck
  | .add, .str a, .str b, μ => if a.length + b.length ≤ LIM then .ok (.str (a ++ b)) μ else .stuck
  | _, _, _, _ => .stuck
def isInts : List D → Option (List Int)
  | [] => some []
  | .int i :: r => (isInts r).map (i :: ·)
  | _ :: _ => none

def biD : Bi → List D → Mem → R D
  | .len, [.str s], μ => if s.length ≤ LIM then .ok (.int s.length) μ else .stuck
  | .len, [d], μ => okO ((seqM μ d).map fun xs => D.int xs.length) μ
  | .tuple, [d], μ => okO ((seqM μ d).map D.tup) μ
  | .list, [d], μ => match seqM μ d with
    | some xs => .ok (.loc μ.length) (μ ++ [.lst xs])
    | none => .stuck
  | .int, [.int i], μ => .ok (.int i) μ
  | .int, [.bl b], μ => .ok (.int (if b then 1 else 0)) μ
  | .bool, [.bl b], μ => .ok (.bl b) μ
  | .bool, [.int i], μ => .ok (.bl (i != 0)) μ
  | .sum, [.loc l], μ => okO (((seqM μ (.loc l)).bind isInts).map fun ns => D.int ns.sum) μ
  | .abs, [.int i], μ => .ok (.int (if i < 0 then -i else i)) μ
  | .min2, [.int i, .int j], μ => .ok (.int (if j < i then j else i)) μ
  | .max2, [.int i, .int j], μ => .ok (.int (if j > i then j else i)) μ
  | _, _, _ => .stuck

def mtD : Mt → D → List D → Mem → R D
  | .append, .loc l, [d], μ => match μ[l]? with
    | some (.lst xs) => if xs.length < LIM then .ok .non (μ.set l (.lst (xs ++ [d]))) else .stuck
    | _ => .stuck
  | .extend, .loc l, [.loc m], μ => match μ[l]?, μ[m]? with
    | some (.lst xs), some (.lst ys) => if xs.length + ys.length ≤ LIM then .ok .non (μ.set l (.lst (xs ++ ys))) else .stuck
    | _, _ => .stuck
  | .pop, .loc l, [], μ => match μ[l]? with
    | some (.lst xs) => match xs[xs.length - 1]? with
      | some y => .ok y (μ.set l (.lst xs.dropLast))
      | none => .stuck
    | _ => .stuck
  | _, _, _, _ => .stuck

/-- a receiver of the right kind -/
def mtRecv : Mt → D → Mem → Bool
  | .append, .loc l, μ => (seqM μ (.loc l)).isSome
  | .extend, .loc l, μ => (seqM μ (.loc l)).isSome
  | .pop, .loc l, μ => (seqM μ (.loc l)).isSome
  | _, _, _ => false
abbrev Env' := List (Option D)
mutual
def setT : Tgt → D → Env' → Option Env'
  | .slot i, d, env => some (env.set i (some d))
  | .nil, .tup [], env => some env
  | .cons a r, .tup (d :: ds), env => (setT a d env).bind fun e => setTs r ds e
  | _, _, _ => none
def setTs : Tgt → List D → Env' → Option Env'
  | .nil, [], env => some env
  | .cons a r, d :: ds, env => (setT a d env).bind fun e => setTs r ds e
  | _, _, _ => none
end
theorem setT_cons (a r : Tgt) (ds : List D) (env : Env') : setT (.cons a r) (.tup ds) env = setTs (.cons a r) ds env := by cases ds <;> rfl

/-- what a loop walks -/
inductive It where
  | items (ds : List D)
  | live (l : Nat) (n : Nat)
  | zipL (l m n : Nat)
def It.fuel : It → Nat
  | .items ds => ds.length
  | .live _ n => n
  | .zipL _ _ n => n
/-- turn i: none: it goes wrong; some none: it ends -/
def It.at (it : It) (i : Nat) (μ : Mem) : Option (Option D) := match it with
  | .items ds => some ds[i]?
  | .live l _ => (seqM μ (.loc l)).map fun xs => xs[i]?
  | .zipL l m _ => match seqM μ (.loc l), seqM μ (.loc m) with
    | some xs, some ys => match xs[i]?, ys[i]? with
      | some x, some y => some (some (.tup [x, y]))
      | _, _ => some none
    | _, _ => none
def rngD (lo hi : Int) : List D := (List.range (hi - lo).toNat).map fun (k : Nat) => D.int (lo + (k : Int))
def wipeD (env : Env') : List Nat → Env'
  | [] => env
  | v :: vs => (wipeD env vs).set v none

/-- a comprehension: the new list stands at L -/
def lcGo (it : It) (L : Nat) (f : D → Mem → R (Option D)) : Nat → Nat → Mem → R D
  | 0, i, μ => match it.at i μ with
    | some none => .ok (.loc L) μ
    | _ => .stuck
  | n + 1, i, μ => match it.at i μ with
    | none => .stuck
    | some none => .ok (.loc L) μ
    | some (some d) => match f d μ with
      | .ok none μ => lcGo it L f n (i + 1) μ
      | .ok (some y) μ => match μ[L]? with
        | some (.lst acc) => if acc.length < LIM then lcGo it L f n (i + 1) (μ.set L (.lst (acc ++ [y]))) else .stuck
        | _ => .stuck
      | _ => .stuck

def R.test (r : R D) (k : Bool → Mem → R D) : R D := r.bind fun d μ => match truM μ d with
  | some b => k b μ
  | none => .stuck

def isXC (par : Nat → Nat → Bool) (x : Exn) : XC → Bool
  | .own c => par x.cls c
  | .ve => true

section
variable (par : Nat → Nat → Bool) (call : Nat → List D → Mem → R D) (cx : Option Exn)
mutual
def evalE : ME → Env' → Mem → R D
  | .var i, env, μ => match env[i]? with
    | some (some d) => .ok d μ
    | _ => .stuck
  | .non, _, μ => .ok .non μ
  | .bl b, _, μ => .ok (.bl b) μ
  | .int i, _, μ => .ok (.int i) μ
  | .str s, _, μ => .ok (.str s) μ
  | .gint _ i, _, μ => .ok (.int i) μ
  | .bop op a b, env, μ => (evalE a env μ).bind fun x μ => (evalE b env μ).bind fun y μ => bopD op x y μ
  | .neg a, env, μ => (evalE a env μ).bind fun x μ => match x with
    | .int i => .ok (.int (-i)) μ
    | _ => .stuck
  | .not a, env, μ => (evalE a env μ).test fun b μ => .ok (.bl (!b)) μ
  | .cmp op a b, env, μ => (evalE a env μ).bind fun x μ => (evalE b env μ).bind fun y μ => copD op x y μ
  | .cmp2 op op' a b c, env, μ => (evalE a env μ).bind fun x μ => (evalE b env μ).bind fun y μ => (copD op x y μ).bind fun z μ => match z with
    | .bl true => (evalE c env μ).bind fun u μ => copD op' y u μ
    | .bl false => .ok (.bl false) μ
    | _ => .stuck
  | .and a b, env, μ => (evalE a env μ).bind fun x μ => match truM μ x with
    | some true => evalE b env μ
    | some false => .ok x μ
    | none => .stuck
  | .or a b, env, μ => (evalE a env μ).bind fun x μ => match truM μ x with
    | some false => evalE b env μ
    | some true => .ok x μ
    | none => .stuck
  | .ite t a b, env, μ => (evalE t env μ).test fun k μ => if k = true then evalE a env μ else evalE b env μ
  | .tup es, env, μ => (evalEs es env μ).bind fun ds μ => if ds.length ≤ LIM then .ok (.tup ds) μ else .stuck
  | .lst es, env, μ => (evalEs es env μ).bind fun ds μ => if ds.length ≤ LIM then .ok (.loc μ.length) (μ ++ [.lst ds]) else .stuck
  | .ix a i, env, μ => (evalE a env μ).bind fun x μ => (evalE i env μ).bind fun y μ => ixD x y μ
  | .slice a lo hi, env, μ => (evalE a env μ).bind fun x μ => (evalO lo env μ).bind fun l μ => (evalO hi env μ).bind fun h μ => sliceD x l h μ
  | .call f es, env, μ => (evalEs es env μ).bind fun ds μ => call f ds μ
  | .bi b es, env, μ => (evalEs es env μ).bind fun ds μ => biD b ds μ
  | .meth m o es, env, μ => (evalE o env μ).bind fun x μ => if mtRecv m x μ = true then (evalEs es env μ).bind fun ds μ => mtD m x ds μ else .stuck
  | .isin a t, env, μ => (evalE a env μ).bind fun x μ => okO ((isTy μ x t).map D.bl) μ
  | .lc elt tg it tests own, env, μ => (evalI it env μ).bind fun w μ =>
      lcGo w μ.length (fun d μ => match setT tg d (wipeD env own) with
        | none => .stuck
        | some env' => (evalTs tests env' μ).bind fun b μ => if b = true then (evalE elt env' μ).bind fun y μ => .ok (some y) μ else .ok none μ) w.fuel 0 (μ ++ [.lst []])
  | .xfld f, _, μ => match cx with
    | some x => okO (x.fs.lookup f) μ
    | none => .stuck
  | .xis c, _, μ => match cx with
    | some x => .ok (.bl (isXC par x c)) μ
    | none => .stuck
def evalEs : MEs → Env' → Mem → R (List D)
  | .nil, _, μ => .ok [] μ
  | .cons e r, env, μ => (evalE e env μ).bind fun d μ => (evalEs r env μ).bind fun ds μ => .ok (d :: ds) μ
def evalO : MEs → Env' → Mem → R (Option Int)
  | .nil, _, μ => .ok none μ
  | .cons e r, env, μ => (evalE e env μ).bind fun d μ => match d with
    | .int i => .ok (some i) μ
    | _ => .stuck
def evalTs : MEs → Env' → Mem → R Bool
  | .nil, _, μ => .ok true μ
  | .cons e r, env, μ => (evalE e env μ).bind fun d μ => match truM μ d with
    | some true => evalTs r env μ
    | some false => .ok false μ
    | none => .stuck
def evalI : MI → Env' → Mem → R It
  | .seq e, env, μ => (evalE e env μ).bind fun d μ => match d with
    | .tup xs => .ok (.items xs) μ
    | .loc l => match seqM μ (.loc l) with
      | some xs => .ok (.live l xs.length) μ
      | none => .stuck
    | _ => .stuck
  | .rng1 a, env, μ => (evalE a env μ).bind fun d μ => match d with
    | .int i => if i ≤ 1000000000 ∧ -1000000000 ≤ i then .ok (.items (rngD 0 i)) μ else .stuck
    | _ => .stuck
  | .rng2 a b, env, μ => (evalE a env μ).bind fun d μ => (evalE b env μ).bind fun e μ => match d, e with
    | .int i, .int j => if (i ≤ 1000000000 ∧ -1000000000 ≤ i) ∧ j ≤ 1000000000 ∧ -1000000000 ≤ j then .ok (.items (rngD i j)) μ else .stuck
    | _, _ => .stuck
  | .zip a b, env, μ => (evalE a env μ).bind fun d μ => (evalE b env μ).bind fun e μ => match d, e with
    | .tup xs, .tup ys => .ok (.items (List.zipWith (fun x y => D.tup [x, y]) xs ys)) μ
    | .loc l, .loc m => match seqM μ (.loc l), seqM μ (.loc m) with
      | some xs, some ys => .ok (.zipL l m (min xs.length ys.length)) μ
      | _, _ => .stuck
    | _, _ => .stuck
end
end

/-! ### statements -/
inductive SR where
  | nx (env : Env') (μ : Mem) | br (env : Env') (μ : Mem) | ct (env : Env') (μ : Mem) | rt (d : D) (μ : Mem) | ex (x : Exn) (env : Env') (μ : Mem) | stuck
def R.st (r : R D) (env : Env') (k : D → Mem → SR) : SR := match r with
  | .ok d μ => k d μ
  | .exc x μ => .ex x env μ
  | .stuck => .stuck
def R.stI (r : R It) (env : Env') (k : It → Mem → SR) : SR := match r with
  | .ok d μ => k d μ
  | .exc x μ => .ex x env μ
  | .stuck => .stuck
def R.sts (r : R (List D)) (env : Env') (k : List D → Mem → SR) : SR := match r with
  | .ok d μ => k d μ
  | .exc x μ => .ex x env μ
  | .stuck => .stuck

def forGo (it : It) (f : D → Env' → Mem → SR) : Nat → Nat → Env' → Mem → SR
  | 0, i, env, μ => match it.at i μ with
    | some none => .nx env μ
    | _ => .stuck
  | n + 1, i, env, μ => match it.at i μ with
    | none => .stuck
    | some none => .nx env μ
    | some (some d) => match f d env μ with
      | .nx env μ => forGo it f n (i + 1) env μ
      | .ct env μ => forGo it f n (i + 1) env μ
      | .br env μ => .nx env μ
      | .rt d μ => .rt d μ
      | .ex x env μ => .ex x env μ
      | .stuck => .stuck
def whlGo (t : Env' → Mem → R D) (f : Env' → Mem → SR) : Nat → Env' → Mem → SR
  | 0, _, _ => .stuck
  | n + 1, env, μ => (t env μ).st env fun d μ => match truM μ d with
    | none => .stuck
    | some false => .nx env μ
    | some true => match f env μ with
      | .nx env μ => whlGo t f n env μ
      | .ct env μ => whlGo t f n env μ
      | .br env μ => .nx env μ
      | .rt d μ => .rt d μ
      | .ex x env μ => .ex x env μ
      | .stuck => .stuck
/-- turns that a while is given -/
def WH : Nat := 1000000000

section
variable (par : Nat → Nat → Bool) (mk : Nat → List D → Option Exn) (call : Nat → List D → Mem → R D)
mutual
def execS (cx : Option Exn) : MS → Env' → Mem → SR
  | .asg t e, env, μ => (evalE par call cx e env μ).st env fun d μ => match setT t d env with
    | some env => .nx env μ
    | none => .stuck
  | .asgS o i e, env, μ => (evalE par call cx e env μ).st env fun v μ => (evalE par call cx o env μ).st env fun x μ => (evalE par call cx i env μ).st env fun y μ => match x, y with
    | .loc l, .int k => match μ[l]? with
      | some (.lst xs) => match setD xs k v with
        | some ys => .nx env (μ.set l (.lst ys))
        | none => .stuck
      | _ => .stuck
    | _, _ => .stuck
  | .par i j a b, env, μ => (evalE par call cx a env μ).st env fun x μ => (evalE par call cx b env μ).st env fun y μ => .nx ((env.set i (some x)).set j (some y)) μ
  | .aug i op e, env, μ => match env[i]? with
    | some (some x) => (evalE par call cx e env μ).st env fun y μ => (augD op x y μ).st env fun z μ => .nx (env.set i (some z)) μ
    | _ => .stuck
  | .expr e, env, μ => (evalE par call cx e env μ).st env fun _ μ => .nx env μ
  | .ite t a b, env, μ => (evalE par call cx t env μ).st env fun d μ => match truM μ d with
    | some true => execSs cx a env μ
    | some false => execSs cx b env μ
    | none => .stuck
  | .whl t b, env, μ => whlGo (evalE par call cx t) (execSs cx b) WH env μ
  | .for t it b, env, μ => (evalI par call cx it env μ).stI env fun w μ => forGo w (fun d env μ => match setT t d env with
      | some env => execSs cx b env μ
      | none => .stuck) w.fuel 0 env μ
  | .ret e, env, μ => (evalE par call cx e env μ).st env fun d μ => .rt d μ
  | .ret0, _, μ => .rt .non μ
  | .brk, env, μ => .br env μ
  | .cnt, env, μ => .ct env μ
  | .pass, env, μ => .nx env μ
  | .raise c es, env, μ => (evalEs par call cx es env μ).sts env fun ds μ => match mk c ds with
    | some x => .ex x env μ
    | none => .stuck
  | .try b c slot s, env, μ => match execSs cx b env μ with
    | .ex x env μ => if isXC par x c = true then (match slot with
        | none => (match execSs none s env μ with
          | .ex _ _ _ => .stuck
          | r => r)
        | some i => match execSs (some x) s (env.set i none) μ with
          | .nx env μ => .nx (env.set i none) μ
          | .br env μ => .br (env.set i none) μ
          | .ct env μ => .ct (env.set i none) μ
          | .rt d μ => .rt d μ
          | .ex _ _ _ => .stuck
          | .stuck => .stuck) else .ex x env μ
    | r => r
def execSs (cx : Option Exn) : MSs → Env' → Mem → SR
  | .nil, env, μ => .nx env μ
  | .cons s r, env, μ => match execS cx s env μ with
    | .nx env μ => execSs cx r env μ
    | z => z
end
end

structure MDef where
  name : Str
  params : List Str
  names : List Str
  body : MSs

/-! the objects of the first n places, if nothing in them or in d names a further one -/
mutual
def D.under (n : Nat) : D → Bool
  | .loc l => decide (l < n)
  | .tup xs => D.unders n xs
  | _ => true
def D.unders (n : Nat) : List D → Bool
  | [] => true
  | d :: ds => d.under n && D.unders n ds
end
def MO.under (n : Nat) : MO → Bool
  | .lst xs => D.unders n xs
  | .ro xs => D.unders n xs
  | .dic kvs => kvs.all fun p => p.1.under n && p.2.under n
def Mem.under (n : Nat) (μ : Mem) : Bool := μ.all (MO.under n)

def startD (d : MDef) (ds : List D) : Env' := ds.map some ++ List.replicate (d.names.length - ds.length) none

section
variable (par : Nat → Nat → Bool) (mk : Nat → List D → Option Exn) (T : Nat → Option MDef)
def Exn.under (n : Nat) (x : Exn) : Bool := x.fs.all fun p => p.2.under n
/-- a call's end: what the callee made and nobody names is forgotten -/
def leave (n : Nat) : SR → R D
  | .nx _ μ => if Mem.under n (μ.take n) = true then .ok .non (μ.take n) else .ok .non μ
  | .rt d μ => if (d.under n && Mem.under n (μ.take n)) = true then .ok d (μ.take n) else .ok d μ
  | .ex x _ μ => if (x.under n && Mem.under n (μ.take n)) = true then .exc x (μ.take n) else .exc x μ
  | _ => .stuck
def callN : Nat → Nat → List D → Mem → R D
  | 0, _, _, _ => .stuck
  | n + 1, f, ds, μ => match T f with
    | none => .stuck
    | some d => if ds.length = d.params.length then leave μ.length (execSs par mk (callN n) none d.body (startD d ds) μ) else .stuck
end
end Mn

/-! # Mini, second part: what a mini value, a mini memory is on the heap; operators -/
namespace Mn
open PySem PySem.Spec PyProof.Rows L2

mutual
inductive Rv (K : PySem.W.Frag) (ρ : List Addr) (H : Hp) : V → D → Prop
  | non : Rv K ρ H .non .non
  | bl (b : Bool) : Rv K ρ H (.bl b) (.bl b)
  | int (i : Int) : Rv K ρ H (.int i) (.int i)
  | str (s : Str) : Rv K ρ H (.str s) (.str s)
  | tup {a : Addr} {vs : List V} {ds : List D} : SqT K H a vs → Rvs K ρ H vs ds → Rv K ρ H (.ref a) (.tup ds)
  | loc {n : Nat} {a : Addr} : ρ[n]? = some a → Rv K ρ H (.ref a) (.loc n)
inductive Rvs (K : PySem.W.Frag) (ρ : List Addr) (H : Hp) : List V → List D → Prop
  | nil : Rvs K ρ H [] []
  | cons {v : V} {vs : List V} {d : D} {ds : List D} : Rv K ρ H v d → Rvs K ρ H vs ds → Rvs K ρ H (v :: vs) (d :: ds)
end

/-- what stays: tuples, locked things, the dicts of exceptions -/
structure Ext (H H' : Hp) : Prop where
  tup : ∀ a xs, H a = some (.tup xs) → H' a = some (.tup xs)
  frz : ∀ a o u, H a = some (.frz o u) → H' a = some (.frz o u)
  xd : ∀ a fs, H a = some (.xd fs) → H' a = some (.xd fs)
theorem Ext.refl (H : Hp) : Ext H H := ⟨fun _ _ h => h, fun _ _ _ h => h, fun _ _ h => h⟩
theorem Ext.trans {H H1 H2 : Hp} (a : Ext H H1) (b : Ext H1 H2) : Ext H H2 := ⟨fun c x h => b.tup c x (a.tup c x h), fun c o x h => b.frz c o x (a.frz c o x h), fun c x h => b.xd c x (a.xd c x h)⟩
theorem Ext.new {H : Hp} {p : Addr} {o : HO} (h : H p = none) : Ext H (upd H p o) :=
  ⟨fun a xs e => by rw [upd_ne (ne_of_none e h)]; exact e, fun a o xs e => by rw [upd_ne (ne_of_none e h)]; exact e, fun a xs e => by rw [upd_ne (ne_of_none e h)]; exact e⟩
theorem Ext.set {H : Hp} {p : Addr} {xs : List V} {o : HO} (h : H p = some (.lst xs)) : Ext H (upd H p o) :=
  ⟨fun a xs e => by rw [upd_ne (ne_of e h (by intro z; cases z))]; exact e, fun a o xs e => by rw [upd_ne (ne_of e h (by intro z; cases z))]; exact e, fun a xs e => by rw [upd_ne (ne_of e h (by intro z; cases z))]; exact e⟩
theorem Ext.sqT {K : PySem.W.Frag} {H H' : Hp} {a : Addr} {xs : List V} (e : Ext H H') (h : SqT K H a xs) : SqT K H' a xs := by
  rcases h with (h | ⟨o, h⟩) | h
  · exact .inl (.inl (e.tup _ _ h))
  · exact .inl (.inr ⟨o, e.frz _ _ _ h⟩)
  · exact .inr h

section
variable {K : PySem.W.Frag} {ρ ρ' : List Addr} {H H' : Hp}
theorem pre_get (p : ρ <+: ρ') {n : Nat} {a : Addr} (h : ρ[n]? = some a) : ρ'[n]? = some a := by
  obtain ⟨t, rfl⟩ := p
  obtain ⟨hl, _⟩ := List.getElem?_eq_some_iff.mp h
  rw [List.getElem?_append_left hl]; exact h
mutual
theorem Rv.mono (p : ρ <+: ρ') (e : Ext H H') : ∀ {v : V} {d : D}, Rv K ρ H v d → Rv K ρ' H' v d
  | _, _, .non => .non
  | _, _, .bl b => .bl b
  | _, _, .int i => .int i
  | _, _, .str s => .str s
  | _, _, .tup h r => .tup (e.sqT h) (Rvs.mono p e r)
  | _, _, .loc h => .loc (pre_get p h)
theorem Rvs.mono (p : ρ <+: ρ') (e : Ext H H') : ∀ {vs : List V} {ds : List D}, Rvs K ρ H vs ds → Rvs K ρ' H' vs ds
  | _, _, .nil => .nil
  | _, _, .cons h r => .cons (Rv.mono p e h) (Rvs.mono p e r)
end
theorem Rvs.length : ∀ {vs : List V} {ds : List D}, Rvs K ρ H vs ds → vs.length = ds.length
  | _, _, .nil => rfl
  | _, _, .cons _ r => by rw [List.length_cons, List.length_cons, Rvs.length r]
theorem Rvs.get : ∀ {vs : List V} {ds : List D} {i : Nat} {d : D}, Rvs K ρ H vs ds → ds[i]? = some d → ∃ v, vs[i]? = some v ∧ Rv K ρ H v d
  | _, _, _, _, .nil, e => by simp at e
  | _, _, 0, _, .cons h _, e => by simp at e; subst e; exact ⟨_, rfl, h⟩
  | _, _, i + 1, _, .cons _ r, e => by
    obtain ⟨v, h1, h2⟩ := Rvs.get (i := i) r (by simpa using e)
    exact ⟨v, by simpa using h1, h2⟩
theorem Rvs.append : ∀ {vs ws : List V} {ds es : List D}, Rvs K ρ H vs ds → Rvs K ρ H ws es → Rvs K ρ H (vs ++ ws) (ds ++ es)
  | _, _, _, _, .nil, s => s
  | _, _, _, _, .cons h r, s => .cons h (Rvs.append r s)
theorem Rvs.take : ∀ {vs : List V} {ds : List D} (n : Nat), Rvs K ρ H vs ds → Rvs K ρ H (vs.take n) (ds.take n)
  | _, _, 0, _ => .nil
  | _, _, _ + 1, .nil => .nil
  | _, _, n + 1, .cons h r => .cons h (Rvs.take n r)
theorem Rvs.drop : ∀ {vs : List V} {ds : List D} (n : Nat), Rvs K ρ H vs ds → Rvs K ρ H (vs.drop n) (ds.drop n)
  | _, _, 0, h => h
  | _, _, _ + 1, .nil => .nil
  | _, _, n + 1, .cons _ r => Rvs.drop n r
theorem Rvs.set {v : V} {d : D} (h : Rv K ρ H v d) : ∀ {vs : List V} {ds : List D} (i : Nat), Rvs K ρ H vs ds → Rvs K ρ H (vs.set i v) (ds.set i d)
  | _, _, _, .nil => .nil
  | _, _, 0, .cons _ r => .cons h r
  | _, _, i + 1, .cons q r => .cons q (Rvs.set h i r)
theorem Rvs.dropLast : ∀ {vs : List V} {ds : List D}, Rvs K ρ H vs ds → Rvs K ρ H vs.dropLast ds.dropLast := fun {vs ds} r => by
  rw [List.dropLast_eq_take, List.dropLast_eq_take, r.length]
  exact r.take _
theorem Rvs.ints : ∀ {vs : List V} {ds : List D} {ns : List Int}, Rvs K ρ H vs ds → isInts ds = some ns → vs = ns.map V.int
  | _, _, _, .nil, e => by simp [isInts] at e; subst e; rfl
  | _, _, _, .cons (d := d) h r, e => by
    cases d <;> simp [isInts] at e
    obtain ⟨ms, e1, rfl⟩ := e
    cases h
    rw [Rvs.ints r e1, List.map_cons]
theorem Rvs.of_ints : ∀ (ns : List Int), Rvs K ρ H (ns.map V.int) (ns.map D.int)
  | [] => .nil
  | n :: ns => .cons (.int n) (Rvs.of_ints ns)
theorem Rvs.of_append : ∀ {vs : List V} {ds es : List D}, Rvs K ρ H vs (ds ++ es) → Rvs K ρ H (vs.take ds.length) ds
  | vs, [], es, _ => by simp; exact .nil
  | _, d :: ds, es, .cons h r => .cons h (Rvs.of_append r)
end

/-- a list that is only read -/
def RoL (K : PySem.W.Frag) (H : Hp) (a : Addr) (xs : List V) : Prop :=
  (∃ o, H a = some (.frz o (.lst xs))) ∨
    ∃ (o : Obj) (its : Array Value) (n : Nat), K.lookup a = some o ∧ o.cls = .type "list" ∧ o.dict = none ∧ o.data = .seq its n ∧ its.size ≤ sizeLine ∧ Vals xs its.toList
theorem RoL.sq {K : PySem.W.Frag} {H : Hp} {a : Addr} {xs : List V} (h : RoL K H a xs) : SqL K H a xs := by
  rcases h with ⟨o, h⟩ | h
  · exact .inl (.inr ⟨o, h⟩)
  · exact .inr h
theorem RoL.ext {K : PySem.W.Frag} {H H' : Hp} {a : Addr} {xs : List V} (e : Ext H H') (h : RoL K H a xs) : RoL K H' a xs := by
  rcases h with ⟨o, h⟩ | h
  · exact .inl ⟨o, e.frz _ _ _ h⟩
  · exact .inr h
/-- a place of the memory, on the heap -/
def Ro (K : PySem.W.Frag) (ρ : List Addr) (H : Hp) (a : Addr) : MO → Prop
  | .lst ds => ∃ vs, H a = some (.lst vs) ∧ Rvs K ρ H vs ds
  | .ro ds => ∃ vs, RoL K H a vs ∧ Rvs K ρ H vs ds
  | .dic _ => False
def MO.mut : MO → Bool
  | .ro _ => false
  | _ => true
structure Rel (K : PySem.W.Frag) (ρ : List Addr) (μ : Mem) (H : Hp) : Prop where
  len : ρ.length = μ.length
  inj : ∀ (i j : Nat) (a : Addr) (o u : MO), μ[i]? = some o → μ[j]? = some u → o.mut = true → u.mut = true → ρ[i]? = some a → ρ[j]? = some a → i = j
  at_ : ∀ (i : Nat) (o : MO) (a : Addr), μ[i]? = some o → ρ[i]? = some a → Ro K ρ H a o

section
variable {K : PySem.W.Frag} {ρ ρ' : List Addr} {μ : Mem} {H H' : Hp}
theorem Ro.there {a : Addr} {o : MO} (r : Ro K ρ H a o) (m : o.mut = true) : ∃ u, H a = some u := by
  cases o with
  | lst ds => obtain ⟨vs, h, _⟩ := r; exact ⟨_, h⟩
  | ro ds => cases m
  | dic kvs => exact r.elim
/-- a place that is not touched -/
theorem Ro.keep {a : Addr} {o : MO} (p : ρ <+: ρ') (e : Ext H H') (h : o.mut = true → H' a = H a) (r : Ro K ρ H a o) : Ro K ρ' H' a o := by
  cases o with
  | lst ds => obtain ⟨vs, h1, h2⟩ := r; exact ⟨vs, (h rfl).trans h1, h2.mono p e⟩
  | ro ds => obtain ⟨vs, h1, h2⟩ := r; exact ⟨vs, h1.ext e, h2.mono p e⟩
  | dic kvs => exact r.elim
theorem Rel.addr (R : Rel K ρ μ H) {n : Nat} {o : MO} (h : μ[n]? = some o) : ∃ a, ρ[n]? = some a ∧ Ro K ρ H a o := by
  have hn : n < μ.length := (List.getElem?_eq_some_iff.mp h).1
  have : n < ρ.length := by rw [R.len]; exact hn
  exact ⟨ρ[n], by simp [this], R.at_ n o _ h (by simp [this])⟩
/-- something new is tracked -/
theorem Rel.other (R : Rel K ρ μ H) {p : Addr} {o : HO} (hp : H p = none) : Rel K ρ μ (upd H p o) := by
  refine ⟨R.len, R.inj, fun i u a h1 h2 => ?_⟩
  refine (R.at_ i u a h1 h2).keep (List.prefix_refl _) (Ext.new hp) fun m => ?_
  obtain ⟨w, e⟩ := (R.at_ i u a h1 h2).there m
  exact upd_ne (ne_of_none e hp)
/-- a new list -/
theorem Rel.push (R : Rel K ρ μ H) {p : Addr} {vs : List V} {ds : List D} (hp : H p = none) (r : Rvs K ρ H vs ds) : Rel K (ρ ++ [p]) (μ ++ [.lst ds]) (upd H p (.lst vs)) := by
  have pf : ρ <+: ρ ++ [p] := List.prefix_append _ _
  have e : Ext H (upd H p (.lst vs)) := Ext.new hp
  have split : ∀ (i : Nat) (o : MO), (μ ++ [MO.lst ds])[i]? = some o → (i < μ.length ∧ μ[i]? = some o) ∨ (i = μ.length ∧ o = .lst ds) := fun i o h => by
    by_cases hi : i < μ.length
    · rw [List.getElem?_append_left hi] at h; exact .inl ⟨hi, h⟩
    · have hl := (List.getElem?_eq_some_iff.mp h).1
      simp at hl
      have : i = μ.length := by omega
      subst this
      simp at h
      exact .inr ⟨rfl, h.symm⟩
  have adr : ∀ (i : Nat) (a : Addr), i < μ.length → (ρ ++ [p])[i]? = some a → ρ[i]? = some a := fun i a hi h => by
    rw [List.getElem?_append_left (by rw [R.len]; exact hi)] at h; exact h
  have adl : ∀ a : Addr, (ρ ++ [p])[μ.length]? = some a → a = p := fun a h => by
    rw [← R.len] at h
    simp at h
    exact h.symm
  refine ⟨by simp [R.len], fun i j a o u h1 h2 m1 m2 g1 g2 => ?_, fun i o a h1 g1 => ?_⟩
  · rcases split i o h1 with ⟨hi, h1'⟩ | ⟨rfl, rfl⟩ <;> rcases split j u h2 with ⟨hj, h2'⟩ | ⟨rfl, rfl⟩
    · exact R.inj i j a o u h1' h2' m1 m2 (adr i a hi g1) (adr j a hj g2)
    · have := adl a g2
      subst this
      obtain ⟨w, z⟩ := (R.at_ i o a h1' (adr i a hi g1)).there m1
      rw [hp] at z; cases z
    · have := adl a g1
      subst this
      obtain ⟨w, z⟩ := (R.at_ j u a h2' (adr j a hj g2)).there m2
      rw [hp] at z; cases z
    · rfl
  · rcases split i o h1 with ⟨hi, h1'⟩ | ⟨rfl, rfl⟩
    · have q := R.at_ i o a h1' (adr i a hi g1)
      refine q.keep pf e fun m => ?_
      obtain ⟨w, z⟩ := q.there m
      exact upd_ne (ne_of_none z hp)
    · have := adl a g1
      subst this
      exact ⟨vs, upd_same, r.mono pf e⟩
/-- a list is written -/
theorem Rel.write (R : Rel K ρ μ H) {l : Nat} {a : Addr} {xs : List D} {ws vs : List V} {ds : List D} (h : μ[l]? = some (.lst xs)) (ha : ρ[l]? = some a) (hw : H a = some (.lst ws)) (r : Rvs K ρ H vs ds) :
    Rel K ρ (μ.set l (.lst ds)) (upd H a (.lst vs)) := by
  have hl : l < μ.length := (List.getElem?_eq_some_iff.mp h).1
  have e : Ext H (upd H a (.lst vs)) := Ext.set hw
  have get : ∀ (i : Nat) (o : MO), (μ.set l (.lst ds))[i]? = some o → (i = l ∧ o = .lst ds) ∨ (i ≠ l ∧ μ[i]? = some o) := fun i o q => by
    by_cases hi : i = l
    · subst hi
      rw [List.getElem?_set_self hl] at q
      exact .inl ⟨rfl, (Option.some.inj q).symm⟩
    · rw [List.getElem?_set_ne (Ne.symm hi)] at q
      exact .inr ⟨hi, q⟩
  have was : ∀ (i : Nat) (o : MO), (μ.set l (.lst ds))[i]? = some o → o.mut = true → ∃ o', μ[i]? = some o' ∧ o'.mut = true := fun i o q m => by
    rcases get i o q with ⟨rfl, _⟩ | ⟨_, q'⟩
    · exact ⟨_, h, rfl⟩
    · exact ⟨_, q', m⟩
  refine ⟨by simp [R.len], fun i j b o u h1 h2 m1 m2 g1 g2 => ?_, fun i o b h1 g1 => ?_⟩
  · obtain ⟨o', h1', m1'⟩ := was i o h1 m1
    obtain ⟨u', h2', m2'⟩ := was j u h2 m2
    exact R.inj i j b o' u' h1' h2' m1' m2' g1 g2
  · rcases get i o h1 with ⟨rfl, rfl⟩ | ⟨hi, h1'⟩
    · rw [ha] at g1
      cases g1
      exact ⟨vs, upd_same, r.mono (List.prefix_refl _) e⟩
    · refine (R.at_ i o b h1' g1).keep (List.prefix_refl _) e fun m => upd_ne fun q => ?_
      subst q
      exact hi (R.inj i l b o _ h1' h m rfl g1 ha)
mutual
theorem Rv.cut {n : Nat} : ∀ {v : V} {d : D}, Rv K ρ H v d → d.under n = true → Rv K (ρ.take n) H v d
  | _, _, .non, _ => .non
  | _, _, .bl b, _ => .bl b
  | _, _, .int i, _ => .int i
  | _, _, .str s, _ => .str s
  | _, _, .tup h r, q => .tup h (Rvs.cut r (by simpa [D.under] using q))
  | _, _, .loc (n := m) h, q => .loc (by
      have : m < n := by simpa [D.under] using q
      rw [List.getElem?_take_of_lt this]; exact h)
theorem Rvs.cut {n : Nat} : ∀ {vs : List V} {ds : List D}, Rvs K ρ H vs ds → D.unders n ds = true → Rvs K (ρ.take n) H vs ds
  | _, _, .nil, _ => .nil
  | _, _, .cons h r, q => by
    rw [D.unders, Bool.and_eq_true] at q
    exact .cons (Rv.cut h q.1) (Rvs.cut r q.2)
end
/-- the last places are forgotten -/
theorem Rel.cut (R : Rel K ρ μ H) {n : Nat} (q : Mem.under n (μ.take n) = true) : Rel K (ρ.take n) (μ.take n) H := by
  have ge : ∀ {γ : Type} {l : List γ} {i : Nat} {y : γ}, (l.take n)[i]? = some y → l[i]? = some y := fun {γ l i y} q => by
    rw [List.getElem?_take] at q
    split at q
    · exact q
    · cases q
  refine ⟨by simp [R.len], fun i j a o u h1 h2 m1 m2 g1 g2 => R.inj i j a o u (ge h1) (ge h2) m1 m2 (ge g1) (ge g2), fun i o a h1 g1 => ?_⟩
  · have hb : o.under n = true := List.all_eq_true.mp q o (List.mem_of_getElem? h1)
    have h1 := ge h1
    have g1 := ge g1
    have z := R.at_ i o a h1 g1
    cases o with
    | lst ds => obtain ⟨vs, h3, h4⟩ := z; exact ⟨vs, h3, h4.cut (by simpa [MO.under] using hb)⟩
    | ro ds => obtain ⟨vs, h3, h4⟩ := z; exact ⟨vs, h3, h4.cut (by simpa [MO.under] using hb)⟩
    | dic kvs => exact z.elim

/-- what stands in the slots -/
structure RelE (K : PySem.W.Frag) (ρ : List Addr) (H : Hp) (σ : L2.St) (env : Env') : Prop where
  len : σ.length = env.length
  at_ : ∀ (i : Nat) (d : D), env[i]? = some (some d) → ∃ v, σ[i]? = some (some v) ∧ Rv K ρ H v d
theorem RelE.mono {σ : L2.St} {env : Env'} (p : ρ <+: ρ') (e : Ext H H') (r : RelE K ρ H σ env) : RelE K ρ' H' σ env :=
  ⟨r.len, fun i d h => let ⟨v, h1, h2⟩ := r.at_ i d h; ⟨v, h1, h2.mono p e⟩⟩
theorem RelE.set {σ : L2.St} {env : Env'} (r : RelE K ρ H σ env) (i : Nat) {v : V} {d : D} (h : Rv K ρ H v d) : RelE K ρ H (σ.set i (some v)) (env.set i (some d)) := by
  refine ⟨by simp [r.len], fun j e q => ?_⟩
  by_cases hj : i = j
  · subst hj
    by_cases hi : i < env.length
    · rw [List.getElem?_set_self hi] at q
      cases q
      exact ⟨v, List.getElem?_set_self (by rw [r.len]; exact hi), h⟩
    · rw [List.getElem?_eq_none (by simpa using hi)] at q; cases q
  · rw [List.getElem?_set_ne hj] at q
    obtain ⟨w, h1, h2⟩ := r.at_ j e q
    exact ⟨w, by rw [List.getElem?_set_ne hj]; exact h1, h2⟩
theorem RelE.forget {σ : L2.St} {env : Env'} (r : RelE K ρ H σ env) (i : Nat) (w : Option V) : RelE K ρ H (σ.set i w) (env.set i none) := by
  refine ⟨by simp [r.len], fun j e q => ?_⟩
  by_cases hj : i = j
  · subst hj
    by_cases hi : i < env.length
    · rw [List.getElem?_set_self hi] at q; cases q
    · rw [List.getElem?_eq_none (by simpa using hi)] at q; cases q
  · rw [List.getElem?_set_ne hj] at q
    obtain ⟨w, h1, h2⟩ := r.at_ j e q
    exact ⟨w, by rw [List.getElem?_set_ne hj]; exact h1, h2⟩
theorem RelE.wipe {σ : L2.St} {env : Env'} (r : RelE K ρ H σ env) : ∀ vs : List Nat, RelE K ρ H (L2.wipe σ vs) (wipeD env vs)
  | [] => r
  | v :: vs => (RelE.wipe r vs).forget v none
end

/-- the classes of errors: how many, where -/
structure CA where
  n : Nat
  to : Nat → Addr
/-- an exception's own dict -/
def RX (K : PySem.W.Frag) (cA : CA) (ρ : List Addr) (H : Hp) (dd : Addr) (x : Exn) : Prop := x.cls < cA.n ∧ ∃ fs : List (Str × V), H dd = some (.xd fs) ∧ ∀ f d, x.fs.lookup f = some d → ∃ v, fs.lookup f = some v ∧ Rv K ρ H v d
theorem RX.mono {K : PySem.W.Frag} {cA : CA} {ρ ρ' : List Addr} {H H' : Hp} {dd : Addr} {x : Exn} (p : ρ <+: ρ') (e : Ext H H') (r : RX K cA ρ H dd x) : RX K cA ρ' H' dd x := by
  obtain ⟨c, fs, h1, h2⟩ := r
  exact ⟨c, fs, e.xd _ _ h1, fun f d q => let ⟨v, a, b⟩ := h2 f d q; ⟨v, a, b.mono p e⟩⟩

/-- a result of mine meets a wish of the layer's. cA: where the class c stands; W: what is wished of an exception, at the slots σ -/
def Fit {α β : Type} (K : PySem.W.Frag) (cA : CA) (W : WX) (σ : L2.St) (rep : List Addr → Hp → β → α → Prop) (ρ : List Addr) (H : Hp) (r : R α) (Q : β → Hp → Prop) : Prop := match r with
  | .ok d μ => ∀ ρ' H' x, ρ <+: ρ' → Ext H H' → Rel K ρ' μ H' → rep ρ' H' x d → Q x H'
  | .exc x μ => ∀ ρ' H' dd, ρ <+: ρ' → Ext H H' → Rel K ρ' μ H' → RX K cA ρ' H' dd x → W (.ref (cA.to x.cls)) (some dd) σ H'
  | .stuck => False
abbrev W0 : WX := fun _ _ _ _ => False
section
variable {α β : Type} {K : PySem.W.Frag} {cA : CA} {W : WX} {σ : L2.St} {rep : List Addr → Hp → β → α → Prop} {ρ ρ' : List Addr} {H H' : Hp} {Q : β → Hp → Prop}
theorem Fit.step {r : R α} (p : ρ <+: ρ') (e : Ext H H') (h : Fit K cA W σ rep ρ H r Q) : Fit K cA W σ rep ρ' H' r Q := by
  cases r with
  | ok d μ => exact fun ρ2 H2 x p2 e2 => h ρ2 H2 x (p.trans p2) (e.trans e2)
  | exc x μ => exact fun ρ2 H2 x p2 e2 => h ρ2 H2 x (p.trans p2) (e.trans e2)
  | stuck => exact h
theorem Fit.imp {r : R α} {Q' : β → Hp → Prop} (h : Fit K cA W σ rep ρ H r Q) (q : ∀ x H', Q x H' → Q' x H') : Fit K cA W σ rep ρ H r Q' := by
  cases r with
  | ok d μ => exact fun ρ2 H2 x p2 e2 a b => q _ _ (h ρ2 H2 x p2 e2 a b)
  | exc x μ => exact h
  | stuck => exact h
/-- two in a row -/
theorem Fit.bind {α' β' : Type} {rep' : List Addr → Hp → β' → α' → Prop} {r : R α} {f : α → Mem → R α'} {Q : β' → Hp → Prop} (h : Fit K cA W σ rep' ρ H (r.bind f) Q) :
    Fit K cA W σ rep ρ H r fun x H1 => ∃ ρ1 d1 μ1, ρ <+: ρ1 ∧ Ext H H1 ∧ Rel K ρ1 μ1 H1 ∧ rep ρ1 H1 x d1 ∧ Fit K cA W σ rep' ρ1 H1 (f d1 μ1) Q := by
  cases r with
  | ok d μ => exact fun ρ1 H1 x p e R q => ⟨ρ1, d, μ, p, e, R, q, Fit.step p e h⟩
  | exc x μ => exact h
  | stuck => exact h
end
end Mn

/-! # Mini, third part: operators, built-ins, methods -/
namespace Mn
open PySem PySem.Spec PyProof.Rows L2

theorem lim_line : LIM ≤ sizeLine := by rw [sizeLine_eq]; decide
def bopP : Bop → Operator
  | .add => .Add | .sub => .Sub | .mul => .Mult | .fdiv => .FloorDiv | .mod => .Mod | .pow => .Pow
def copP : Cop → CmpOp
  | .eq => .Eq | .ne => .NotEq | .lt => .Lt | .le => .LtE | .gt => .Gt | .ge => .GtE | .is => .Is | .isNot => .IsNot | .inn => .In | .notIn => .NotIn

def rD2 (K : PySem.W.Frag) (cA : CA) (W : WX) (f : D → D → Mem → R D) : R2 := fun x y H Q => ∃ σ0 ρ μ dx dy, Rel K ρ μ H ∧ Rv K ρ H x dx ∧ Rv K ρ H y dy ∧ Fit K cA W σ0 (Rv K) ρ H (f dx dy μ) Q

section
variable {K : PySem.W.Frag} {ρ : List Addr} {μ : Mem} {H : Hp} {cA : CA} {W : WX} {σ0 : L2.St} {Q : V → Hp → Prop}
/-- a value that is there -/
theorem fit_now {d : D} {x : V} (h : Fit K cA W σ0 (Rv K) ρ H (.ok d μ) Q) (R : Rel K ρ μ H) (r : Rv K ρ H x d) : Q x H := h ρ H x (List.prefix_refl _) (Ext.refl _) R r
/-- a new tuple -/
theorem fit_tup {ds : List D} {vs : List V} (h : Fit K cA W σ0 (Rv K) ρ H (.ok (.tup ds) μ) Q) (R : Rel K ρ μ H) (r : Rvs K ρ H vs ds) : ∀ p, H p = none → Q (.ref p) (upd H p (.tup vs)) := fun p hp =>
  h ρ _ _ (List.prefix_refl _) (Ext.new hp) (R.other hp) (.tup (SqT.of upd_same) (r.mono (List.prefix_refl _) (Ext.new hp)))
/-- a new list -/
theorem fit_lst {ds : List D} {vs : List V} (h : Fit K cA W σ0 (Rv K) ρ H (.ok (.loc μ.length) (μ ++ [.lst ds])) Q) (R : Rel K ρ μ H) (r : Rvs K ρ H vs ds) : ∀ p, H p = none → Q (.ref p) (upd H p (.lst vs)) := fun p hp =>
  h (ρ ++ [p]) _ _ (List.prefix_append _ _) (Ext.new hp) (R.push hp r) (.loc (by rw [← R.len]; simp))
/-- a list is written -/
theorem fit_set {l : Nat} {a : Addr} {xs ds : List D} {ws vs : List V} {d : D} {x : V} (h : Fit K cA W σ0 (Rv K) ρ H (.ok d (μ.set l (.lst ds))) Q) (R : Rel K ρ μ H) (hl : μ[l]? = some (.lst xs)) (ha : ρ[l]? = some a) (hw : H a = some (.lst ws)) (r : Rvs K ρ H vs ds) (rx : Rv K ρ H x d) :
    Q x (upd H a (.lst vs)) := h ρ _ _ (List.prefix_refl _) (Ext.set hw) (R.write hl ha hw r) (rx.mono (List.prefix_refl _) (Ext.set hw))
theorem rv_lst {x : V} {l : Nat} {xs : List D} (R : Rel K ρ μ H) (r : Rv K ρ H x (.loc l)) (hl : μ[l]? = some (.lst xs)) : ∃ a vs, x = .ref a ∧ ρ[l]? = some a ∧ H a = some (.lst vs) ∧ Rvs K ρ H vs xs := by
  cases r with
  | loc ha =>
    obtain ⟨vs, h1, h2⟩ := R.at_ l _ _ hl ha
    exact ⟨_, vs, rfl, ha, h1, h2⟩
/-- what is read as a row of items -/
theorem seq_of {x : V} {d : D} {ds : List D} (R : Rel K ρ μ H) (r : Rv K ρ H x d) (h : seqM μ d = some ds) : ∃ a vs, x = .ref a ∧ Rvs K ρ H vs ds ∧ ((∃ l, d = .loc l ∧ ρ[l]? = some a ∧ SqL K H a vs) ∨ (d = .tup ds ∧ SqT K H a vs)) := by
  cases r with
  | tup ht hr =>
    simp only [seqM, Option.some.injEq] at h
    subst h
    exact ⟨_, _, rfl, hr, .inr ⟨rfl, ht⟩⟩
  | loc ha =>
    rename_i n a
    simp only [seqM] at h
    split at h
    · rename_i xs hl
      cases h
      obtain ⟨vs, h1, h2⟩ := R.at_ _ _ _ hl ha
      exact ⟨_, vs, rfl, h2, .inl ⟨_, rfl, ha, SqL.of h1⟩⟩
    · rename_i xs hl
      cases h
      obtain ⟨vs, h1, h2⟩ := R.at_ _ _ _ hl ha
      exact ⟨_, vs, rfl, h2, .inl ⟨_, rfl, ha, h1.sq⟩⟩
    · cases h
  | _ => simp [seqM] at h
theorem seq_any {x : V} {d : D} {ds : List D} (R : Rel K ρ μ H) (r : Rv K ρ H x d) (h : seqM μ d = some ds) : ∃ a vs, x = .ref a ∧ Rvs K ρ H vs ds ∧ (SqL K H a vs ∨ SqT K H a vs) := by
  obtain ⟨a, vs, e, r, q⟩ := seq_of R r h
  exact ⟨a, vs, e, r, q.elim (fun ⟨_, _, _, q⟩ => .inl q) fun ⟨_, q⟩ => .inr q⟩
theorem fit_okO {o : Option D} (h : Fit K cA W σ0 (Rv K) ρ H (okO o μ) Q) : ∃ d, o = some d ∧ Fit K cA W σ0 (Rv K) ρ H (.ok d μ) Q := by
  cases o with
  | none => exact (show False from h).elim
  | some d => exact ⟨d, rfl, h⟩
theorem fit_if {c : Prop} [Decidable c] {r : R D} (h : Fit K cA W σ0 (Rv K) ρ H (if c then r else .stuck) Q) : c ∧ Fit K cA W σ0 (Rv K) ρ H r Q := by
  by_cases hc : c
  · rw [if_pos hc] at h; exact ⟨hc, h⟩
  · rw [if_neg hc] at h; exact (show False from h).elim
end

section
variable {X : Cx} {cA : CA} {W : WX}
theorem bop_ok (op : Bop) : OpR X (binaryOp (bopP op)) (rD2 X.K cA W (bopD op)) := by
  intro pins s σ H x y v u Q I rx ry h
  obtain ⟨σ0, ρ, μ, dx, dy, R, hx, hy, h⟩ := h
  have stuck : ∀ {P : Prop}, Fit X.K cA W σ0 (Rv X.K) ρ H (Mn.R.stuck (α := D)) Q → P := fun z => (show False from z).elim
  cases op <;> cases dx <;> (try exact stuck h) <;> cases dy <;> (try exact stuck h)
  -- add int int
  · cases hx; cases hy
    exact op_add pins s σ H _ _ v u Q I rx ry ⟨_, _, rfl, rfl, fit_now h R (.int _)⟩
  · cases hx; cases hy
    obtain ⟨c, h⟩ := fit_if h
    exact op_add_str pins s σ H _ _ v u Q I rx ry ⟨_, _, rfl, rfl, Nat.le_trans c lim_line, fit_now h R (.str _)⟩
  · obtain ⟨c, h⟩ := fit_if h
    rename_i xs ys
    cases hx with
    | tup h1 h2 =>
      cases hy with
      | tup h3 h4 =>
        refine op_catA pins s σ H _ _ v u Q I rx ry ⟨_, _, _, _, rfl, rfl, h1, h3, by rw [h2.length, h4.length]; exact Nat.le_trans c lim_line, fun e => ?_, fun _ e => ?_, fun _ _ => fit_tup h R (h2.append h4)⟩
        · subst e
          cases h2
          exact fit_now h R (.tup h3 h4)
        · subst e
          cases h4
          rw [List.append_nil] at h
          exact fit_now h R (.tup h1 h2)
  · rename_i l m
    simp only [bopD] at h
    split at h
    · rename_i a b e1 e2
      obtain ⟨c, h⟩ := fit_if h
      obtain ⟨p, vs, rfl, _, h1, r1⟩ := rv_lst R hx e1
      obtain ⟨q, ws, rfl, _, h2, r2⟩ := rv_lst R hy e2
      exact op_cat pins s σ H _ _ v u Q I rx ry ⟨_, _, _, _, rfl, rfl, h1, h2, by rw [r1.length, r2.length]; exact Nat.le_trans c lim_line, fit_lst h R (r1.append r2)⟩
    · exact stuck h
  -- sub
  · cases hx; cases hy
    exact op_sub pins s σ H _ _ v u Q I rx ry ⟨_, _, rfl, rfl, fit_now h R (.int _)⟩
  -- mul
  · cases hx; cases hy
    obtain ⟨c, h⟩ := fit_if h
    have q := fit_now h R (.int _)
    rcases c with c | c
    · exact op_mul pins s σ H _ _ v u Q I rx ry ⟨_, _, rfl, rfl, by
        rcases c with c | c
        · exact .inl (by omega)
        · exact .inr (by omega), q⟩
    · exact op_mulW pins s σ H _ _ v u Q I rx ry ⟨_, _, rfl, rfl, c, q⟩
  · simp only [bopD] at h
    split at h
    · rename_i a e1
      obtain ⟨c, h⟩ := fit_if h
      obtain ⟨p, vs, rfl, _, h1, r1⟩ := rv_lst R hx e1
      cases hy
      refine op_rep pins s σ H _ _ v u Q I rx ry ⟨_, _, _, rfl, rfl, h1, by omega, by omega, by rw [r1.length]; exact Nat.le_trans c.2.2 lim_line, fit_lst h R ?_⟩
      have rep : ∀ n : Nat, Rvs X.K ρ H (List.replicate n vs).flatten (List.replicate n a).flatten := fun n => by
        induction n with
        | zero => exact .nil
        | succ n ih => rw [List.replicate_succ, List.replicate_succ, List.flatten_cons, List.flatten_cons]; exact r1.append ih
      exact rep _
    · exact stuck h
  -- fdiv
  · cases hx; cases hy
    obtain ⟨⟨c0, c⟩, h⟩ := fit_if h
    have q := fit_now h R (.int _)
    rcases c with c | c
    · exact op_fdiv pins s σ H _ _ v u Q I rx ry ⟨_, _, rfl, rfl, ⟨c0, c⟩, q⟩
    · exact op_fdivW pins s σ H _ _ v u Q I rx ry ⟨_, _, rfl, rfl, ⟨c0, c⟩, q⟩
  -- mod
  · cases hx; cases hy
    obtain ⟨c0, h⟩ := fit_if h
    exact op_mod pins s σ H _ _ v u Q I rx ry ⟨_, _, rfl, rfl, c0, fit_now h R (.int _)⟩
  -- pow
  · cases hx; cases hy
    obtain ⟨c0, h⟩ := fit_if h
    exact op_pow pins s σ H _ _ v u Q I rx ry ⟨_, _, rfl, rfl, ⟨c0.1, c0.2.1, by omega⟩, fit_now h R (.int _)⟩

section
variable {K : PySem.W.Frag} {ρ : List Addr} {μ : Mem} {H : Hp}
mutual
theorem Rv.dp : ∀ {v : V} {d : D}, Rv K ρ H v d → d.pure = true → Dp K H v d.py
  | _, _, .non, _ => .non
  | _, _, .bl b, _ => .bl b
  | _, _, .int i, _ => .int i
  | _, _, .str s, _ => .str s
  | _, _, .tup h r, q => .tup h (Rvs.dp r (by simpa [D.pure] using q))
  | _, _, .loc h, q => by simp [D.pure] at q
theorem Rvs.dp : ∀ {vs : List V} {ds : List D}, Rvs K ρ H vs ds → D.pures ds = true → DpAll K H vs (D.pys ds)
  | _, _, .nil, _ => .nil
  | _, _, .cons h r, q => by
    rw [D.pures, Bool.and_eq_true] at q
    exact .cons (Rv.dp h q.1) (Rvs.dp r q.2)
end
theorem eqArg_of {v : V} {d : D} {e : PyData} (R : Rel K ρ μ H) (r : Rv K ρ H v d) (h : eqArg μ d = some e) : Dp K H v e := by
  have pu : ∀ {d : D}, Rv K ρ H v d → (if d.pure = true then some d.py else none) = some e → Dp K H v e := fun {d} r h => by
    by_cases c : d.pure = true
    · rw [if_pos c] at h; cases h; exact r.dp c
    · rw [if_neg c] at h; cases h
  cases d with
  | loc l =>
    simp only [eqArg] at h
    split at h
    · rename_i xs hl
      by_cases c : D.pures xs = true
      · rw [if_pos c] at h
        cases h
        obtain ⟨a, vs, rfl, ha, h1, h2⟩ := rv_lst R r hl
        exact .lst (SqL.of h1) (h2.dp c)
      · rw [if_neg c] at h; cases h
    · rename_i xs hl
      by_cases c : D.pures xs = true
      · rw [if_pos c] at h
        cases h
        cases r with
        | loc ha =>
          obtain ⟨vs, h1, h2⟩ := R.at_ l _ _ hl ha
          exact .lst h1.sq (h2.dp c)
      · rw [if_neg c] at h; cases h
    · cases h
  | _ => exact pu r h
theorem eqM_of {v w : V} {d e : D} {b : Bool} (R : Rel K ρ μ H) (r : Rv K ρ H v d) (r' : Rv K ρ H w e) (h : eqM d e μ = some b) : ∃ d' e', Dp K H v d' ∧ Dp K H w e' ∧ SeqAt.shaped d' = true ∧ SeqAt.shaped e' = true ∧ b = PyData.eqv d' e' := by
  unfold eqM at h
  split at h
  · rename_i d' e' h1 h2
    split at h
    · rename_i c
      cases h
      exact ⟨d', e', eqArg_of R r h1, eqArg_of R r' h2, c.1, c.2, rfl⟩
    · cases h
  · cases h
theorem fit_map {cA : CA} {W : WX} {σ0 : L2.St} {Q : V → Hp → Prop} {β : Type} {o : Option β} {g : β → D} (h : Fit K cA W σ0 (Rv K) ρ H (okO (o.map g) μ) Q) : ∃ b, o = some b ∧ Fit K cA W σ0 (Rv K) ρ H (.ok (g b) μ) Q := by
  cases o with
  | none => exact (show False from h).elim
  | some b => exact ⟨b, rfl, h⟩
end

theorem cop_ok (hu : X.A.units + 64 < cLine) (op : Cop) : OpR X (compareOp (copP op)) (rD2 X.K cA W (copD op)) := by
  intro pins s σ H x y v u Q I rx ry h
  obtain ⟨σ0, ρ, μ, dx, dy, R, hx, hy, h⟩ := h
  have stuck : ∀ {P : Prop}, Fit X.K cA W σ0 (Rv X.K) ρ H (Mn.R.stuck (α := D)) Q → P := fun z => (show False from z).elim
  have ii : ∀ (p : Int → Int → Bool) (i j : Int), Rv X.K ρ H x (.int i) → Rv X.K ρ H y (.int j) → Fit X.K cA W σ0 (Rv X.K) ρ H (.ok (.bl (p i j)) μ) Q → (∃ i j, x = .int i ∧ y = .int j ∧ Q (.bl (p i j)) H) := fun p i j h1 h2 h => by
    cases h1; cases h2
    exact ⟨i, j, rfl, rfl, fit_now h R (.bl _)⟩
  cases op
  · -- eq
    obtain ⟨b, e, h⟩ := fit_map (by simpa only [copD] using h)
    obtain ⟨d', e', h1, h2, s1, s2, rfl⟩ := eqM_of R hx hy e
    exact op_eqD hu pins s σ H _ _ v u Q I rx ry ⟨d', e', h1, h2, s1, s2, fit_now h R (.bl _)⟩
  · obtain ⟨b, e, h⟩ := fit_map (by simpa only [copD] using h)
    obtain ⟨d', e', h1, h2, s1, s2, rfl⟩ := eqM_of R hx hy e
    exact op_neD hu pins s σ H _ _ v u Q I rx ry ⟨d', e', h1, h2, s1, s2, fit_now h R (.bl _)⟩
  · cases dx <;> (try exact stuck h) <;> cases dy <;> (try exact stuck h)
    exact op_lt pins s σ H _ _ v u Q I rx ry (ii _ _ _ hx hy h)
  · cases dx <;> (try exact stuck h) <;> cases dy <;> (try exact stuck h)
    exact op_le pins s σ H _ _ v u Q I rx ry (ii _ _ _ hx hy h)
  · cases dx <;> (try exact stuck h) <;> cases dy <;> (try exact stuck h)
    exact op_gt pins s σ H _ _ v u Q I rx ry (ii _ _ _ hx hy h)
  · cases dx <;> (try exact stuck h) <;> cases dy <;> (try exact stuck h)
    exact op_ge pins s σ H _ _ v u Q I rx ry (ii _ _ _ hx hy h)
  · -- is
    have nn : ∀ d, Rv X.K ρ H x d → Fit X.K cA W σ0 (Rv X.K) ρ H (.ok (.bl (match d with | .non => true | _ => false)) μ) Q → Rv X.K ρ H y .non → y = .non ∧ Q (.bl (decide (x = .non))) H := fun d h1 h h2 => by
      cases h2
      cases h1 <;> exact ⟨rfl, fit_now h R (.bl _)⟩
    cases dy <;> (try (cases dx <;> exact stuck h))
    · refine op_isN pins s σ H _ _ v u Q I rx ry ?_
      exact nn dx hx (by cases dx <;> exact h) hy
    · cases dx <;> (try exact stuck h)
      cases hx; cases hy
      exact op_is_bl pins s σ H _ _ v u Q I rx ry ⟨_, _, rfl, rfl, fit_now h R (.bl _)⟩
  · have nn : ∀ d, Rv X.K ρ H x d → Fit X.K cA W σ0 (Rv X.K) ρ H (.ok (.bl (match d with | .non => false | _ => true)) μ) Q → Rv X.K ρ H y .non → y = .non ∧ Q (.bl (!decide (x = .non))) H := fun d h1 h h2 => by
      cases h2
      cases h1 <;> exact ⟨rfl, fit_now h R (.bl _)⟩
    cases dy <;> (try (cases dx <;> exact stuck h))
    · refine op_notN pins s σ H _ _ v u Q I rx ry ?_
      exact nn dx hx (by cases dx <;> exact h) hy
    · cases dx <;> (try exact stuck h)
      cases hx; cases hy
      exact op_isnot_bl pins s σ H _ _ v u Q I rx ry ⟨_, _, rfl, rfl, fit_now h R (.bl _)⟩
  · exact stuck (by cases dx <;> cases dy <;> exact h)
  · exact stuck (by cases dx <;> cases dy <;> exact h)

/-- truth -/
theorem tru_of {ρ : List Addr} {μ : Mem} {H : Hp} {x : V} {d : D} {k : Bool} {K : PySem.W.Frag} (R : Rel K ρ μ H) (r : Rv K ρ H x d) (h : truM μ d = some k) : TruV K x H k := by
  cases d with
  | non => cases r; simp only [truM] at h; cases h; rfl
  | bl b => cases r; simp only [truM] at h; cases h; rfl
  | int i => cases r; simp only [truM] at h; cases h; rfl
  | str z =>
    cases r; simp only [truM] at h
    split at h
    · rename_i c; cases h; exact ⟨Nat.le_trans c lim_line, rfl⟩
    · cases h
  | tup xs =>
    cases r with
    | tup h1 h2 =>
      simp only [truM] at h; cases h
      exact .inr (.inl ⟨_, h1, by cases h2 <;> rfl⟩)
  | loc l =>
    simp only [truM] at h
    obtain ⟨xs, h1, rfl⟩ := Option.map_eq_some_iff.mp h
    obtain ⟨a, vs, rfl, r2, q⟩ := seq_of R r h1
    rcases q with ⟨l', _, _, q⟩ | ⟨q, _⟩
    · exact .inl ⟨vs, q, by cases r2 <;> rfl⟩
    · cases q

/-- isinstance with a built-in class -/
def tyP : Ty → String
  | .int => "int" | .bool => "bool" | .str => "str" | .tuple => "tuple" | .list => "list" | .dict => "dict"
theorem isTy_of {ρ : List Addr} {μ : Mem} {H : Hp} {x : V} {d : D} {t : Ty} {b : Bool} {K : PySem.W.Frag} (R : Rel K ρ μ H) (r : Rv K ρ H x d) (h : isTy μ d t = some b) : ∃ u, TyX K H x u ∧ PySem.W.kitOne K u (.type (tyP t)) = some b := by
  have tu : ∀ {a : Addr} {vs : List V}, SqT K H a vs → TyX K H (.ref a) (.type "tuple") := fun {a vs} h => by
    rcases h with (h | ⟨o, h⟩) | ⟨o, its, n, h1, h2, _⟩
    · exact .base (.tup h)
    · exact .fTuple h
    · exact .kTuple h1 h2
  have li : ∀ {a : Addr} {vs : List V}, SqL K H a vs → TyX K H (.ref a) (.type "list") := fun {a vs} h => by
    rcases h with (h | ⟨o, h⟩) | ⟨o, its, n, h1, h2, _⟩
    · exact .base (.lst h)
    · exact .base (.frz h)
    · exact .kList h1 h2
  cases r with
  | non => refine ⟨_, .base .non, kit_ty ?_⟩; cases t <;> (simp only [isTy] at h; cases h; decide +kernel)
  | bl y => refine ⟨_, .base (.bl y), kit_ty ?_⟩; cases t <;> (simp only [isTy] at h; cases h; decide +kernel)
  | int y => refine ⟨_, .base (.int y), kit_ty ?_⟩; cases t <;> (simp only [isTy] at h; cases h; decide +kernel)
  | str y => refine ⟨_, .base (.str y), kit_ty ?_⟩; cases t <;> (simp only [isTy] at h; cases h; decide +kernel)
  | tup h1 h2 => refine ⟨_, tu h1, kit_ty ?_⟩; cases t <;> (simp only [isTy] at h; cases h; decide +kernel)
  | loc ha =>
    simp only [isTy] at h
    split at h
    · rename_i xs hl
      obtain ⟨vs, h1, _⟩ := R.at_ _ _ _ hl ha
      refine ⟨_, li (SqL.of h1), kit_ty ?_⟩
      cases t <;> (cases h; decide +kernel)
    · rename_i xs hl
      obtain ⟨vs, h1, _⟩ := R.at_ _ _ _ hl ha
      refine ⟨_, li h1.sq, kit_ty ?_⟩
      cases t <;> (cases h; decide +kernel)
    · cases h
end
end Mn

/-! # Mini, fourth part: built-in functions, methods, subscripts -/
namespace Mn
open PySem PySem.Spec PyProof.Rows L2

def biN : Bi → String
  | .len => "len" | .tuple => "tuple" | .list => "list" | .int => "int" | .str => "str" | .sum => "sum" | .abs => "abs" | .min2 => "min" | .max2 => "max" | .sorted => "sorted" | .bool => "bool"
def biV : Bi → Value
  | .len => .builtin "len" | .tuple => .type "tuple" | .list => .type "list" | .int => .type "int" | .str => .type "str" | .sum => .builtin "sum" | .abs => .builtin "abs" | .min2 => .builtin "min" | .max2 => .builtin "max" | .sorted => .builtin "sorted" | .bool => .type "bool"
theorem bi_boot (b : Bi) : bootBuiltins (biN b) = some (biV b) := by cases b <;> decide +kernel
def rDs (K : PySem.W.Frag) (cA : CA) (W : WX) (f : List D → Mem → R D) : List V → Hp → VK → Prop := fun xs H Q => ∃ σ0 ρ μ ds, Rel K ρ μ H ∧ Rvs K ρ H xs ds ∧ Fit K cA W σ0 (Rv K) ρ H (f ds μ) Q
def rDm (K : PySem.W.Frag) (cA : CA) (W : WX) (f : D → List D → Mem → R D) : V → List V → Hp → VK → Prop := fun x xs H Q => ∃ σ0 ρ μ d ds, Rel K ρ μ H ∧ Rv K ρ H x d ∧ Rvs K ρ H xs ds ∧ Fit K cA W σ0 (Rv K) ρ H (f d ds μ) Q
section
variable {X : Cx} {cA : CA} {W : WX}

theorem bi_ok (hc : X.calm = true) (b : Bi) : CallR X (biV b) (rDs X.K cA W (biD b)) := by
  intro pins s σ H xs us Q I r h
  obtain ⟨σ0, ρ, μ, ds, R, hx, h⟩ := h
  have stuck : ∀ {P : Prop}, Fit X.K cA W σ0 (Rv X.K) ρ H (Mn.R.stuck (α := D)) Q → P := fun z => (show False from z).elim
  cases b
  · -- len
    cases hx with
    | nil => exact stuck h
    | cons r1 r2 =>
      rename_i v vs d ds
      cases r2 with
      | cons _ _ => exact stuck (by cases d <;> exact h)
      | nil =>
        refine call_len pins s σ H _ us Q I r ?_
        cases d
        case str z =>
          obtain ⟨c, h⟩ := fit_if (by simpa only [biD] using h)
          cases r1
          exact ⟨_, _, rfl, ⟨Nat.le_trans c lim_line, rfl⟩, fit_now h R (.int _)⟩
        all_goals
          obtain ⟨ys, e, h⟩ := fit_map (by simpa only [biD] using h)
          obtain ⟨a, ws, rfl, r3, q⟩ := seq_any R r1 e
          refine ⟨_, ys.length, rfl, ?_, fit_now h R (.int _)⟩
          rcases q with q | q
          · exact .inl ⟨ws, q, r3.length.symm⟩
          · exact .inr ⟨ws, q, r3.length.symm⟩
  · -- tuple
    cases hx with
    | nil => exact stuck h
    | cons r1 r2 =>
      rename_i v vs d ds
      cases r2 with
      | cons _ _ => exact stuck h
      | nil =>
        obtain ⟨ys, e, h'⟩ := fit_map (by simpa only [biD] using h)
        obtain ⟨a, ws, rfl, r3, q⟩ := seq_of R r1 e
        refine call_tuple_of pins s σ H _ us Q I r ⟨a, ws, rfl, ?_⟩
        rcases q with ⟨l, _, _, q⟩ | ⟨_, q⟩
        · exact .inl ⟨q, fit_tup h' R r3⟩
        · exact .inr ⟨q, fit_now h' R (.tup q r3)⟩
  · -- list
    cases hx with
    | nil => exact stuck h
    | cons r1 r2 =>
      rename_i v vs d ds
      cases r2 with
      | cons _ _ => exact stuck h
      | nil =>
        simp only [biD] at h
        split at h
        · rename_i ys e
          obtain ⟨a, ws, rfl, r3, q⟩ := seq_any R r1 e
          exact call_list_of pins s σ H _ us Q I r ⟨a, ws, rfl, q, fit_lst h R r3⟩
        · exact stuck h
  · -- int
    cases hx with
    | nil => exact stuck h
    | cons r1 r2 =>
      rename_i v vs d ds
      cases r2 with
      | cons _ _ => exact stuck (by cases d <;> exact h)
      | nil =>
        cases d <;> (try exact stuck h)
        · cases r1
          exact call_int1 pins s σ H _ us Q I r (.inr ⟨_, rfl, fit_now h R (.int _)⟩)
        · cases r1
          exact call_int1 pins s σ H _ us Q I r (.inl ⟨_, rfl, fit_now h R (.int _)⟩)
  · exact stuck (by cases ds <;> exact h)
  · -- sum
    cases hx with
    | nil => exact stuck h
    | cons r1 r2 =>
      rename_i v vs d ds
      cases r2 with
      | cons _ _ => exact stuck (by cases d <;> exact h)
      | nil =>
        cases d <;> (try exact stuck h)
        rename_i l
        obtain ⟨ns, e, h⟩ := fit_map (by simpa only [biD] using h)
        obtain ⟨ys, e1, e2⟩ := Option.bind_eq_some_iff.mp e
        obtain ⟨a, ws, rfl, r3, q⟩ := seq_of R r1 e1
        rcases q with ⟨_, _, _, q⟩ | ⟨q, _⟩
        · have e3 := r3.ints e2
          subst e3
          exact cr_sum hc pins s σ H _ us Q I r ⟨a, ns, rfl, q, fit_now h R (.int _)⟩
        · cases q
  · -- abs
    cases hx with
    | nil => exact stuck h
    | cons r1 r2 =>
      rename_i v vs d ds
      cases r2 with
      | cons _ _ => exact stuck (by cases d <;> exact h)
      | nil =>
        cases d <;> (try exact stuck h)
        cases r1
        exact call_abs pins s σ H _ us Q I r ⟨_, rfl, fit_now h R (.int _)⟩
  · cases hx with
    | nil => exact stuck h
    | cons r1 r2 =>
      rename_i v vs d ds
      cases r2 with
      | nil => exact stuck (by cases d <;> exact h)
      | cons r2 r3 =>
        rename_i v2 vs2 d2 ds2
        cases r3 with
        | cons _ _ => exact stuck (by cases d <;> cases d2 <;> exact h)
        | nil =>
          cases d <;> (try exact stuck h) <;> cases d2 <;> (try exact stuck h)
          cases r1; cases r2
          exact call_min2 hc pins s σ H _ us Q I r ⟨_, _, rfl, fit_now h R (.int _)⟩
  · cases hx with
    | nil => exact stuck h
    | cons r1 r2 =>
      rename_i v vs d ds
      cases r2 with
      | nil => exact stuck (by cases d <;> exact h)
      | cons r2 r3 =>
        rename_i v2 vs2 d2 ds2
        cases r3 with
        | cons _ _ => exact stuck (by cases d <;> cases d2 <;> exact h)
        | nil =>
          cases d <;> (try exact stuck h) <;> cases d2 <;> (try exact stuck h)
          cases r1; cases r2
          exact call_max2 hc pins s σ H _ us Q I r ⟨_, _, rfl, fit_now h R (.int _)⟩
  · exact stuck (by cases ds <;> exact h)
  · -- bool
    cases hx with
    | nil => exact stuck h
    | cons r1 r2 =>
      rename_i v vs d ds
      cases r2 with
      | cons _ _ => exact stuck (by cases d <;> exact h)
      | nil =>
        cases d <;> (try exact stuck h)
        · cases r1
          exact call_bool1 pins s σ H _ us Q I r (.inr ⟨_, rfl, fit_now h R (.bl _)⟩)
        · cases r1
          exact call_bool1 pins s σ H _ us Q I r (.inl ⟨_, rfl, fit_now h R (.bl _)⟩)

/-! ### methods -/
def mtT : Mt → String
  | .append | .extend | .pop => "list"
  | .get1 | .get2 => "dict"
def mtN : Mt → Str
  | .append => "append" | .extend => "extend" | .pop => "pop" | .get1 | .get2 => "get"
def mtI : Mt → String
  | .append => "list.append" | .extend => "list.extend" | .pop => "list.pop" | .get1 | .get2 => "dict.get"
theorem append_ok : MtR X "list.append" (rDm X.K cA W (mtD .append)) := by
  intro pins s σ H x xs v us Q I rx rs h
  obtain ⟨σ0, ρ, μ, d, ds, R, hx, hs, h⟩ := h
  have stuck : ∀ {P : Prop}, Fit X.K cA W σ0 (Rv X.K) ρ H (Mn.R.stuck (α := D)) Q → P := fun z => (show False from z).elim
  obtain ⟨l0, rfl⟩ : ∃ l, d = .loc l := by cases d <;> first | exact ⟨_, rfl⟩ | exact stuck (by cases ds <;> exact h)
  cases hs with
  | nil => exact stuck h
  | cons r1 r2 =>
    cases r2 with
    | cons _ _ => exact stuck h
    | nil =>
      simp only [mtD] at h
      split at h
      · rename_i ys e
        obtain ⟨c, h⟩ := fit_if h
        obtain ⟨a, ws, rfl, ha, h1, h2⟩ := rv_lst R hx e
        exact mt_append pins s σ H _ _ v us Q I rx rs ⟨a, ws, _, rfl, rfl, h1, by rw [h2.length]; exact Nat.lt_of_lt_of_le c lim_line, fit_set h R e ha h1 (h2.append (.cons r1 .nil)) .non⟩
      · exact stuck h
theorem extend_ok : MtR X "list.extend" (rDm X.K cA W (mtD .extend)) := by
  intro pins s σ H x xs v us Q I rx rs h
  obtain ⟨σ0, ρ, μ, d, ds, R, hx, hs, h⟩ := h
  have stuck : ∀ {P : Prop}, Fit X.K cA W σ0 (Rv X.K) ρ H (Mn.R.stuck (α := D)) Q → P := fun z => (show False from z).elim
  obtain ⟨l0, rfl⟩ : ∃ l, d = .loc l := by cases d <;> first | exact ⟨_, rfl⟩ | exact stuck (by cases ds <;> exact h)
  cases hs with
  | nil => exact stuck h
  | cons r1 r2 =>
    rename_i dm _
    cases r2 with
    | cons _ _ => exact stuck (by cases dm <;> exact h)
    | nil =>
      cases dm <;> (try exact stuck h)
      simp only [mtD] at h
      split at h
      · rename_i ys zs e e2
        obtain ⟨c, h⟩ := fit_if h
        obtain ⟨a, ws, rfl, ha, h1, h2⟩ := rv_lst R hx e
        obtain ⟨b, us2, rfl, hb, h3, h4⟩ := rv_lst R r1 e2
        exact mt_extend pins s σ H _ _ v us Q I rx rs ⟨a, b, ws, us2, rfl, rfl, h1, h3, by rw [h2.length, h4.length]; exact Nat.le_trans c lim_line, fit_set h R e ha h1 (h2.append h4) .non⟩
      · exact stuck h
theorem pop_ok : MtR X "list.pop" (rDm X.K cA W (mtD .pop)) := by
  intro pins s σ H x xs v us Q I rx rs h
  obtain ⟨σ0, ρ, μ, d, ds, R, hx, hs, h⟩ := h
  have stuck : ∀ {P : Prop}, Fit X.K cA W σ0 (Rv X.K) ρ H (Mn.R.stuck (α := D)) Q → P := fun z => (show False from z).elim
  obtain ⟨l0, rfl⟩ : ∃ l, d = .loc l := by cases d <;> first | exact ⟨_, rfl⟩ | exact stuck (by cases ds <;> exact h)
  cases hs with
  | cons _ _ => exact stuck h
  | nil =>
    simp only [mtD] at h
    split at h
    · rename_i ys e
      split at h
      · rename_i y ey
        obtain ⟨a, ws, rfl, ha, h1, h2⟩ := rv_lst R hx e
        obtain ⟨w, hw, rw'⟩ := h2.get ey
        exact mt_pop pins s σ H _ _ v us Q I rx rs ⟨a, ws, w, rfl, rfl, h1, by rw [h2.length]; exact hw, fit_set h R e ha h1 h2.dropLast rw'⟩
      · exact stuck h
    · exact stuck h

/-! ### subscripts -/
theorem atD_atI {K : PySem.W.Frag} {ρ : List Addr} {H : Hp} {vs : List V} {ds : List D} {i : Int} {d : D} (r : Rvs K ρ H vs ds) (h : atD ds i = some d) : ∃ v, atI vs i = some v ∧ Rv K ρ H v d := by
  have hl := r.length
  unfold atD at h
  by_cases h0 : 0 ≤ i
  · rw [if_pos h0] at h
    obtain ⟨v, hv, rv⟩ := r.get h
    refine ⟨v, ?_, rv⟩
    have : (i.toNat : Int) = i := Int.toNat_of_nonneg h0
    rw [← this]
    exact atI_nat hv
  · rw [if_neg h0] at h
    by_cases h1 : -(ds.length : Int) ≤ i
    · rw [if_pos h1] at h
      obtain ⟨v, hv, rv⟩ := r.get h
      refine ⟨v, ?_, rv⟩
      unfold atI ixN
      rw [if_neg h0, if_pos (by rw [hl]; exact h1), hl]
      exact hv
    · rw [if_neg h1] at h; cases h
theorem ix_ok : IxR X (rD2 X.K cA W ixD) := by
  intro value slice pins s σ H x y v u Q I rx ry h hs
  obtain ⟨σ0, ρ, μ, dx, dy, R, hx, hy, h⟩ := h
  have stuck : ∀ {P : Prop}, Fit X.K cA W σ0 (Rv X.K) ρ H (Mn.R.stuck (α := D)) Q → P := fun z => (show False from z).elim
  unfold ixD at h
  split at h
  · rename_i xs k e
    obtain ⟨d, e2, h⟩ := fit_okO (o := atD xs k) (by cases q : atD xs k <;> (rw [q] at h; exact h))
    cases hy
    obtain ⟨a, ws, rfl, r3, q⟩ := seq_any R hx e
    obtain ⟨w, hw, rw'⟩ := atD_atI r3 e2
    refine ix_seq value slice pins s σ H _ _ v u Q I rx ry ?_ hs
    rcases q with q | q
    · exact .inl ⟨a, ws, _, w, rfl, rfl, q, hw, fit_now h R rw'⟩
    · exact .inr (.inl ⟨a, ws, _, w, rfl, rfl, q, hw, fit_now h R rw'⟩)
  · exact stuck h
theorem cutIx_eq (n d : Nat) (o : Option Int) : cutIx n d o = HT.sIx n d o := by cases o <;> rfl
theorem cut_rvs {K : PySem.W.Frag} {ρ : List Addr} {H : Hp} {vs : List V} {ds : List D} (r : Rvs K ρ H vs ds) (lo hi : Option Int) : Rvs K ρ H (cutV vs lo hi) (cutD ds lo hi) := by
  unfold cutV cutD
  rw [cutIx_eq, cutIx_eq, r.length]
  exact (r.drop _).take _
def rSlD (K : PySem.W.Frag) (cA : CA) (W : WX) : V → Option Int → Option Int → Hp → VK → Prop := fun x l h H Q => ∃ σ0 ρ μ d, Rel K ρ μ H ∧ Rv K ρ H x d ∧ Fit K cA W σ0 (Rv K) ρ H (sliceD d l h μ) Q
theorem sl_ok : SlR X (rSlD X.K cA W) := by
  intro pins s σ H x v vl vu lo hi sl Q I rx hs pl pu h
  obtain ⟨σ0, ρ, μ, d, R, hx, h⟩ := h
  have stuck : ∀ {P : Prop}, Fit X.K cA W σ0 (Rv X.K) ρ H (Mn.R.stuck (α := D)) Q → P := fun z => (show False from z).elim
  cases d <;> (try exact stuck h)
  · cases hx with
    | tup h1 h2 =>
      refine sl_tupA pins s σ H _ v vl vu lo hi sl Q I rx hs pl pu ⟨_, _, rfl, h1, fun e => ?_, fun _ => fit_tup h R (cut_rvs h2 lo hi)⟩
      refine fit_now h R (.tup h1 ?_)
      have c := cut_rvs h2 lo hi
      have e2 : cutV _ lo hi = _ := show (List.take _ (List.drop _ _)) = _ by rw [e.1, e.2, List.drop_zero, Nat.sub_zero, List.take_length]
      rw [e2] at c
      exact c
  · simp only [sliceD] at h
    split at h
    · rename_i xs e
      obtain ⟨a, ws, rfl, r3, q⟩ := seq_of R hx e
      rcases q with ⟨l, _, _, q⟩ | ⟨q, _⟩
      · exact sl_list pins s σ H _ v vl vu lo hi sl Q I rx hs pl pu ⟨a, ws, rfl, q, fit_lst h R (cut_rvs r3 lo hi)⟩
      · cases q
    · exact stuck h
end
end Mn

/-! # Mini, fifth part: when a text's expression is a mini expression -/
namespace Mn
open PySem PySem.Spec PyProof.Rows L2

/-- what is said of the whole text: the defs, the whole numbers of the module, the names that are still built-in ones, the classes of errors, the fields of errors -/
structure Stat where
  T : Nat → Option MDef
  gi : List (Str × Int)
  bl : List Str
  cN : List Str
  fl : List Str
  cW : List Str
  cF : List (List Str)
/-- an error made of its class and arguments -/
def mkX (S : Stat) (c : Nat) (ds : List D) : Option Exn := match S.cF[c]?, S.cW[c]? with
  | some fs, some w => if ds.length = fs.length then some ⟨c, fs.zip ds ++ [(("word" : Str), D.str w)]⟩ else none
  | _, _ => none

def glB (sc : Scope) (x : Str) : Bool := match sc.names.lookup x with
  | some .globalImplicit => true
  | _ => false
def visB (sc : Scope) (x : Str) : Bool := match sc.names.lookup x with
  | some .local => true
  | some .cell => true
  | some .free => true
  | _ => false
def locB (sc : Scope) (x : Str) : Bool := match sc.names.lookup x with
  | some .local => true
  | some .cell => true
  | _ => false
def slotB (N : List Str) (sc : Scope) (i : Nat) (x : Str) : Bool := decide (N[i]? = some x) && (visB sc x && (!(x == ("__debug__" : Str)) && !(x == ("__classdict__" : Str))))
def bltB (S : Stat) (sc : Scope) (x : Str) : Bool := glB sc x && S.bl.contains x
def baseB : Expr → Bool
  | .Call _ [] _ _ => false
  | _ => true
def notSlice : Expr → Bool
  | .Slice .. => false
  | _ => true
def opB : Bop → Operator → Bool
  | .add, .Add | .sub, .Sub | .mul, .Mult | .fdiv, .FloorDiv | .mod, .Mod | .pow, .Pow => true
  | _, _ => false
def cpB : Cop → CmpOp → Bool
  | .eq, .Eq | .ne, .NotEq | .lt, .Lt | .le, .LtE | .gt, .Gt | .ge, .GtE | .is, .Is | .isNot, .IsNot => true
  | _, _ => false
def ownP (N : List Str) (own : List Nat) : List (Str × Nat) := own.map fun i => (N.getD i "", i)
def xcB (S : Stat) (sc : Scope) : XC → Str → Bool
  | .own c, x => decide (S.cN[c]? = some x) && (glB sc x && !(x == ("__debug__" : Str)))
  | .ve, x => x == ("ValueError" : Str) && bltB S sc x
def Tgt.slots : Tgt → List Nat
  | .slot i => [i]
  | .nil => []
  | .cons a r => a.slots ++ r.slots
mutual
/-- targets: plain local names, in tuples; st: the names that may be stored; sj: a slot that stays -/
def agTg (N : List Str) (sc : Str → Bool) (sj : Option Nat) (cm : Bool) : Tgt → Expr → Bool
  | .slot i, .Name x _ => decide (N[i]? = some x) && (sc x && !decide (sj = some i))
  | .nil, .Tuple [] _ _ => cm
  | .cons a r, .Tuple (e :: es) _ _ => cm && (agTg N sc sj cm a e && agTgs N sc sj cm r es)
  | _, _ => false
def agTgs (N : List Str) (sc : Str → Bool) (sj : Option Nat) (cm : Bool) : Tgt → List Expr → Bool
  | .nil, [] => true
  | .cons a r, e :: es => agTg N sc sj cm a e && agTgs N sc sj cm r es
  | _, _ => false
end

/-- how many arguments; none: a method that is not served -/
def mtAr : Mt → Option Nat
  | .append => some 1
  | .extend => some 1
  | .pop => some 0
  | _ => none
section
variable (S : Stat) (N : List Str) (sj : Option Nat)
mutual
def agE : Bool → Scope → ME → Expr → Bool
  | cm, sc, .var i, .Name x _ => slotB N sc i x && !decide (sj = some i)
  | cm, sc, .non, .Constant .none _ _ => true
  | cm, sc, .bl b, .Constant (.bool c) _ _ => b == c
  | cm, sc, .int i, .Constant (.int j) _ _ => decide (i = j)
  | cm, sc, .str s, .Constant (.str t) _ _ => s == t
  | cm, sc, .gint x i, .Name y _ => x == y && (glB sc x && (!(x == ("__debug__" : Str)) && S.gi.contains (x, i)))
  | cm, sc, .bop op a b, .BinOp l o r _ => opB op o && (agE cm sc a l && agE cm sc b r)
  | cm, sc, .neg a, .UnaryOp .USub x _ => agE cm sc a x
  | cm, sc, .not a, .UnaryOp .Not x _ => agE cm sc a x
  | cm, sc, .cmp op a b, .Compare l [o] [r] _ => cpB op o && (agE cm sc a l && agE cm sc b r)
  | cm, sc, .cmp2 op op' a b c, .Compare l [o, o'] [r, r'] _ => cpB op o && (cpB op' o' && (agE cm sc a l && (agE cm sc b r && agE cm sc c r')))
  | cm, sc, .and a b, .BoolOp .And [x, y] _ => agE cm sc a x && agE cm sc b y
  | cm, sc, .and a b, .BoolOp .And (x :: y :: z :: r) p => agE cm sc a x && agE cm sc b (.BoolOp .And (y :: z :: r) p)
  | cm, sc, .or a b, .BoolOp .Or [x, y] _ => agE cm sc a x && agE cm sc b y
  | cm, sc, .or a b, .BoolOp .Or (x :: y :: z :: r) p => agE cm sc a x && agE cm sc b (.BoolOp .Or (y :: z :: r) p)
  | cm, sc, .ite t a b, .IfExp c x y _ => agE cm sc t c && (agE cm sc a x && agE cm sc b y)
  | cm, sc, .tup es, .Tuple xs _ _ => agEs cm sc es xs
  | cm, sc, .lst es, .List xs _ => agEs cm sc es xs
  | cm, sc, .ix a i, .Subscript x y _ => notSlice y && (agE cm sc a x && agE cm sc i y)
  | cm, sc, .slice a lo hi, .Subscript x (.Slice l h none _) _ => agE cm sc a x && (agO cm sc lo l && agO cm sc hi h)
  | cm, sc, .call f es, .Call (.Name x _) xs [] _ => cm && (glB sc x && (!(x == ("__debug__" : Str)) && ((match S.T f with
    | some d => d.name == x
    | none => false) && (!xs.isEmpty && agEs cm sc es xs))))
  | cm, sc, .bi b es, .Call (.Name x _) xs [] _ => cm && (x == (biN b : Str) && (bltB S sc x && (!xs.isEmpty && agEs cm sc es xs)))
  | cm, sc, .meth m o es, .Call (.Attribute y f ap) xs [] cp => f == mtN m && (baseB y && (decide (mtAr m = some xs.length) && ((ap.endLine == cp.line) && (agE cm sc o y && agEs cm sc es xs))))
  | cm, sc, .isin a t, .Call (.Name x _) [y, .Name tn _] [] _ => x == ("isinstance" : Str) && (bltB S sc x && (tn == (tyP t : Str) && (bltB S sc tn && agE cm sc a y)))
  | cm, sc, .lc elt tg it tests own, .ListComp e [c] s _ => cm && (decide (c.is_async = 0) && (agI cm sc it c.target c.iter && (blkC N sc s (ownP N own) && (agTg N (locB s) none true tg c.target && ((tg.slots.all fun i => own.contains i) && (agTs cm (relS s sc) tests c.ifs && agE cm (relS s sc) elt e))))))
  | cm, sc, .xfld f, .Attribute (.Name n _) g _ => f == g && (S.fl.contains f && (match sj with
    | some j => slotB N sc j n
    | none => false))
  | cm, sc, .xis c, .Call (.Name x _) [.Name n _, .Name cn _] [] _ => x == ("isinstance" : Str) && (bltB S sc x && (xcB S sc c cn && (match sj with
    | some j => slotB N sc j n
    | none => false)))
  | _, _, _, _ => false
def agEs : Bool → Scope → MEs → List Expr → Bool
  | cm, sc, .nil, [] => true
  | cm, sc, .cons e r, x :: xs => agE cm sc e x && agEs cm sc r xs
  | _, _, _, _ => false
def agO : Bool → Scope → MEs → Option Expr → Bool
  | cm, sc, .nil, none => true
  | cm, sc, .cons e .nil, some x => agE cm sc e x
  | _, _, _, _ => false
def agTs : Bool → Scope → MEs → List Expr → Bool
  | cm, sc, .nil, [] => true
  | cm, sc, .cons e .nil, [x] => agE cm sc e x
  | _, _, _, _ => false
def agI : Bool → Scope → MI → Expr → Expr → Bool
  | cm, sc, .seq e, _, x => agE cm sc e x
  | cm, sc, .rng1 a, _, .Call (.Name x _) [y] [] _ => x == ("range" : Str) && (bltB S sc x && agE cm sc a y)
  | cm, sc, .rng2 a b, _, .Call (.Name x _) [y, z] [] _ => x == ("range" : Str) && (bltB S sc x && (agE cm sc a y && agE cm sc b z))
  | cm, sc, .zip a b, .Tuple _ _ _, .Call (.Name x _) [y, z] [] _ => x == ("zip" : Str) && (bltB S sc x && (agE cm sc a y && agE cm sc b z))
  | _, _, _, _, _ => false
end
end

/-! ### the side conditions of the rules -/
section
variable {S : Stat} {N : List Str} {sj : Option Nat} {cm : Bool} {sc : Scope}
theorem ff {p : Prop} (h : false = true) : p := absurd h Bool.false_ne_true
theorem ag_star : ∀ {m : ME} {e : Expr}, agE S N sj cm sc m e = true → ∀ (es : List Expr) (env : Env), starEach (e :: es) env = (false, eval e env) :: starEach es env := fun {m e} h es env => by
  cases e <;> first | rfl | (cases m <;> exact ff h)
theorem ags_star : ∀ {ms : MEs} {es : List Expr}, agEs S N sj cm sc ms es = true → ∀ (pos : Pos) (env : Env), (backTo pos (starEach es env)).any (·.1) = false ∧ (backTo pos (starEach es env)).all (fun x => !x.1) = true
  | .nil, [], _, _, _ => ⟨rfl, rfl⟩
  | .cons m r, e :: es, h, pos, env => by
    rw [agEs, Bool.and_eq_true] at h
    rw [ag_star h.1]
    obtain ⟨h1, h2⟩ := ags_star h.2 pos env
    exact ⟨h1, h2⟩
  | .nil, _ :: _, h, _, _ => ff h
  | .cons _ _, [], h, _, _ => ff h
theorem ag_ix {m : ME} {e : Expr} (h : agE S N sj cm sc m e = true) (hs : notSlice e = true) : PlainIx e := by
  cases e <;> first | exact fun _ _ => rfl | exact ff hs
theorem ag_base {e : Expr} (h : baseB e = true) (f : Str) (env : Env) (w : Sem Value) : attributeBase e f env w = w := by
  cases e with
  | Call g as ks p =>
    cases as with
    | nil => exact ff h
    | cons _ _ => cases g <;> rfl
  | _ => rfl
theorem ag_set {m : ME} {e : Expr} (h : agE S N sj cm sc m e = true) (env : Env) (x : Value) : foldedSetIterable e env x = pure x := by
  cases e <;> first | rfl | (cases m <;> exact ff h)
/-- a test that is its value's truth -/
def plainT : Expr → Bool
  | .UnaryOp .Not _ _ | .BoolOp .. | .IfExp .. | .Compare .. => false
  | _ => true
theorem ag_test {e : Expr} (h : plainT e = true) (env : Env) (whole : Sem Value) : isTrue e env whole = (do let v ← whole; standAt e.pos; holding [v] (truthy v)) := by
  cases e with
  | UnaryOp op a p => cases op <;> first | rfl | exact ff h
  | BoolOp _ _ _ => exact ff h
  | IfExp _ _ _ _ => exact ff h
  | Compare _ _ _ _ => exact ff h
  | _ => rfl
end
end Mn

/-! # Mini, sixth part: a text's expression does what the mini expression does -/
namespace Mn
open PySem PySem.Spec PyProof.Rows L2

/-- the exception that a suite holds: its slot, its object, its dict -/
structure Su where
  j : Nat
  a : Addr
  dd : Addr
/-- what is asked of the classes of errors -/
structure ClsF (S : Stat) (cA : CA) (par : Nat → Nat → Bool) (K : PySem.W.Frag) (mg : Str → Option Value) : Prop where
  len : S.cN.length = cA.n
  name : ∀ (c : Nat) (x : Str), S.cN[c]? = some x → mg x = some (.ref (cA.to c))
  xf : ∀ c, c < cA.n → XfC K (cA.to c)
  no : ∀ c f, c < cA.n → f ∈ S.fl → PySem.W.findIn K (.ref (cA.to c)) f = some none
  ex : ∀ c, c < cA.n → ExcC K (cA.to c)
  is : ∀ c c', c < cA.n → c' < cA.n → PySem.W.kitOne K (.ref (cA.to c)) (.ref (cA.to c')) = some (par c c')
  ve : ∀ c, c < cA.n → PySem.W.kitOne K (.ref (cA.to c)) (.type "ValueError") = some true
  exm : ∀ c c', c < cA.n → c' < cA.n → PySem.W.exmOne K (.ref (cA.to c)) (.ref (cA.to c')) = some (par c c')
  exv : ∀ c, c < cA.n → PySem.W.exmOne K (.ref (cA.to c)) (.type "ValueError") = some true
/-- a mini function's promise -/
def spM (K : PySem.W.Frag) (cA : CA) (n : Nat) (g : List D → Mem → R D) : Sp := fun vs H Q E => vs.length = n ∧ ∃ ρ μ ds, Rel K ρ μ H ∧ Rvs K ρ H vs ds ∧ Fit K cA (fun c d _ H => E c d H) [] (Rv K) ρ H (g ds μ) Q
structure CallOk (cA : CA) (call : Nat → List D → Mem → R D) (lv : Nat) (X : Cx) (f : Nat) (d : MDef) : Prop where
  wrong : ∀ ds μ, ds.length ≠ d.params.length → call f ds μ = .stuck
  ok : ∃ a fd, X.mg d.name = some (.ref a) ∧ PySem.W.keepIn X.K (.ref a) = true ∧ Binds X.K fd d.params [] ∧ FnOk X.prog X.w X.K X.mg X.base (L2.CX X.prog X.w) lv a fd d.params (spM X.K cA d.params.length (call f))
structure Gd (S : Stat) (cA : CA) (par : Nat → Nat → Bool) (call : Nat → List D → Mem → R D) (lv : Nat) (N : List Str) (sj : Option Nat) (cx : Option Exn) (su : Su) (cm : Bool) (sc : Scope) (X : Cx) : Prop where
  hN : X.N = N
  nd : N.Nodup
  hsc : X.env.scope = sc
  free : ∀ x, S.bl.contains x = true → X.mg x = none
  gints : ∀ x i, S.gi.contains (x, i) = true → ∃ t, X.mg x = some (.int i t)
  cls : ClsF S cA par X.K X.mg
  un : X.A.units + 100 < cLine
  calm : cm = true → X.calm = true
  room : cm = true → Room lv X.A
  calls : cm = true → ∀ f d, S.T f = some d → CallOk cA call lv X f d
  sui : ∀ x, cx = some x → ∃ (X0 : Cx) (oe : Obj) (pn : List (Addr × Obj)), X = X0.suite su.a ((su.a, oe) :: pn) ∧ Zc (.ref (cA.to x.cls)) (some su.dd) oe ∧ (∃ vs, oe.data = .fields vs) ∧ x.cls < cA.n
  none_ : cm = true → cx = none
  suj : ∀ x, cx = some x → sj = some su.j

/-- the state of a mini run, on the heap -/
structure Now (K : PySem.W.Frag) (cA : CA) (cx : Option Exn) (su : Su) (ρ : List Addr) (μ : Mem) (env : Env') (σ : L2.St) (H : Hp) : Prop where
  R : Rel K ρ μ H
  E : RelE K ρ H σ env
  C : ∀ x, cx = some x → RX K cA ρ H su.dd x ∧ σ[su.j]? = some (some (.ref su.a))
theorem Now.go {K : PySem.W.Frag} {cA : CA} {cx : Option Exn} {su : Su} {ρ ρ1 : List Addr} {μ μ1 : Mem} {env : Env'} {σ : L2.St} {H H1 : Hp} (N : Now K cA cx su ρ μ env σ H) (p : ρ <+: ρ1) (e : Ext H H1) (R1 : Rel K ρ1 μ1 H1) : Now K cA cx su ρ1 μ1 env σ H1 :=
  ⟨R1, N.E.mono p e, fun x h => let ⟨a, b⟩ := N.C x h; ⟨a.mono p e, b⟩⟩

def tG {α β : Type} (K : PySem.W.Frag) (cA : CA) (W : WX) (cx : Option Exn) (su : Su) (rep : List Addr → Hp → β → α → Prop) (m : Env' → Mem → R α) : L2.St → Hp → (β → Hp → Prop) → Prop := fun σ H Q =>
  ∃ ρ μ env, Now K cA cx su ρ μ env σ H ∧ Fit K cA W σ rep ρ H (m env μ) Q
abbrev rEq {α : Type} : List Addr → Hp → α → α → Prop := fun _ _ a b => a = b
/-- a test's answer -/
def tstR (r : R D) : R Bool := r.bind fun d μ => match truM μ d with
  | some b => .ok b μ
  | none => .stuck
theorem test_eq (r : R D) (k : Bool → Mem → R D) : r.test k = (tstR r).bind k := by
  cases r with
  | ok d μ =>
    show (match truM μ d with | some b => k b μ | none => .stuck) = R.bind (match truM μ d with | some b => .ok b μ | none => .stuck) k
    cases truM μ d <;> rfl
  | exc x μ => rfl
  | stuck => rfl

theorem pe_weak {X : Cx} {e : Expr} {t t' : TE} (h : PE X e t) (w : ∀ σ H Q, t' σ H Q → t σ H Q) : PE X e t' := ⟨fun pins s σ H Q I q => h.run pins s σ H Q I (w σ H Q q)⟩
theorem pt_weak {X : Cx} {e : Expr} {t t' : TT} (h : PT X e t) (w : ∀ σ H Q, t' σ H Q → t σ H Q) : PT X e t' := ⟨fun pins s σ H Q I q => h.run pins s σ H Q I (w σ H Q q)⟩
theorem pa_weak {X : Cx} {e : List Expr} {t t' : TA} (h : PA X e t) (w : ∀ σ H Q, t' σ H Q → t σ H Q) : PA X e t' := ⟨fun pos pins s σ H Q I q => h.run pos pins s σ H Q I (w σ H Q q)⟩
theorem po_weak {X : Cx} {e : Option Expr} {t t' : TO} (h : PO X e t) (w : ∀ σ H Q, t' σ H Q → t σ H Q) : PO X e t' := ⟨fun pins s σ H Q I q => h.run pins s σ H Q I (w σ H Q q)⟩
theorem pi_weak {X : Cx} {g e : Expr} {t t' : TI} (h : PI X g e t) (w : ∀ σ H Q, t' σ H Q → t σ H Q) : PI X g e t' := ⟨fun pins s σ H Q I q => h.run pins s σ H Q I (w σ H Q q)⟩
theorem pi_or {X : Cx} {g e : Expr} {t t' : TI} (h : PI X g e t) (h' : PI X g e t') : PI X g e (fun σ H R => t σ H R ∨ t' σ H R) := ⟨fun pins s σ H Q I q => q.elim (h.run pins s σ H Q I) (h'.run pins s σ H Q I)⟩
theorem pts_weak {X : Cx} {e : List Expr} {t t' : TT} (h : PTs X e t) (w : ∀ σ H Q, t' σ H Q → t σ H Q) : PTs X e t' := ⟨fun pins s σ H Q I q => h.run pins s σ H Q I (w σ H Q q)⟩
theorem pg_weak {X : Cx} {e : Expr} {t t' : TG} (h : PG X e t) (w : ∀ v σ H Q, t' v σ H Q → t v σ H Q) : PG X e t' := ⟨fun pins s σ H v u Q I r q => h.run pins s σ H v u Q I r (w v σ H Q q)⟩

theorem gl_of {X : Cx} {sc : Scope} {x : Str} (h : X.env.scope = sc) (g : glB sc x = true) : Gl X x := by
  subst h
  unfold glB at g
  show X.env.scope.names.lookup x = some .globalImplicit
  split at g
  · assumption
  · cases g
theorem vis_of {sc : Scope} {x : Str} (g : visB sc x = true) : Vis sc x := by
  unfold visB at g
  unfold Vis
  split at g
  · exact .inl (by assumption)
  · exact .inr (.inl (by assumption))
  · exact .inr (.inr (by assumption))
  · cases g
theorem loc_of {sc : Scope} {x : Str} (g : locB sc x = true) : L2.Loc sc x := by
  unfold locB at g
  unfold L2.Loc
  split at g
  · exact .inl (by assumption)
  · exact .inr (by assumption)
  · cases g
theorem not_eq {b : Bool} (h : (!b) = true) : b = false := by cases b <;> first | rfl | cases h

/-! ### what a loop walks -/
/-- a walk of the layer's does what mine does, from the heap H₀ on -/
structure JOk (K : PySem.W.Frag) (ρ₀ : List Addr) (H₀ : Hp) (J : L2.It) (it : It) : Prop where
  stop : ∀ i ρ μ H, ρ₀ <+: ρ → Ext H₀ H → Rel K ρ μ H → it.at i μ = some none → J.stop i H
  go : ∀ i ρ μ H d, ρ₀ <+: ρ → Ext H₀ H → Rel K ρ μ H → it.at i μ = some (some d) → J.go i H ∧ ∀ x H', J.yld i H x H' → Ext H H' ∧ Rel K ρ μ H' ∧ Rv K ρ H' x d
theorem JOk.mono {K : PySem.W.Frag} {ρ ρ' : List Addr} {H H' : Hp} {J : L2.It} {it : It} (p : ρ <+: ρ') (e : Ext H H') (h : JOk K ρ H J it) : JOk K ρ' H' J it :=
  ⟨fun i ρ2 μ H2 p2 e2 => h.stop i ρ2 μ H2 (p.trans p2) (e.trans e2), fun i ρ2 μ H2 d p2 e2 => h.go i ρ2 μ H2 d (p.trans p2) (e.trans e2)⟩
theorem rvs_at {K : PySem.W.Frag} {ρ : List Addr} {H : Hp} {vs : List V} {ds : List D} {i : Nat} (r : Rvs K ρ H vs ds) (h : ds[i]? = none) : vs.length ≤ i := by
  rw [r.length]; exact List.getElem?_eq_none_iff.mp h

section
variable {K : PySem.W.Frag} {ρ : List Addr} {μ : Mem} {H : Hp}
/-- a tuple -/
theorem jok_tup {a : Addr} {vs : List V} {ds : List D} (h : SqT K H a vs) (r : Rvs K ρ H vs ds) : JOk K ρ H (Itt K a) (.items ds) := by
  refine ⟨fun i ρ2 μ2 H2 p e R q => ⟨vs, e.sqT h, ?_⟩, fun i ρ2 μ2 H2 d p e R q => ?_⟩
  · exact rvs_at r (by simpa [It.at] using q)
  · have q : ds[i]? = some d := by simpa [It.at] using q
    obtain ⟨v, hv, rv⟩ := (r.mono p e).get q
    refine ⟨⟨vs, v, e.sqT h, hv⟩, fun x H' y => ?_⟩
    obtain ⟨rfl, y⟩ := y
    have z := y vs (e.sqT h)
    rw [hv] at z
    cases z
    exact ⟨Ext.refl _, R, rv⟩
/-- a list, as it stands -/
theorem jok_live {l n : Nat} {a : Addr} (ha : ρ[l]? = some a) : JOk K ρ H (Itl K a) (.live l n) := by
  have rd : ∀ {ρ2 : List Addr} {μ2 : Mem} {H2 : Hp} {xs : List D}, ρ <+: ρ2 → Rel K ρ2 μ2 H2 → seqM μ2 (.loc l) = some xs → ∃ vs, SqL K H2 a vs ∧ Rvs K ρ2 H2 vs xs := fun {ρ2 μ2 H2 xs} p R q => by
    obtain ⟨b, vs, e, r, q⟩ := seq_of R (.loc (pre_get p ha)) q
    cases e
    rcases q with ⟨_, _, _, q⟩ | ⟨q, _⟩
    · exact ⟨vs, q, r⟩
    · cases q
  refine ⟨fun i ρ2 μ2 H2 p e R q => ?_, fun i ρ2 μ2 H2 d p e R q => ?_⟩
  · obtain ⟨xs, h1, h2⟩ := Option.map_eq_some_iff.mp q
    obtain ⟨vs, h3, h4⟩ := rd p R h1
    exact ⟨vs, h3, rvs_at h4 h2⟩
  · obtain ⟨xs, h1, h2⟩ := Option.map_eq_some_iff.mp q
    obtain ⟨vs, h3, h4⟩ := rd p R h1
    obtain ⟨v, hv, rv⟩ := h4.get h2
    refine ⟨⟨vs, v, h3, hv⟩, fun x H' y => ?_⟩
    obtain ⟨rfl, y⟩ := y
    have z := y vs h3
    rw [hv] at z
    cases z
    exact ⟨Ext.refl _, R, rv⟩
theorem rng_get (lo hi : Int) (i : Nat) : (rngD lo hi)[i]? = if i < (hi - lo).toNat then some (.int (lo + (i : Int))) else none := by
  unfold rngD
  rw [List.getElem?_map]
  by_cases h : i < (hi - lo).toNat
  · rw [if_pos h, List.getElem?_range h]; rfl
  · rw [if_neg h, List.getElem?_eq_none (by simpa using h)]; rfl
theorem jok_rng (lo hi : Int) : JOk K ρ H (Itr lo (hi - lo).toNat) (.items (rngD lo hi)) := by
  refine ⟨fun i ρ2 μ2 H2 p e R q => ?_, fun i ρ2 μ2 H2 d p e R q => ?_⟩
  · have q : (rngD lo hi)[i]? = none := by simpa [It.at] using q
    rw [rng_get] at q
    by_cases h : i < (hi - lo).toNat
    · rw [if_pos h] at q; cases q
    · exact Nat.le_of_not_lt h
  · have q : (rngD lo hi)[i]? = some d := by simpa [It.at] using q
    rw [rng_get] at q
    by_cases h : i < (hi - lo).toNat
    · rw [if_pos h] at q
      cases q
      refine ⟨h, fun x H' y => ?_⟩
      obtain ⟨rfl, rfl⟩ := y
      exact ⟨Ext.refl _, R, .int _⟩
    · rw [if_neg h] at q; cases q
theorem jok_zipT {a b : Addr} {vs ws : List V} {ds es : List D} (h1 : SqT K H a vs) (r1 : Rvs K ρ H vs ds) (h2 : SqT K H b ws) (r2 : Rvs K ρ H ws es) : JOk K ρ H (RZ.ItzT K a b) (.items (List.zipWith (fun x y => D.tup [x, y]) ds es)) := by
  have zg : ∀ i : Nat, (List.zipWith (fun x y => D.tup [x, y]) ds es)[i]? = match ds[i]?, es[i]? with | some x, some y => some (D.tup [x, y]) | _, _ => none := fun i => by
    rw [List.getElem?_zipWith]; cases ds[i]? <;> cases es[i]? <;> rfl
  refine ⟨fun i ρ2 μ2 H2 p e R q => ⟨vs, ws, e.sqT h1, e.sqT h2, ?_⟩, fun i ρ2 μ2 H2 d p e R q => ?_⟩
  · have q : (List.zipWith (fun x y => D.tup [x, y]) ds es)[i]? = none := Option.some.inj q
    rw [zg] at q
    cases e1 : ds[i]? with
    | none => exact .inl (rvs_at r1 e1)
    | some x =>
      cases e2 : es[i]? with
      | none => exact .inr (rvs_at r2 e2)
      | some y => rw [e1, e2] at q; cases q
  · have q : (List.zipWith (fun x y => D.tup [x, y]) ds es)[i]? = some d := Option.some.inj q
    rw [zg] at q
    cases e1 : ds[i]? with
    | none => rw [e1] at q; cases q
    | some x =>
      cases e2 : es[i]? with
      | none => rw [e1, e2] at q; cases q
      | some y =>
        rw [e1, e2] at q
        cases q
        obtain ⟨v, hv, rv⟩ := (r1.mono p e).get e1
        obtain ⟨w, hw, rw'⟩ := (r2.mono p e).get e2
        refine ⟨⟨vs, ws, v, w, e.sqT h1, e.sqT h2, hv, hw⟩, fun t H' z => ?_⟩
        obtain ⟨T, x', y', rfl, hT, rfl, z1, z2⟩ := z
        have z1 := z1 vs (e.sqT h1)
        have z2 := z2 ws (e.sqT h2)
        rw [hv] at z1
        rw [hw] at z2
        cases z1
        cases z2
        have ee : Ext H2 (upd H2 T (.tup [v, w])) := Ext.new hT
        exact ⟨ee, R.other hT, .tup (SqT.of upd_same) (.cons (rv.mono (List.prefix_refl _) ee) (.cons (rw'.mono (List.prefix_refl _) ee) .nil))⟩
theorem jok_zipL {l m n : Nat} {a b : Addr} (ha : ρ[l]? = some a) (hb : ρ[m]? = some b) : JOk K ρ H (Itz K a b) (.zipL l m n) := by
  have rd : ∀ {l : Nat} {a : Addr}, ρ[l]? = some a → ∀ {ρ2 : List Addr} {μ2 : Mem} {H2 : Hp} {xs : List D}, ρ <+: ρ2 → Rel K ρ2 μ2 H2 → seqM μ2 (.loc l) = some xs → ∃ vs, SqL K H2 a vs ∧ Rvs K ρ2 H2 vs xs := fun {l a} ha {ρ2 μ2 H2 xs} p R q => by
    obtain ⟨b, vs, e, r, q⟩ := seq_of R (.loc (pre_get p ha)) q
    cases e
    rcases q with ⟨_, _, _, q⟩ | ⟨q, _⟩
    · exact ⟨vs, q, r⟩
    · cases q
  refine ⟨fun i ρ2 μ2 H2 p e R q => ?_, fun i ρ2 μ2 H2 d p e R q => ?_⟩
  · simp only [It.at] at q
    split at q
    · rename_i xs ys h1 h2
      obtain ⟨vs, h3, h4⟩ := rd ha p R h1
      obtain ⟨ws, h5, h6⟩ := rd hb p R h2
      refine ⟨vs, ws, h3, h5, ?_⟩
      cases e1 : xs[i]? with
      | none => exact .inl (rvs_at h4 e1)
      | some x =>
        cases e2 : ys[i]? with
        | none => exact .inr (rvs_at h6 e2)
        | some y => rw [e1, e2] at q; cases q
    · cases q
  · simp only [It.at] at q
    split at q
    · rename_i xs ys h1 h2
      obtain ⟨vs, h3, h4⟩ := rd ha p R h1
      obtain ⟨ws, h5, h6⟩ := rd hb p R h2
      cases e1 : xs[i]? with
      | none => rw [e1] at q; cases q
      | some x =>
        cases e2 : ys[i]? with
        | none => rw [e1, e2] at q; cases q
        | some y =>
          rw [e1, e2] at q
          cases q
          obtain ⟨v, hv, rv⟩ := h4.get e1
          obtain ⟨w, hw, rw'⟩ := h6.get e2
          refine ⟨⟨vs, ws, v, w, h3, h5, hv, hw⟩, fun t H' z => ?_⟩
          obtain ⟨T, x', y', rfl, hT, rfl, z1, z2⟩ := z
          have z1 := z1 vs h3
          have z2 := z2 ws h5
          rw [hv] at z1
          rw [hw] at z2
          cases z1
          cases z2
          have ee : Ext H2 (upd H2 T (.tup [v, w])) := Ext.new hT
          exact ⟨ee, R.other hT, .tup (SqT.of upd_same) (.cons (rv.mono (List.prefix_refl _) ee) (.cons (rw'.mono (List.prefix_refl _) ee) .nil))⟩
    · cases q
end
end Mn

/-! # Mini, seventh part: targets -/
namespace Mn
open PySem PySem.Spec PyProof.Rows L2

def gM (K : PySem.W.Frag) (tg : Tgt) : TG := fun v σ H Q => ∃ ρ d env env', Rv K ρ H v d ∧ RelE K ρ H σ env ∧ setT tg d env = some env' ∧
  ∀ σ', RelE K ρ H σ' env' → σ'.length = σ.length → (∀ j, j ∉ tg.slots → σ'[j]? = σ[j]?) → Q σ' H
def gMs (K : PySem.W.Frag) (tg : Tgt) : TGs := fun vs σ H Q => ∃ ρ ds env env', Rvs K ρ H vs ds ∧ RelE K ρ H σ env ∧ setTs tg ds env = some env' ∧
  ∀ σ', RelE K ρ H σ' env' → σ'.length = σ.length → (∀ j, j ∉ tg.slots → σ'[j]? = σ[j]?) → Q σ' H
section
variable {X : Cx} {N : List Str} {st : Str → Bool} {sj : Option Nat} {cm : Bool}
theorem agTgs_star : ∀ {t : Tgt} {es : List Expr}, agTgs N st sj cm t es = true → ∀ env : Env, (assignEach es env).length = es.length ∧ (assignEach es env).findIdx? (·.1) = none ∧
    ∀ e r, es = e :: r → (assignEach (e :: r) env).map (·.2) = assign e env :: (assignEach r env).map (·.2)
  | .nil, [], _, env => ⟨rfl, rfl, fun _ _ h => by cases h⟩
  | .cons a r, e :: es, h, env => by
    rw [agTgs, Bool.and_eq_true] at h
    obtain ⟨h1, h2, _⟩ := agTgs_star h.2 env
    have hs : assignEach (e :: es) env = (false, assign e env) :: assignEach es env := by
      cases e <;> first | rfl | (cases a <;> exact ff h.1)
    rw [hs]
    refine ⟨by rw [List.length_cons, h1, List.length_cons], ?_, fun e' r' q => ?_⟩
    · rw [List.findIdx?_cons]; simp [h2]
    · cases q
      rw [hs]
      rfl
  | .slot _, _, h, _ => by cases ‹List Expr› <;> exact ff h
  | .nil, _ :: _, h, _ => ff h
  | .cons _ _, [], h, _ => ff h
theorem agTgs_len {K : PySem.W.Frag} : ∀ {t : Tgt} {es : List Expr} {ds : List D} {env env' : Env'}, agTgs N st sj cm t es = true → setTs t ds env = some env' → es.length = ds.length
  | .nil, [], [], _, _, _, _ => rfl
  | .nil, [], _ :: _, _, _, _, h => by cases h
  | .nil, _ :: _, _, _, _, h, _ => ff h
  | .cons a r, e :: es, [], _, _, _, h => by cases h
  | .cons a r, e :: es, d :: ds, env, env', h, q => by
    rw [agTgs, Bool.and_eq_true] at h
    rw [setTs] at q
    obtain ⟨e1, _, q2⟩ := Option.bind_eq_some_iff.mp q
    rw [List.length_cons, List.length_cons, agTgs_len (K := K) h.2 q2]
  | .cons _ _, [], _, _, _, h, _ => ff h
  | .slot _, es, _, _, _, h, _ => by cases es <;> exact ff h
section
variable (hN : X.N = N) (nd : N.Nodup) (hc : cm = true → X.calm = true) (hst : ∀ x, st x = true → L2.Loc X.env.scope x ∧ (X.fn x = true ∨ X.env.scope.names.lookup x = some .local))
include hN nd hc hst
mutual
theorem pgM : ∀ {tg : Tgt} {e : Expr}, agTg N st sj cm tg e = true → PG X e (gM X.K tg)
  | .slot i, .Name x p, h => by
    rw [agTg, Bool.and_eq_true, Bool.and_eq_true, decide_eq_true_eq] at h
    obtain ⟨h1, h2, _⟩ := h
    obtain ⟨l, f⟩ := hst x h2
    refine pg_weak (pg_name (i := i) (by rw [hN]; exact nd) (by rw [hN]; exact h1) l f) fun v σ H Q ⟨ρ, d, env, env', r, E, q, k⟩ => ?_
    have q' : some (env.set i (some d)) = some env' := q
    cases q'
    refine k _ (E.set i r) (by simp) fun j hj => ?_
    rw [List.getElem?_set_ne]
    intro z
    exact hj (by simp [Tgt.slots, z])
  | .nil, .Tuple [] kk p, h => by
    have hc' := hc h
    refine pg_weak (pg_tup (n := 0) hc' pgs_nil) fun v σ H Q ⟨ρ, d, env, env', r, E, q, k⟩ => ?_
    cases d with
    | tup ds =>
      cases ds with
      | nil =>
        cases q
        cases r with
        | tup h1 h2 =>
          cases h2
          exact ⟨_, [], rfl, h1, rfl, rfl, k σ E rfl fun _ _ => rfl⟩
      | cons _ _ => cases q
    | _ => cases q
  | .cons a r, .Tuple (e :: es) kk p, h => by
    rw [agTg, Bool.and_eq_true, Bool.and_eq_true] at h
    have hc' := hc h.1
    have hh : agTgs N st sj cm (.cons a r) (e :: es) = true := by rw [agTgs, h.2.1, h.2.2]; rfl
    have hs := agTgs_star hh X.env
    refine pg_weak (pg_tup (n := (e :: es).length) hc' (pgs_cons (pgM h.2.1) (pgsM h.2.2) (hs.2.2 e es rfl)) hs.1 hs.2.1) fun v σ H Q ⟨ρ, d, env, env', rr, E, q, k⟩ => ?_
    cases d with
    | tup ds =>
      rw [setT_cons] at q
      cases rr with
      | tup h3 h4 =>
        refine ⟨_, _, rfl, h3, ?_, ?_⟩
        · rw [h4.length]
          exact (agTgs_len (K := X.K) hh q).symm
        · cases ds with
          | nil => cases q
          | cons d ds =>
            obtain ⟨e1, q1, q2⟩ := Option.bind_eq_some_iff.mp (show (setT a d env).bind (fun e => setTs r ds e) = some env' from q)
            cases h4 with
            | cons r1 r2 =>
              refine ⟨_, _, rfl, ρ, d, env, e1, r1, E, q1, fun σ1 E1 l1 s1 => ⟨ρ, ds, e1, env', r2, E1, q2, fun σ2 E2 l2 s2 => k σ2 E2 (l2.trans l1) fun j hj => ?_⟩⟩
              rw [Tgt.slots, List.mem_append, not_or] at hj
              rw [s2 j hj.2, s1 j hj.1]
    | _ => cases q
  | .slot _, .BoolOp .., h | .slot _, .NamedExpr .., h | .slot _, .BinOp .., h | .slot _, .UnaryOp .., h | .slot _, .Lambda .., h | .slot _, .IfExp .., h | .slot _, .Dict .., h | .slot _, .Set .., h | .slot _, .ListComp .., h | .slot _, .SetComp .., h
  | .slot _, .DictComp .., h | .slot _, .GeneratorExp .., h | .slot _, .Await .., h | .slot _, .Yield .., h | .slot _, .YieldFrom .., h | .slot _, .Compare .., h | .slot _, .Call .., h | .slot _, .FormattedValue .., h | .slot _, .JoinedStr .., h
  | .slot _, .Constant .., h | .slot _, .Attribute .., h | .slot _, .Subscript .., h | .slot _, .Starred .., h | .slot _, .List .., h | .slot _, .Tuple .., h | .slot _, .Slice .., h => ff h
  | .nil, .BoolOp .., h | .nil, .NamedExpr .., h | .nil, .BinOp .., h | .nil, .UnaryOp .., h | .nil, .Lambda .., h | .nil, .IfExp .., h | .nil, .Dict .., h | .nil, .Set .., h | .nil, .ListComp .., h | .nil, .SetComp .., h
  | .nil, .DictComp .., h | .nil, .GeneratorExp .., h | .nil, .Await .., h | .nil, .Yield .., h | .nil, .YieldFrom .., h | .nil, .Compare .., h | .nil, .Call .., h | .nil, .FormattedValue .., h | .nil, .JoinedStr .., h
  | .nil, .Constant .., h | .nil, .Attribute .., h | .nil, .Subscript .., h | .nil, .Starred .., h | .nil, .List .., h | .nil, .Tuple (_ :: _) _ _, h | .nil, .Slice .., h | .nil, .Name .., h => ff h
  | .cons _ _, .BoolOp .., h | .cons _ _, .NamedExpr .., h | .cons _ _, .BinOp .., h | .cons _ _, .UnaryOp .., h | .cons _ _, .Lambda .., h | .cons _ _, .IfExp .., h | .cons _ _, .Dict .., h | .cons _ _, .Set .., h | .cons _ _, .ListComp .., h | .cons _ _, .SetComp .., h
  | .cons _ _, .DictComp .., h | .cons _ _, .GeneratorExp .., h | .cons _ _, .Await .., h | .cons _ _, .Yield .., h | .cons _ _, .YieldFrom .., h | .cons _ _, .Compare .., h | .cons _ _, .Call .., h | .cons _ _, .FormattedValue .., h | .cons _ _, .JoinedStr .., h
  | .cons _ _, .Constant .., h | .cons _ _, .Attribute .., h | .cons _ _, .Subscript .., h | .cons _ _, .Starred .., h | .cons _ _, .List .., h | .cons _ _, .Slice .., h | .cons _ _, .Name .., h | .cons _ _, .Tuple [] _ _, h => ff h
theorem pgsM : ∀ {tg : Tgt} {es : List Expr}, agTgs N st sj cm tg es = true → PGs X es (gMs X.K tg)
  | .nil, [], _ => ⟨fun pins s σ H vs us Q I r ⟨ρ, ds, env, env', rr, E, q, k⟩ => by
      cases ds with
      | nil =>
        cases rr
        cases q
        exact pgs_nil.run pins s σ H [] us Q I r ⟨rfl, k σ E rfl fun _ _ => rfl⟩
      | cons _ _ => cases q⟩
  | .cons a r, e :: es, h => by
    have hs := (agTgs_star h X.env).2.2 e es rfl
    rw [agTgs, Bool.and_eq_true] at h
    refine ⟨fun pins s σ H vs us Q I rv ⟨ρ, ds, env, env', rr, E, q, k⟩ => (pgs_cons (pgM h.1) (pgsM h.2) hs).run pins s σ H vs us Q I rv ?_⟩
    cases ds with
    | nil => cases q
    | cons d ds =>
      rw [setTs] at q
      obtain ⟨e1, q1, q2⟩ := Option.bind_eq_some_iff.mp q
      cases rr with
      | cons r1 r2 =>
        refine ⟨_, _, rfl, ρ, d, env, e1, r1, E, q1, fun σ1 E1 l1 s1 => ⟨ρ, ds, e1, env', r2, E1, q2, fun σ2 E2 l2 s2 => k σ2 E2 (l2.trans l1) fun j hj => ?_⟩⟩
        rw [Tgt.slots, List.mem_append, not_or] at hj
        rw [s2 j hj.2, s1 j hj.1]
  | .slot _, [], h => ff h
  | .slot _, _ :: _, h => ff h
  | .nil, _ :: _, h => ff h
  | .cons _ _, [], h => ff h
end
end
end
theorem wipe_get (σ : L2.St) (i : Nat) : ∀ vs : List Nat, (L2.wipe σ vs)[i]? = if i ∈ vs ∧ i < σ.length then some none else σ[i]?
  | [] => by simp [L2.wipe]
  | v :: vs => by
    unfold L2.wipe
    by_cases hv : v = i
    · subst hv
      by_cases hl : v < σ.length
      · rw [List.getElem?_set_self (by rw [L2.wipe_length]; exact hl), if_pos ⟨List.mem_cons_self, hl⟩]
      · rw [List.getElem?_eq_none (by simp [L2.wipe_length]; omega), if_neg (fun z => hl z.2), List.getElem?_eq_none (by omega)]
    · rw [List.getElem?_set_ne hv, wipe_get σ i vs]
      have : (i ∈ v :: vs) ↔ i ∈ vs := by simp [Ne.symm hv]
      simp only [this]
theorem wipe_same {σ σ' : L2.St} {vs : List Nat} (hl : σ'.length = σ.length) (h : ∀ j, j ∉ vs → σ'[j]? = σ[j]?) : L2.wipe σ' vs = L2.wipe σ vs := by
  apply List.ext_getElem?
  intro i
  rw [wipe_get, wipe_get, hl]
  by_cases hi : i ∈ vs
  · by_cases hb : i < σ.length
    · rw [if_pos ⟨hi, hb⟩, if_pos ⟨hi, hb⟩]
    · rw [if_neg (fun z => hb z.2), if_neg (fun z => hb z.2), List.getElem?_eq_none (by omega), List.getElem?_eq_none (by omega)]
  · rw [if_neg (fun z => hi z.1), if_neg (fun z => hi z.1)]; exact h i hi
theorem wipe_wipe {σ : L2.St} {vs : List Nat} : L2.wipe (L2.wipe σ vs) vs = L2.wipe σ vs := wipe_same (L2.wipe_length _ _) fun j hj => by rw [wipe_get, if_neg (fun z => hj z.1)]
end Mn

/-! # Mini, eighth part: a comprehension's reading; the expressions -/
namespace Mn
open PySem PySem.Spec PyProof.Rows L2

theorem relS_own {scope sc : Scope} {x : Str} {k : NameKind} (h : scope.names.lookup x = some k) (hk : k ≠ .free) : (relS scope sc).names.lookup x = some k := by
  unfold relS
  show List.lookup x (scope.names.map _) = some k
  generalize scope.names = l at h ⊢
  induction l with
  | nil => cases h
  | cons p r ih =>
    obtain ⟨n, kk⟩ := p
    rw [List.map_cons]
    by_cases hx : x = n
    · subst hx
      rw [List.lookup_cons_self] at h
      cases h
      have : (if (k == NameKind.free && sc.kind == .function && sc.names.lookup x == some .cell) = true then (x, NameKind.cell) else (x, k)) = (x, k) := by
        rw [if_neg]
        intro z
        simp only [Bool.and_eq_true, beq_iff_eq] at z
        exact hk z.1.1
      show List.lookup x ((if (k == NameKind.free && sc.kind == .function && sc.names.lookup x == some .cell) = true then (x, NameKind.cell) else (x, k)) :: _) = _
      rw [this, List.lookup_cons_self]
    · have hb : (x == n) = false := by simpa using hx
      rw [List.lookup_cons, hb] at h
      have := ih h
      show List.lookup x ((if (kk == NameKind.free && sc.kind == .function && sc.names.lookup n == some .cell) = true then (n, NameKind.cell) else (n, kk)) :: _) = _
      split
      · rw [List.lookup_cons, hb]; exact this
      · rw [List.lookup_cons, hb]; exact this

/-- f of a comprehension: nothing raised -/
theorem lc_read {K : PySem.W.Frag} {cA : CA} {W : WX} {su : Su} {cx : Option Exn} {tg : Tgt} {own : List Nat} {mi : Env' → Mem → R It} {mt : Env' → Mem → R Bool} {me : Env' → Mem → R D} {σ : L2.St} {H : Hp} {Q : V → Hp → Prop} {ρ : List Addr} {μ : Mem} {env : Env'}
    (hcx : cx = none) (hs : (tg.slots.all fun i => own.contains i) = true) (N : Now K cA cx su ρ μ env σ H)
    (F : Fit K cA W σ (Rv K) ρ H ((mi env μ).bind fun w μ => lcGo w μ.length (fun d μ => match setT tg d (wipeD env own) with
        | none => .stuck
        | some env' => (mt env' μ).bind fun b μ => if b = true then (me env' μ).bind fun y μ => .ok (some y) μ else .ok none μ) w.fuel 0 (μ ++ [.lst []])) Q) :
    tLc (tG K cA W cx su (fun ρ H J it => JOk K ρ H J it) mi) (gM K tg) (tG K cA W0 cx su rEq mt) (tG K cA W0 cx su (Rv K) me) own σ H Q := by
  refine ⟨ρ, μ, env, N, (Fit.bind F).imp fun J H1 ⟨ρ1, w, μ1, p, e, R1, j, F1⟩ D hD => ?_⟩
  have R1' := R1.push (ds := []) (vs := []) hD .nil
  have hL : (ρ1 ++ [D])[μ1.length]? = some D := by rw [← R1.len]; simp
  have e1 : Ext H1 (upd H1 D (.lst [])) := Ext.new hD
  refine ⟨fun i m H => ∃ ρ2 μ2, ρ1 ++ [D] <+: ρ2 ∧ Ext (upd H1 D (.lst [])) H ∧ Rel K ρ2 μ2 H ∧ Fit K cA W σ (Rv K) ρ2 H (lcGo w μ1.length (fun d μ => match setT tg d (wipeD env own) with
        | none => .stuck
        | some env' => (mt env' μ).bind fun b μ => if b = true then (me env' μ).bind fun y μ => .ok (some y) μ else .ok none μ) m i μ2) Q, ⟨w.fuel, ρ1 ++ [D], _, List.prefix_refl _, Ext.refl _, R1', Fit.step (List.prefix_append _ _) e1 F1⟩, ?_⟩
  rintro i m H2 ⟨ρ2, μ2, p2, e2, R2, F2⟩
  have p12 : ρ1 <+: ρ2 := (List.prefix_append _ _).trans p2
  have e12 : Ext H1 H2 := e1.trans e2
  have hL2 : ρ2[μ1.length]? = some D := pre_get p2 hL
  have stop : w.at i μ2 = some none → Fit K cA W σ (Rv K) ρ2 H2 (.ok (.loc μ1.length) μ2) Q → J.stop i H2 ∧ Q (.ref D) H2 := fun q F => ⟨j.stop i ρ2 μ2 H2 p12 e12 R2 q, fit_now F R2 (.loc hL2)⟩
  cases m with
  | zero =>
    rw [lcGo] at F2
    split at F2
    · rename_i q
      exact .inl (stop q F2)
    · exact (show False from F2).elim
  | succ m =>
    rw [lcGo] at F2
    split at F2
    · exact (show False from F2).elim
    · rename_i q
      exact .inl (stop q F2)
    · rename_i d q
      obtain ⟨g1, g2⟩ := j.go i ρ2 μ2 H2 d p12 e12 R2 q
      refine .inr ⟨g1, _, fun H' nx => ⟨m, Nat.lt_succ_self m, nx⟩, fun x H3 y => ?_⟩
      obtain ⟨e3, R3, rx⟩ := g2 x H3 y
      cases hset : setT tg d (wipeD env own) with
      | none =>
        rw [hset] at F2
        exact (show False from F2).elim
      | some env' =>
        rw [hset] at F2
        have E3 : RelE K ρ2 H3 (L2.wipe σ own) (wipeD env own) := (N.E.mono (p.trans p12) (e.trans (e12.trans e3))).wipe own
        refine ⟨ρ2, d, _, env', rx, E3, hset, fun σ2 E4 l4 s4 => ⟨?_, ?_⟩⟩
        · have hh : ∀ k, k ∉ own → σ2[k]? = (L2.wipe σ own)[k]? := fun k hk => s4 k fun hm => hk (by
            have := List.all_eq_true.mp hs k hm
            simpa using this)
          rw [wipe_same l4 hh, wipe_wipe]
        · refine ⟨ρ2, μ2, env', ⟨R3, E4, fun x z => by rw [hcx] at z; cases z⟩, ?_⟩
          dsimp only at F2
          cases hmt : mt env' μ2 with
          | stuck => rw [hmt] at F2; exact (show False from F2).elim
          | exc x μ3 => rw [hmt] at F2; exact (show False from F2).elim
          | ok b μ3 =>
            rw [hmt] at F2
            refine fun ρ3 H4 b' p3 e4 R4 hb => ?_
            cases (show b' = b from hb)
            cases b with
            | false =>
              rw [if_neg Bool.false_ne_true]
              exact ⟨ρ3, μ3, p2.trans p3, e2.trans (e3.trans e4), R4, Fit.step p3 (e3.trans e4) F2⟩
            | true =>
              rw [if_pos rfl]
              refine ⟨ρ3, μ3, env', ⟨R4, E4.mono p3 e4, fun x z => by rw [hcx] at z; cases z⟩, ?_⟩
              have F2 : Fit K cA W σ (Rv K) ρ2 H2 (match (me env' μ3).bind fun y μ => R.ok (some y) μ with
                | .ok none μ => _
                | .ok (some y) μ => _
                | _ => _) Q := F2
              cases hme : me env' μ3 with
              | stuck => rw [hme] at F2; exact (show False from F2).elim
              | exc x μ4 => rw [hme] at F2; exact (show False from F2).elim
              | ok yd μ4 =>
                rw [hme] at F2
                have F2 : Fit K cA W σ (Rv K) ρ2 H2 (match μ4[μ1.length]? with
                  | some (.lst acc) => if acc.length < LIM then lcGo w μ1.length _ m (i + 1) (μ4.set μ1.length (.lst (acc ++ [yd]))) else .stuck
                  | _ => .stuck) Q := F2
                refine fun ρ4 H5 y p4 e5 R5 ry => ?_
                split at F2
                · rename_i acc hacc
                  obtain ⟨c, F2⟩ := fit_if F2
                  have hD5 : ρ4[μ1.length]? = some D := pre_get (p2.trans (p3.trans p4)) hL
                  obtain ⟨vs, h1, h2⟩ := R5.at_ _ _ _ hacc hD5
                  refine ⟨vs, h1, by rw [h2.length]; exact Nat.lt_of_lt_of_le c lim_line, ρ4, _, p2.trans (p3.trans p4), e2.trans (e3.trans (e4.trans (e5.trans (Ext.set h1)))), R5.write hacc hD5 h1 (h2.append (.cons ry .nil)), ?_⟩
                  exact Fit.step (p3.trans p4) (e3.trans (e4.trans (e5.trans (Ext.set h1)))) F2
                · exact (show False from F2).elim

section
variable {S : Stat} {cA : CA} {par : Nat → Nat → Bool} {call : Nat → List D → Mem → R D} {lv : Nat} {N : List Str} {sj : Option Nat} {cx : Option Exn} {su : Su}

theorem Gd.blt {cm : Bool} {sc : Scope} {X : Cx} (G : Gd S cA par call lv N sj cx su cm sc X) {x : Str} (h : bltB S sc x = true) : Gl X x ∧ X.mg x = none := by
  unfold bltB at h
  rw [Bool.and_eq_true] at h
  exact ⟨gl_of G.hsc h.1, G.free x h.2⟩
theorem pb_of {a b : Bool} (h : (a && b) = true) : a = true ∧ b = true := by rwa [Bool.and_eq_true] at h
/-- the block's context -/
theorem Gd.blk {sc scope : Scope} {X : Cx} (G : Gd S cA par call lv N sj cx su true sc X) (s : Shared) (H : Hp) (C : Addr) (cl : List (Str × Addr)) (fp : List Addr) :
    Gd S cA par call lv N sj cx su true (relS scope sc) (X.blk s H scope (compEnvC scope cl C X.env) fp) := by
  have hsc : (compEnvC scope cl C X.env).scope = relS scope sc := by rw [← G.hsc]; rfl
  exact ⟨G.hN, G.nd, hsc, G.free, G.gints, G.cls, G.un, G.calm, G.room, fun h f d q => ⟨(G.calls h f d q).wrong, (G.calls h f d q).ok⟩, fun x h => (by rw [G.none_ rfl] at h; cases h), G.none_, G.suj⟩

/-- isinstance(e, C), e the exception in hand -/
def rIsX (K : PySem.W.Frag) (D a dd : Addr) : List V → Hp → VK → Prop := fun xs H Q => ∃ (c : V) (cv : Value) (b : Bool) (fs : List (Str × V)), xs = [.ref a, c] ∧ (∀ u, RelV c u → u = cv) ∧ H dd = some (.xd fs) ∧ PySem.W.kitOne K (.ref D) cv = some b ∧ Q (.bl b) H
theorem call_isX {X : Cx} {a D dd : Addr} {oe : Obj} {pn : List (Addr × Obj)} (C : ExcC X.K D) (hz : Zc (.ref D) (some dd) oe) (hf : ∃ vs, oe.data = .fields vs) : CallR (X.suite a ((a, oe) :: pn)) (.builtin "isinstance") (rIsX X.K D a dd) := by
  intro pins s σ H xs us Q I r h
  obtain ⟨c, cv, b, fs, rfl, hcv, hdd, e, q⟩ := h
  cases r with
  | cons rx rr =>
    cases rr with
    | cons rt rr =>
      cases rr
      cases rx
      have ec := hcv _ rt
      subst ec
      obtain ⟨hget, _⟩ := I.pin (a, oe) (List.mem_append.mpr (.inl List.mem_cons_self))
      obtain ⟨vs, hv⟩ := hf
      have hx : ObjOk X.prog X.w H s.heap dd (.xd fs) := I.hok dd _ hdd
      obtain ⟨mA, hns, hr⟩ := hx
      obtain ⟨od, ho, hl⟩ := lookIn_ns hns
      have J : PySem.W.InstAt s.heap a oe D (some od) := ⟨hget, hz.1, by unfold PySem.W.notCls; rw [hv] <;> rfl, by rw [hz.2]; exact ho⟩
      obtain ⟨cd, hc, _⟩ := PySem.W.any_some C.hd
      exact PySem.W.kia_one (PySem.W.kitx_exc (by rw [hc]; rfl) C.hg C.hk C.hs C.ha C.hn C.ht C.hm) I.kIn J e (fun z => nomatch z) fun tk => ⟨.bl b, H, I.kept (t' := tk) fun _ _ z => z, rfl, q⟩
end
end Mn

/-! # Mini, ninth part: the expressions -/
namespace Mn
open PySem PySem.Spec PyProof.Rows L2

abbrev tE (K : PySem.W.Frag) (cA : CA) (W : WX) (cx : Option Exn) (su : Su) (m : Env' → Mem → R D) : TE := tG K cA W cx su (Rv K) m
abbrev tT (K : PySem.W.Frag) (cA : CA) (W : WX) (cx : Option Exn) (su : Su) (m : Env' → Mem → R D) : TT := tG K cA W cx su rEq fun env μ => tstR (m env μ)
structure SimR (X : Cx) (e : Expr) (t : TE) (tt : TT) : Prop where
  pe : PE X e t
  pt : PT X e tt
  pw : ∀ op vs p, e = .BoolOp op vs p → PW X e tt

section
variable {K : PySem.W.Frag} {cA : CA} {W : WX} {cx : Option Exn} {su : Su} {σ : L2.St} {ρ : List Addr} {μ : Mem} {env : Env'} {H : Hp}
theorem tst_fit {r : R D} {Q : Bool → Hp → Prop} (F : Fit K cA W σ rEq ρ H (tstR r) Q) : Fit K cA W σ (Rv K) ρ H r fun x H' => ∃ k, TruV K x H' k ∧ Q k H' := by
  refine (Fit.bind (rep := Rv K) F).imp fun x H1 ⟨ρ1, d, μ1, p, e, R1, rx, F1⟩ => ?_
  split at F1
  · rename_i b q
    exact ⟨b, tru_of R1 rx q, F1 ρ1 H1 b (List.prefix_refl _) (Ext.refl _) R1 rfl⟩
  · exact (show False from F1).elim
theorem fit_true {b : Bool} {Q : Bool → Hp → Prop} (F : Fit K cA W σ rEq ρ H (.ok b μ) Q) (R : Rel K ρ μ H) : Q b H := F ρ H b (List.prefix_refl _) (Ext.refl _) R rfl
end
theorem tstR_bind {α : Type} (r : R α) (f : α → Mem → R D) : tstR (r.bind f) = r.bind fun d μ => tstR (f d μ) := by cases r <;> rfl
theorem cop_bl {op : Cop} {x y d : D} {μ μ' : Mem} (h : copD op x y μ = .ok d μ') : ∃ b, d = .bl b := by
  have m : ∀ {β : Type} {o : Option β} {g : β → Bool}, okO (o.map fun b => D.bl (g b)) μ = .ok d μ' → ∃ b, d = .bl b := fun {β o g} q => by
    cases o with
    | none => cases q
    | some b => cases q; exact ⟨_, rfl⟩
  cases op
  case eq => exact m (g := fun b => b) (by simpa only [copD] using h)
  case ne => exact m (by simpa only [copD] using h)
  all_goals
    cases x <;> cases y <;> first
      | (cases h; exact ⟨_, rfl⟩)
      | (cases h)
section
variable {K : PySem.W.Frag} {cA : CA} {W : WX} {σ : L2.St} {ρ : List Addr} {μ : Mem} {H : Hp}
theorem cop_tst {op : Cop} {x y : D} {Q : Bool → Hp → Prop} (F : Fit K cA W σ rEq ρ H (tstR (copD op x y μ)) Q) : Fit K cA W σ (Rv K) ρ H (copD op x y μ) fun x H' => ∃ k, x = .bl k ∧ Q k H' := by
  cases q : copD op x y μ with
  | stuck => rw [q] at F; exact F
  | exc e μ1 => rw [q] at F; exact F
  | ok d μ1 =>
    rw [q] at F
    obtain ⟨b, rfl⟩ := cop_bl q
    intro ρ1 H1 v p e R1 rv
    cases rv
    exact ⟨b, rfl, F ρ1 H1 b p e R1 rfl⟩
theorem and_fit {r : R D} {g : Mem → R D} {Q : Bool → Hp → Prop} (F : Fit K cA W σ rEq ρ H (tstR (r.bind fun x μ => match truM μ x with | some true => g μ | some false => .ok x μ | none => .stuck)) Q) :
    Fit K cA W σ rEq ρ H (tstR r) fun c H1 => ∃ ρ1 μ1, ρ <+: ρ1 ∧ Ext H H1 ∧ Rel K ρ1 μ1 H1 ∧ if c = true then Fit K cA W σ rEq ρ1 H1 (tstR (g μ1)) Q else Q false H1 := by
  cases r with
  | stuck => exact F
  | exc e μ1 => exact F
  | ok d μ1 =>
    have F : Fit K cA W σ rEq ρ H (tstR (match truM μ1 d with | some true => g μ1 | some false => .ok d μ1 | none => .stuck)) Q := F
    show Fit K cA W σ rEq ρ H (match truM μ1 d with | some b => .ok b μ1 | none => .stuck) _
    cases q : truM μ1 d with
    | none => rw [q] at F; exact F
    | some b =>
      rw [q] at F
      intro ρ1 H1 c p e R1 hc
      cases (show c = b from hc)
      cases b with
      | true => exact ⟨ρ1, μ1, p, e, R1, by rw [if_pos rfl]; exact Fit.step p e F⟩
      | false =>
        have F : Fit K cA W σ rEq ρ H (match truM μ1 d with | some b => .ok b μ1 | none => .stuck) Q := F
        rw [q] at F
        exact ⟨ρ1, μ1, p, e, R1, by rw [if_neg Bool.false_ne_true]; exact F ρ1 H1 false p e R1 rfl⟩
theorem or_fit {r : R D} {g : Mem → R D} {Q : Bool → Hp → Prop} (F : Fit K cA W σ rEq ρ H (tstR (r.bind fun x μ => match truM μ x with | some false => g μ | some true => .ok x μ | none => .stuck)) Q) :
    Fit K cA W σ rEq ρ H (tstR r) fun c H1 => ∃ ρ1 μ1, ρ <+: ρ1 ∧ Ext H H1 ∧ Rel K ρ1 μ1 H1 ∧ if c = true then Q true H1 else Fit K cA W σ rEq ρ1 H1 (tstR (g μ1)) Q := by
  cases r with
  | stuck => exact F
  | exc e μ1 => exact F
  | ok d μ1 =>
    have F : Fit K cA W σ rEq ρ H (tstR (match truM μ1 d with | some false => g μ1 | some true => .ok d μ1 | none => .stuck)) Q := F
    show Fit K cA W σ rEq ρ H (match truM μ1 d with | some b => .ok b μ1 | none => .stuck) _
    cases q : truM μ1 d with
    | none => rw [q] at F; exact F
    | some b =>
      rw [q] at F
      intro ρ1 H1 c p e R1 hc
      cases (show c = b from hc)
      cases b with
      | false => exact ⟨ρ1, μ1, p, e, R1, by rw [if_neg Bool.false_ne_true]; exact Fit.step p e F⟩
      | true =>
        have F : Fit K cA W σ rEq ρ H (match truM μ1 d with | some b => .ok b μ1 | none => .stuck) Q := F
        rw [q] at F
        exact ⟨ρ1, μ1, p, e, R1, by rw [if_pos rfl]; exact F ρ1 H1 true p e R1 rfl⟩
theorem fit_w {α β : Type} {rep : List Addr → Hp → β → α → Prop} {r : R α} {Q : β → Hp → Prop} (F : Fit K cA W σ rep ρ H r Q) : Fit K cA (fun c d _ H => WE W σ c d H) [] rep ρ H r Q := by
  cases r <;> exact F
end
/-- a if t else b, as a test -/
theorem pt_ifExp {X : Cx} {c a b : Expr} {pos : Pos} {t ta tb : TT} (hc : PT X c t) (ha : PT X a ta) (hb : PT X b tb) : PT X (.IfExp c a b pos) (fun σ H Q => t σ H fun k H1 => if k = true then ta σ H1 Q else tb σ H1 Q) := by
  refine ⟨fun pins s σ H Q I h => ?_⟩
  show wpAny _ _ (do if ← isTrue c X.env (eval c X.env) then isTrue a X.env (eval a X.env) else isTrue b X.env (eval b X.env)) _ _ _
  refine wpAny_bind (thn (hc.run pins s σ H _ I h) fun k s1 ⟨H1, I1, q1⟩ => ?_)
  cases k with
  | true => exact ha.run pins s1 σ H1 Q I1 q1
  | false => exact hb.run pins s1 σ H1 Q I1 q1
theorem agI_set {S : Stat} {N : List Str} {sj : Option Nat} {cm : Bool} {sc : Scope} {m : MI} {g e : Expr} (h : agI S N sj cm sc m g e = true) (env : Env) (x : Value) : foldedSetIterable e env x = pure x := by
  cases m with
  | seq a => exact ag_set h env x
  | _ => cases e <;> first | rfl | (cases g <;> exact ff h)
theorem SimR.plain {X : Cx} {cA : CA} {W : WX} {cx : Option Exn} {su : Su} {e : Expr} {m : Env' → Mem → R D} (h : PE X e (tE X.K cA W cx su m)) (hp : plainT e = true) : SimR X e (tE X.K cA W cx su m) (tT X.K cA W cx su m) :=
  ⟨h, pt_weak (pt_truth h (ag_test hp X.env)) fun σ H Q ⟨ρ, μ, env, N, F⟩ => ⟨ρ, μ, env, N, tst_fit F⟩, fun op vs p q => by subst q; exact ff hp⟩


section
variable {S : Stat} {cA : CA} {par : Nat → Nat → Bool} {call : Nat → List D → Mem → R D} {lv : Nat} {N : List Str} {sj : Option Nat} {cx : Option Exn} {su : Su}
variable {cm : Bool} {sc : Scope} {X : Cx} {W : WX}

theorem slot_pe (G : Gd S cA par call lv N sj cx su cm sc X) {i : Nat} {x : Str} {p : Pos} (h : slotB N sc i x = true) : PE X (.Name x p) (tVar i) := by
  unfold slotB at h
  obtain ⟨h1, h⟩ := pb_of h
  obtain ⟨h2, h⟩ := pb_of h
  obtain ⟨h3, h4⟩ := pb_of h
  exact pe_var (by rw [G.hN]; exact of_decide_eq_true h1) (by rw [G.hsc]; exact vis_of h2) (not_eq h3) (not_eq h4)
/-- the class that an isinstance names -/
theorem xc_pe (G : Gd S cA par call lv N sj cx su cm sc X) {c : XC} {x : Str} {p : Pos} (h : xcB S sc c x = true) {D : Nat} (hD : D < cA.n) :
    ∃ v cv, PE X (.Name x p) (tC v) ∧ (∀ u, RelV v u → u = cv) ∧ PySem.W.kitOne X.K (.ref (cA.to D)) cv = some (isXC par ⟨D, []⟩ c) := by
  cases c with
  | own c =>
    unfold xcB at h
    obtain ⟨h1, h⟩ := pb_of h
    obtain ⟨h2, h3⟩ := pb_of h
    have h1 := of_decide_eq_true h1
    have hc : c < cA.n := by rw [← G.cls.len]; exact (List.getElem?_eq_some_iff.mp h1).1
    exact ⟨.ref (cA.to c), .ref (cA.to c), pe_glob (gl_of G.hsc h2) (G.cls.name c x h1) rfl (not_eq h3), fun u r => r, G.cls.is D c hD hc⟩
  | ve =>
    unfold xcB at h
    obtain ⟨h1, h2⟩ := pb_of h
    have h1 := eq_of_beq h1
    subst h1
    obtain ⟨g1, g2⟩ := G.blt h2
    exact ⟨.ty "ValueError", .type "ValueError", pe_bltn (u := .type "ValueError") g1 g2 (by decide +kernel) rfl, fun u r => r, G.cls.ve D hD⟩
theorem op_of {op : Bop} {o : Operator} (h : opB op o = true) : o = bopP op := by cases op <;> cases o <;> first | rfl | exact ff h
theorem cp_of {op : Cop} {o : CmpOp} (h : cpB op o = true) : o = copP op ∧ o ≠ .In ∧ o ≠ .NotIn := by
  cases op <;> cases o <;> first | exact ⟨rfl, by decide, by decide⟩ | exact ff h

mutual
theorem simE : ∀ (m : ME) {cm : Bool} {sc : Scope} {e : Expr} {X : Cx} {W : WX}, Gd S cA par call lv N sj cx su cm sc X → Takes X W → agE S N sj cm sc m e = true → SimR X e (tE X.K cA W cx su (evalE par call cx m)) (tT X.K cA W cx su (evalE par call cx m))
  | .var i, cm, sc, e, X, W, G, tk, h => by
    cases e <;> try exact ff h
    obtain ⟨h, _⟩ := pb_of h
    refine SimR.plain (pe_weak (slot_pe G h) fun σ H Q ⟨ρ, μ, env, N, F⟩ => ?_) rfl
    simp only [evalE] at F
    split at F
    · rename_i d q
      obtain ⟨v, h1, h2⟩ := N.E.at_ i d q
      exact ⟨v, h1, fit_now F N.R h2⟩
    · exact (show False from F).elim
  | .non, cm, sc, e, X, W, G, tk, h => by
    cases e <;> try exact ff h
    rename_i c k p
    cases c <;> try exact ff h
    exact SimR.plain (pe_weak pe_non fun σ H Q ⟨ρ, μ, env, N, F⟩ => fit_now F N.R .non) rfl
  | .bl b, cm, sc, e, X, W, G, tk, h => by
    cases e <;> try exact ff h
    rename_i c k p
    cases c <;> try exact ff h
    cases (eq_of_beq h)
    exact SimR.plain (pe_weak pe_bl fun σ H Q ⟨ρ, μ, env, N, F⟩ => fit_now F N.R (.bl _)) rfl
  | .int i, cm, sc, e, X, W, G, tk, h => by
    cases e <;> try exact ff h
    rename_i c k p
    cases c <;> try exact ff h
    cases (of_decide_eq_true h)
    exact SimR.plain (pe_weak pe_int fun σ H Q ⟨ρ, μ, env, N, F⟩ => fit_now F N.R (.int _)) rfl
  | .str s, cm, sc, e, X, W, G, tk, h => by
    cases e <;> try exact ff h
    rename_i c k p
    cases c <;> try exact ff h
    cases (eq_of_beq h)
    exact SimR.plain (pe_weak pe_str fun σ H Q ⟨ρ, μ, env, N, F⟩ => fit_now F N.R (.str _)) rfl
  | .gint x i, cm, sc, e, X, W, G, tk, h => by
    cases e <;> try exact ff h
    obtain ⟨h1, h⟩ := pb_of h
    obtain ⟨h2, h⟩ := pb_of h
    obtain ⟨h3, h4⟩ := pb_of h
    cases (eq_of_beq h1)
    obtain ⟨t, ht⟩ := G.gints _ _ h4
    exact SimR.plain (pe_weak (pe_glob (v := .int i) (gl_of G.hsc h2) ht ⟨t, rfl⟩ (not_eq h3)) fun σ H Q ⟨ρ, μ, env, N, F⟩ => fit_now F N.R (.int _)) rfl
  | .bop op a b, cm, sc, e, X, W, G, tk, h => by
    cases e <;> try exact ff h
    obtain ⟨h1, h⟩ := pb_of h
    obtain ⟨h2, h3⟩ := pb_of h
    cases (op_of h1)
    refine SimR.plain (pe_weak (pe_op (bop_ok (cA := cA) (W := W) op) (simE a G tk h2).pe (simE b G tk h3).pe) fun σ H Q ⟨ρ, μ, env, N, F⟩ => ?_) rfl
    exact ⟨ρ, μ, env, N, (Fit.bind F).imp fun x H1 ⟨ρ1, d, μ1, p, e, R1, rx, F1⟩ => ⟨ρ1, μ1, env, N.go p e R1, (Fit.bind F1).imp fun y H2 ⟨ρ2, d2, μ2, p2, e2, R2, ry, F2⟩ => ⟨σ, ρ2, μ2, d, d2, R2, rx.mono p2 e2, ry, F2⟩⟩⟩
  | .neg a, cm, sc, e, X, W, G, tk, h => by
    cases e <;> try exact ff h
    rename_i o x p
    cases o <;> try exact ff h
    refine SimR.plain (pe_weak (pe_un un_neg (simE a G tk h).pe) fun σ H Q ⟨ρ, μ, env, N, F⟩ => ?_) rfl
    refine ⟨ρ, μ, env, N, (Fit.bind F).imp fun x H1 ⟨ρ1, d, μ1, p, e, R1, rx, F1⟩ => ?_⟩
    split at F1
    · cases rx
      exact ⟨_, rfl, fit_now F1 R1 (.int _)⟩
    · exact (show False from F1).elim
  | .not a, cm, sc, e, X, W, G, tk, h => by
    cases e <;> try exact ff h
    rename_i o x p
    cases o <;> try exact ff h
    have ih := simE a G tk h
    refine ⟨pe_weak (pe_notT ih.pe) fun σ H Q ⟨ρ, μ, env, N, F⟩ => ?_, pt_weak (pt_not ih.pt) fun σ H Q ⟨ρ, μ, env, N, F⟩ => ?_, fun op vs p q => by cases q⟩
    · refine ⟨ρ, μ, env, N, (Fit.bind F).imp fun x H1 ⟨ρ1, d, μ1, p, e, R1, rx, F1⟩ => ?_⟩
      split at F1
      · rename_i b q
        exact ⟨b, tru_of R1 rx q, fit_now F1 R1 (.bl _)⟩
      · exact (show False from F1).elim
    · refine ⟨ρ, μ, env, N, ?_⟩
      simp only [evalE, test_eq] at F
      show Fit X.K cA W σ rEq ρ H (tstR (evalE par call cx a env μ)) _
      cases q : tstR (evalE par call cx a env μ) with
      | ok b μ1 =>
        rw [q] at F
        exact fun ρ1 H1 b' p e R1 hb => by
          cases (show b' = b from hb)
          exact F ρ1 H1 (!b) p e R1 rfl
      | exc x μ1 =>
        rw [q] at F
        exact F
      | stuck =>
        rw [q] at F
        exact F
  | .cmp op a b, cm, sc, e, X, W, G, tk, h => by
    cases e <;> try exact ff h
    rename_i l ops cs p
    cases ops with
    | nil => exact ff h
    | cons o r1 =>
    cases r1 with
    | cons _ _ => cases cs <;> exact ff h
    | nil =>
    cases cs with
    | nil => exact ff h
    | cons r r2 =>
    cases r2 with
    | cons _ _ => exact ff h
    | nil =>
    obtain ⟨h1, h⟩ := pb_of h
    obtain ⟨h2, h3⟩ := pb_of h
    obtain ⟨e1, n1, n2⟩ := cp_of h1
    subst e1
    have hu : X.A.units + 64 < cLine := by have := G.un; omega
    have rd : ∀ {σ : L2.St} {H : Hp} {Q : V → Hp → Prop}, tE X.K cA W cx su (evalE par call cx (.cmp op a b)) σ H Q → tOp (rD2 X.K cA W (copD op)) (tE X.K cA W cx su (evalE par call cx a)) (tE X.K cA W cx su (evalE par call cx b)) σ H Q := fun {σ H Q} ⟨ρ, μ, env, N, F⟩ =>
      ⟨ρ, μ, env, N, (Fit.bind F).imp fun x H1 ⟨ρ1, d, μ1, p, e, R1, rx, F1⟩ => ⟨ρ1, μ1, env, N.go p e R1, (Fit.bind F1).imp fun y H2 ⟨ρ2, d2, μ2, p2, e2, R2, ry, F2⟩ => ⟨σ, ρ2, μ2, d, d2, R2, rx.mono p2 e2, ry, F2⟩⟩⟩
    refine ⟨pe_weak (pe_cmpR (cop_ok (cA := cA) (W := W) hu op) (simE a G tk h2).pe (simE b G tk h3).pe (nobehind _ n1 n2)) fun σ H Q q => rd q, pt_weak (pt_cmpR (cop_ok (cA := cA) (W := W) hu op) (simE a G tk h2).pe (simE b G tk h3).pe (nobehind _ n1 n2)) fun σ H Q ⟨ρ, μ, env, N, F⟩ => ?_, fun op vs p q => by cases q⟩
    simp only [evalE, tstR_bind] at F
    exact ⟨ρ, μ, env, N, (Fit.bind F).imp fun x H1 ⟨ρ1, d, μ1, p, e, R1, rx, F1⟩ => ⟨ρ1, μ1, env, N.go p e R1, (Fit.bind F1).imp fun y H2 ⟨ρ2, d2, μ2, p2, e2, R2, ry, F2⟩ => ⟨σ, ρ2, μ2, d, d2, R2, rx.mono p2 e2, ry, cop_tst F2⟩⟩⟩
  | .cmp2 op op' a b c, cm, sc, e, X, W, G, tk, h => by
    cases e <;> try exact ff h
    rename_i l ops cs p
    obtain ⟨o, o', rfl⟩ : ∃ o o', ops = [o, o'] := by
      rcases ops with _ | ⟨o, _ | ⟨o', _ | _⟩⟩ <;> first | exact ⟨_, _, rfl⟩ | (rcases cs with _ | ⟨_, _ | ⟨_, _ | _⟩⟩ <;> exact ff h)
    obtain ⟨r, r', rfl⟩ : ∃ r r', cs = [r, r'] := by
      rcases cs with _ | ⟨_, _ | ⟨_, _ | _⟩⟩ <;> first | exact ⟨_, _, rfl⟩ | exact ff h
    obtain ⟨h1, h⟩ := pb_of h
    obtain ⟨h1', h⟩ := pb_of h
    obtain ⟨h2, h⟩ := pb_of h
    obtain ⟨h3, h4⟩ := pb_of h
    obtain ⟨e1, n1, n2⟩ := cp_of h1
    obtain ⟨e1', n1', n2'⟩ := cp_of h1'
    subst e1
    subst e1'
    have hu : X.A.units + 64 < cLine := by have := G.un; omega
    have hm : lastMarks [copP op, copP op'] [r, r'] = false := nobehind r' n1' n2'
    have ha := (simE a G tk h2).pe
    have hb := (simE b G tk h3).pe
    have hc := (simE c G tk h4).pe
    refine ⟨pe_weak (pe_chain (cop_ok (cA := cA) (W := W) hu op) (cop_ok (cA := cA) (W := W) hu op') ha hb hc hm) fun σ H Q ⟨ρ, μ, env, N, F⟩ => ?_, pt_weak (pt_chain (cop_ok (cA := cA) (W := W) hu op) (cop_ok (cA := cA) (W := W) hu op') ha hb hc hm) fun σ H Q ⟨ρ, μ, env, N, F⟩ => ?_, fun op vs p q => by cases q⟩
    · refine ⟨ρ, μ, env, N, (Fit.bind F).imp fun x H1 ⟨ρ1, d, μ1, p, e, R1, rx, F1⟩ => ⟨ρ1, μ1, env, N.go p e R1, (Fit.bind F1).imp fun y H2 ⟨ρ2, d2, μ2, p2, e2, R2, ry, F2⟩ => ⟨σ, ρ2, μ2, d, d2, R2, rx.mono p2 e2, ry, (Fit.bind F2).imp fun z H3 ⟨ρ3, d3, μ3, p3, e3, R3, rz, F3⟩ => ?_⟩⟩⟩
      split at F3
      · cases rz
        exact ⟨true, rfl, by rw [if_pos rfl]; exact ⟨ρ3, μ3, env, ((N.go p e R1).go p2 e2 R2).go p3 e3 R3, (Fit.bind F3).imp fun w H4 ⟨ρ4, d4, μ4, p4, e4, R4, rw', F4⟩ => ⟨σ, ρ4, μ4, d2, d4, R4, ry.mono (p3.trans p4) (e3.trans e4), rw', F4⟩⟩⟩
      · cases rz
        exact ⟨false, rfl, by rw [if_neg Bool.false_ne_true]; exact fit_now F3 R3 (.bl _)⟩
      · exact (show False from F3).elim
    · simp only [evalE, tstR_bind] at F
      refine ⟨ρ, μ, env, N, (Fit.bind F).imp fun x H1 ⟨ρ1, d, μ1, p, e, R1, rx, F1⟩ => ⟨ρ1, μ1, env, N.go p e R1, (Fit.bind F1).imp fun y H2 ⟨ρ2, d2, μ2, p2, e2, R2, ry, F2⟩ => ⟨σ, ρ2, μ2, d, d2, R2, rx.mono p2 e2, ry, (Fit.bind F2).imp fun z H3 ⟨ρ3, d3, μ3, p3, e3, R3, rz, F3⟩ => ?_⟩⟩⟩
      split at F3
      · cases rz
        rw [tstR_bind] at F3
        exact ⟨true, rfl, by rw [if_pos rfl]; exact ⟨ρ3, μ3, env, ((N.go p e R1).go p2 e2 R2).go p3 e3 R3, (Fit.bind F3).imp fun w H4 ⟨ρ4, d4, μ4, p4, e4, R4, rw', F4⟩ => ⟨σ, ρ4, μ4, d2, d4, R4, ry.mono (p3.trans p4) (e3.trans e4), rw', cop_tst F4⟩⟩⟩
      · cases rz
        exact ⟨false, rfl, by rw [if_neg Bool.false_ne_true]; exact ⟨false, rfl, fit_true F3 R3⟩⟩
      · exact (show False from F3).elim
  | .and a b, cm, sc, e, X, W, G, tk, h => by
    cases e <;> try exact ff h
    rename_i o vs p
    cases o with
    | Or => rcases vs with _ | ⟨_, _ | ⟨_, _ | _⟩⟩ <;> exact ff h
    | And =>
    obtain ⟨x, y, r, rfl, h1, hb⟩ : ∃ x y r, vs = x :: y :: r ∧ agE S N sj cm sc a x = true ∧ (PE X (.BoolOp .And (y :: r) p) (tE X.K cA W cx su (evalE par call cx b)) ∧ PW X (.BoolOp .And (y :: r) p) (tT X.K cA W cx su (evalE par call cx b))) := by
      rcases vs with _ | ⟨x, _ | ⟨y, _ | ⟨z, r⟩⟩⟩
      · exact ff h
      · exact ff h
      · obtain ⟨h1, h2⟩ := pb_of h
        have ih := simE b G tk h2
        exact ⟨x, y, [], rfl, h1, pe_one ih.pe, pw_and1 ih.pt⟩
      · obtain ⟨h1, h2⟩ := pb_of h
        have ih := simE b G tk h2
        exact ⟨x, y, z :: r, rfl, h1, ih.pe, ih.pw _ _ _ rfl⟩
    have iha := simE a G tk h1
    have pw : PW X (.BoolOp .And (x :: y :: r) p) (tT X.K cA W cx su (evalE par call cx (.and a b))) := ⟨fun wh pins s σ H Q I ⟨ρ, μ, env, N, F⟩ => (pw_and iha.pt hb.2).run wh pins s σ H Q I ⟨ρ, μ, env, N, (and_fit F).imp fun c H1 ⟨ρ1, μ1, p, e, R1, q⟩ => by
      cases c with
      | true => rw [if_pos rfl] at q ⊢; exact ⟨ρ1, μ1, env, N.go p e R1, q⟩
      | false => rw [if_neg Bool.false_ne_true] at q ⊢; exact q⟩⟩
    refine ⟨pe_weak (pe_andT iha.pe hb.1) fun σ H Q ⟨ρ, μ, env, N, F⟩ => ?_, pw.pt, fun op vs p q => by cases q; exact pw⟩
    refine ⟨ρ, μ, env, N, (Fit.bind F).imp fun x H1 ⟨ρ1, d, μ1, p, e, R1, rx, F1⟩ => ?_⟩
    split at F1
    · rename_i q
      exact ⟨true, tru_of R1 rx q, by rw [if_pos rfl]; exact ⟨ρ1, μ1, env, N.go p e R1, F1⟩⟩
    · rename_i q
      exact ⟨false, tru_of R1 rx q, by rw [if_neg Bool.false_ne_true]; exact fit_now F1 R1 rx⟩
    · exact (show False from F1).elim
  | .or a b, cm, sc, e, X, W, G, tk, h => by
    cases e <;> try exact ff h
    rename_i o vs p
    cases o with
    | And => rcases vs with _ | ⟨_, _ | ⟨_, _ | _⟩⟩ <;> exact ff h
    | Or =>
    obtain ⟨x, y, r, rfl, h1, hb⟩ : ∃ x y r, vs = x :: y :: r ∧ agE S N sj cm sc a x = true ∧ (PE X (.BoolOp .Or (y :: r) p) (tE X.K cA W cx su (evalE par call cx b)) ∧ PW X (.BoolOp .Or (y :: r) p) (tT X.K cA W cx su (evalE par call cx b))) := by
      rcases vs with _ | ⟨x, _ | ⟨y, _ | ⟨z, r⟩⟩⟩
      · exact ff h
      · exact ff h
      · obtain ⟨h1, h2⟩ := pb_of h
        have ih := simE b G tk h2
        exact ⟨x, y, [], rfl, h1, pe_one ih.pe, pw_or1 ih.pt⟩
      · obtain ⟨h1, h2⟩ := pb_of h
        have ih := simE b G tk h2
        exact ⟨x, y, z :: r, rfl, h1, ih.pe, ih.pw _ _ _ rfl⟩
    have iha := simE a G tk h1
    have pw : PW X (.BoolOp .Or (x :: y :: r) p) (tT X.K cA W cx su (evalE par call cx (.or a b))) := ⟨fun wh pins s σ H Q I ⟨ρ, μ, env, N, F⟩ => (pw_or iha.pt hb.2).run wh pins s σ H Q I ⟨ρ, μ, env, N, (or_fit F).imp fun c H1 ⟨ρ1, μ1, p, e, R1, q⟩ => by
      cases c with
      | true => rw [if_pos rfl] at q ⊢; exact q
      | false => rw [if_neg Bool.false_ne_true] at q ⊢; exact ⟨ρ1, μ1, env, N.go p e R1, q⟩⟩⟩
    refine ⟨pe_weak (pe_orT iha.pe hb.1) fun σ H Q ⟨ρ, μ, env, N, F⟩ => ?_, pw.pt, fun op vs p q => by cases q; exact pw⟩
    refine ⟨ρ, μ, env, N, (Fit.bind F).imp fun x H1 ⟨ρ1, d, μ1, p, e, R1, rx, F1⟩ => ?_⟩
    split at F1
    · rename_i q
      exact ⟨false, tru_of R1 rx q, by rw [if_neg Bool.false_ne_true]; exact ⟨ρ1, μ1, env, N.go p e R1, F1⟩⟩
    · rename_i q
      exact ⟨true, tru_of R1 rx q, by rw [if_pos rfl]; exact fit_now F1 R1 rx⟩
    · exact (show False from F1).elim
  | .ite t a b, cm, sc, e, X, W, G, tk, h => by
    cases e <;> try exact ff h
    obtain ⟨h1, h⟩ := pb_of h
    obtain ⟨h2, h3⟩ := pb_of h
    have i1 := simE t G tk h1
    have i2 := simE a G tk h2
    have i3 := simE b G tk h3
    refine ⟨pe_weak (pe_ifExp i1.pt i2.pe i3.pe) fun σ H Q ⟨ρ, μ, env, N, F⟩ => ?_, pt_weak (pt_ifExp i1.pt i2.pt i3.pt) fun σ H Q ⟨ρ, μ, env, N, F⟩ => ?_, fun op vs p q => by cases q⟩
    · simp only [evalE, test_eq] at F
      refine ⟨ρ, μ, env, N, (Fit.bind (rep := rEq) F).imp fun c H1 ⟨ρ1, d, μ1, p, e, R1, rx, F1⟩ => ?_⟩
      cases (show c = d from rx)
      cases c with
      | true => rw [if_pos rfl] at F1 ⊢; exact ⟨ρ1, μ1, env, N.go p e R1, F1⟩
      | false => rw [if_neg Bool.false_ne_true] at F1 ⊢; exact ⟨ρ1, μ1, env, N.go p e R1, F1⟩
    · simp only [evalE, test_eq, tstR_bind] at F
      refine ⟨ρ, μ, env, N, (Fit.bind (rep := rEq) F).imp fun c H1 ⟨ρ1, d, μ1, p, e, R1, rx, F1⟩ => ?_⟩
      cases (show c = d from rx)
      cases c with
      | true => rw [if_pos rfl] at F1 ⊢; exact ⟨ρ1, μ1, env, N.go p e R1, F1⟩
      | false => rw [if_neg Bool.false_ne_true] at F1 ⊢; exact ⟨ρ1, μ1, env, N.go p e R1, F1⟩
  | .tup es, cm, sc, e, X, W, G, tk, h => by
    cases e <;> try exact ff h
    refine SimR.plain (pe_weak (pe_tup (simEs es G tk h)) fun σ H Q ⟨ρ, μ, env, N, F⟩ => ?_) rfl
    refine ⟨ρ, μ, env, N, (Fit.bind F).imp fun xs H1 ⟨ρ1, ds, μ1, p, e, R1, rs, F1⟩ => ?_⟩
    obtain ⟨c, F1⟩ := fit_if F1
    exact ⟨by rw [rs.length]; exact Nat.le_trans c lim_line, fit_tup F1 R1 rs⟩
  | .lst es, cm, sc, e, X, W, G, tk, h => by
    cases e <;> try exact ff h
    refine SimR.plain (pe_weak (pe_lst (simEs es G tk h)) fun σ H Q ⟨ρ, μ, env, N, F⟩ => ?_) rfl
    refine ⟨ρ, μ, env, N, (Fit.bind F).imp fun xs H1 ⟨ρ1, ds, μ1, p, e, R1, rs, F1⟩ => ?_⟩
    obtain ⟨c, F1⟩ := fit_if F1
    exact ⟨by rw [rs.length]; exact Nat.le_trans c lim_line, fit_lst F1 R1 rs⟩
  | .ix a i, cm, sc, e, X, W, G, tk, h => by
    cases e <;> try exact ff h
    obtain ⟨h1, h⟩ := pb_of h
    obtain ⟨h2, h3⟩ := pb_of h
    refine SimR.plain (pe_weak (pe_ix (ix_ok (cA := cA) (W := W)) (simE a G tk h2).pe (simE i G tk h3).pe (ag_ix h3 h1)) fun σ H Q ⟨ρ, μ, env, N, F⟩ => ?_) rfl
    exact ⟨ρ, μ, env, N, (Fit.bind F).imp fun x H1 ⟨ρ1, d, μ1, p, e, R1, rx, F1⟩ => ⟨ρ1, μ1, env, N.go p e R1, (Fit.bind F1).imp fun y H2 ⟨ρ2, d2, μ2, p2, e2, R2, ry, F2⟩ => ⟨σ, ρ2, μ2, d, d2, R2, rx.mono p2 e2, ry, F2⟩⟩⟩
  | .slice a lo hi, cm, sc, e, X, W, G, tk, h => by
    cases e <;> try exact ff h
    rename_i x y p
    cases y <;> try exact ff h
    rename_i l u st p2
    cases st with
    | some _ => exact ff h
    | none =>
    obtain ⟨h1, h⟩ := pb_of h
    obtain ⟨h2, h3⟩ := pb_of h
    refine SimR.plain (pe_weak (pe_slice (sl_ok (cA := cA) (W := W)) (simE a G tk h1).pe (simO lo G tk h2) (simO hi G tk h3)) fun σ H Q ⟨ρ, μ, env, N, F⟩ => ?_) rfl
    refine ⟨ρ, μ, env, N, (Fit.bind F).imp fun x H1 ⟨ρ1, d, μ1, p, e, R1, rx, F1⟩ => ⟨ρ1, μ1, env, N.go p e R1, (Fit.bind (rep := rEq) F1).imp fun y H2 ⟨ρ2, d2, μ2, p2, e2, R2, ry, F2⟩ => ⟨ρ2, μ2, env, (N.go p e R1).go p2 e2 R2, (Fit.bind (rep := rEq) F2).imp fun z H3 ⟨ρ3, d3, μ3, p3, e3, R3, rz, F3⟩ => ?_⟩⟩⟩
    cases (show y = d2 from ry)
    cases (show z = d3 from rz)
    exact ⟨σ, ρ3, μ3, d, R3, rx.mono (p2.trans p3) (e2.trans e3), F3⟩
  | .call f es, cm, sc, e, X, W, G, tk, h => by
    cases e <;> try exact ff h
    rename_i g xs ks p
    cases g <;> try exact ff h
    rename_i x px
    cases ks with
    | cons _ _ => exact ff h
    | nil =>
    obtain ⟨h0, h⟩ := pb_of h
    obtain ⟨h1, h⟩ := pb_of h
    obtain ⟨h2, h⟩ := pb_of h
    obtain ⟨h3, h⟩ := pb_of h
    obtain ⟨h4, h5⟩ := pb_of h
    cases xs with
    | nil => exact ff h4
    | cons y ys =>
    split at h3
    · rename_i d hd
      have hn := eq_of_beq h3
      subst hn
      have C := G.calls h0 f d hd
      obtain ⟨ad, fd, c1, c2, c3, c4⟩ := C.ok
      have st := ags_star h5 p X.env
      have sy : starEach (y :: ys) X.env = (false, eval y X.env) :: starEach ys X.env := by
        cases es with
        | nil => exact ff h5
        | cons a r => exact ag_star (pb_of h5).1 ys X.env
      refine SimR.plain (pe_weak (pe_callS c4 (G.room h0) (gl_of G.hsc h1) c1 c2 c3 (fun σ => passAt tk σ) (simEs es G tk h5) (not_eq h2) sy (by
        have z := st.1
        rw [sy] at z
        simpa [backTo] using z)) fun σ H Q ⟨ρ, μ, env, N, F⟩ => ?_) rfl
      refine ⟨ρ, μ, env, N, (Fit.bind F).imp fun vs H1 ⟨ρ1, ds, μ1, p, e, R1, rs, F1⟩ => ⟨?_, ρ1, μ1, ds, R1, rs, fit_w F1⟩⟩
      by_cases hl : ds.length = d.params.length
      · rw [rs.length, hl]
      · rw [C.wrong ds μ1 hl] at F1
        exact (show False from F1).elim
    · exact ff h3
  | .bi b es, cm, sc, e, X, W, G, tk, h => by
    cases e <;> try exact ff h
    rename_i g xs ks p
    cases g <;> try exact ff h
    rename_i x px
    cases ks with
    | cons _ _ => exact ff h
    | nil =>
    obtain ⟨h0, h⟩ := pb_of h
    obtain ⟨h1, h⟩ := pb_of h
    obtain ⟨h2, h⟩ := pb_of h
    obtain ⟨h4, h5⟩ := pb_of h
    cases xs with
    | nil => exact ff h4
    | cons y ys =>
    have hx := eq_of_beq h1
    obtain ⟨g1, g2⟩ := G.blt h2
    have st := ags_star h5 p X.env
    have sy : starEach (y :: ys) X.env = (false, eval y X.env) :: starEach ys X.env := by
      cases es with
      | nil => exact ff h5
      | cons a r => exact ag_star (pb_of h5).1 ys X.env
    have hpl : (backTo p (starEach ys X.env)).any (·.1) = false := by
      have z := st.1
      rw [sy] at z
      simpa [backTo] using z
    have hv : bootBuiltins x = some (biV b) := by rw [hx]; exact bi_boot b
    have key : PE X (.Call (.Name x px) (y :: ys) [] p) (tCB (rDs X.K cA W (biD b)) (tG X.K cA W cx su (Rvs X.K) (evalEs par call cx es))) := by
      have B := bi_ok (cA := cA) (W := W) (G.calm h0) b
      have A := simEs es G tk h5
      subst hx
      cases b <;> first
        | exact pe_callB B g1 g2 hv A (by decide) (by decide) sy hpl
        | exact pe_callTy B g1 g2 hv A (by decide) (by decide) sy hpl
    refine SimR.plain (pe_weak key fun σ H Q ⟨ρ, μ, env, N, F⟩ => ?_) rfl
    exact ⟨ρ, μ, env, N, (Fit.bind F).imp fun vs H1 ⟨ρ1, ds, μ1, p, e, R1, rs, F1⟩ => ⟨σ, ρ1, μ1, ds, R1, rs, F1⟩⟩
  | .meth m o es, cm, sc, e, X, W, G, tk, h => by
    cases e <;> try exact ff h
    rename_i g xs ks cp
    cases g <;> try exact ff h
    rename_i y f ap
    cases ks with
    | cons _ _ => exact ff h
    | nil =>
    obtain ⟨h1, h⟩ := pb_of h
    obtain ⟨h2, h⟩ := pb_of h
    obtain ⟨h3, h⟩ := pb_of h
    obtain ⟨h4, h⟩ := pb_of h
    obtain ⟨h5, h6⟩ := pb_of h
    have hf := eq_of_beq h1
    subst hf
    have h3 := of_decide_eq_true h3
    have ho := (simE o G tk h5).pe
    have hes := simEs es G tk h6
    have hb : attributeBase y (mtN m) X.env (eval y X.env) = eval y X.env := ag_base h2 _ _ _
    have ty : ∀ {ρ : List Addr} {μ : Mem} {H : Hp} {x : V} {d : D}, Rel X.K ρ μ H → Rv X.K ρ H x d → mtRecv m d μ = true → tyV X.K "list" x H := fun {ρ μ H x d} R r q => by
      have : ∃ l, d = .loc l ∧ (seqM μ (.loc l)).isSome = true := by cases m <;> cases d <;> first | exact ⟨_, rfl, q⟩ | exact ff q
      obtain ⟨l, rfl, q'⟩ := this
      obtain ⟨xs, q'⟩ := Option.isSome_iff_exists.mp q'
      obtain ⟨a, vs, rfl, _, z⟩ := seq_of R r q'
      rcases z with ⟨_, _, _, z⟩ | ⟨z, _⟩
      · exact .inl ⟨rfl, _, z⟩
      · cases z
    have key : PE X (.Call (.Attribute y (mtN m) ap) xs [] cp) (fun σ H Q => tE X.K cA W cx su (evalE par call cx o) σ H fun x H1 => (∃ ρ μ d, Rel X.K ρ μ H1 ∧ Rv X.K ρ H1 x d ∧ mtRecv m d μ = true) ∧ tG X.K cA W cx su (Rvs X.K) (evalEs par call cx es) σ H1 fun vs H2 => rDm X.K cA W (mtD m) x vs H2 Q) := by
      have st := ags_star h6 cp X.env
      cases xs with
      | nil =>
        have e0 : es = .nil := by cases es with
          | nil => rfl
          | cons _ _ => exact ff h6
        subst e0
        cases m
        case pop =>
          refine pe_weak (pe_bm0 PySem.F.plainAttrs_list PySem.F.slot_list_pop PySem.F.type_list_pop (pop_ok (cA := cA) (W := W)) ho hb h4) fun σ H Q ⟨ρ, μ, env, N, F⟩ => ⟨ρ, μ, env, N, F.imp fun x H1 ⟨⟨ρ1, μ1, d, R1, rx, q⟩, ⟨ρ2, μ2, env2, N2, F2⟩⟩ => ⟨ty R1 rx q, F2 ρ2 H1 [] (List.prefix_refl _) (Ext.refl _) N2.R .nil⟩⟩
        all_goals cases h3
      | cons z zs =>
        have sy : starEach (z :: zs) X.env = (false, eval z X.env) :: starEach zs X.env := by
          cases es with
          | nil => exact ff h6
          | cons a r => exact ag_star (pb_of h6).1 zs X.env
        have hpl : (backTo cp (starEach zs X.env)).any (·.1) = false := by
          have z := st.1
          rw [sy] at z
          simpa [backTo] using z
        have few : ((backTo cp (starEach (z :: zs) X.env)).all (fun x => !x.1) && (backToKw cp (keywordEach [] X.env)).all (fun x => x.1.isSome) && decide ((z :: zs).length + ([] : List Keyword).length + (if ([] : List Keyword).isEmpty then 0 else 1) < 30)) = true := by
          rw [st.2]
          have : (z :: zs).length + ([] : List Keyword).length + (if ([] : List Keyword).isEmpty then 0 else 1) < 30 := by
            show (z :: zs).length + 0 + 0 < 30
            have : (z :: zs).length ≤ 1 := by cases m <;> (simp only [mtAr, Option.some.injEq, reduceCtorEq] at h3 <;> omega)
            omega
          rw [decide_eq_true this]
          rfl
        cases m
        case append => exact pe_weak (pe_bm PySem.F.plainAttrs_list PySem.F.slot_list_append PySem.F.type_list_append (append_ok (cA := cA) (W := W)) ho hes hb few h4 sy hpl) fun σ H Q ⟨ρ, μ, env, N, F⟩ => ⟨ρ, μ, env, N, F.imp fun x H1 ⟨⟨ρ1, μ1, d, R1, rx, q⟩, q2⟩ => ⟨ty R1 rx q, q2⟩⟩
        case extend => exact pe_weak (pe_bm PySem.F.plainAttrs_list PySem.F.slot_list_extend PySem.F.type_list_extend (extend_ok (cA := cA) (W := W)) ho hes hb few h4 sy hpl) fun σ H Q ⟨ρ, μ, env, N, F⟩ => ⟨ρ, μ, env, N, F.imp fun x H1 ⟨⟨ρ1, μ1, d, R1, rx, q⟩, q2⟩ => ⟨ty R1 rx q, q2⟩⟩
        case pop => exact pe_weak (pe_bm PySem.F.plainAttrs_list PySem.F.slot_list_pop PySem.F.type_list_pop (pop_ok (cA := cA) (W := W)) ho hes hb few h4 sy hpl) fun σ H Q ⟨ρ, μ, env, N, F⟩ => ⟨ρ, μ, env, N, F.imp fun x H1 ⟨⟨ρ1, μ1, d, R1, rx, q⟩, q2⟩ => ⟨ty R1 rx q, q2⟩⟩
        all_goals cases h3
    refine SimR.plain (pe_weak key fun σ H Q ⟨ρ, μ, env, N, F⟩ => ?_) rfl
    refine ⟨ρ, μ, env, N, (Fit.bind F).imp fun x H1 ⟨ρ1, d, μ1, p, e, R1, rx, F1⟩ => ?_⟩
    obtain ⟨c, F1⟩ := fit_if F1
    exact ⟨⟨ρ1, μ1, d, R1, rx, c⟩, ρ1, μ1, env, N.go p e R1, (Fit.bind F1).imp fun vs H2 ⟨ρ2, ds, μ2, p2, e2, R2, rs, F2⟩ => ⟨σ, ρ2, μ2, d, ds, R2, rx.mono p2 e2, rs, F2⟩⟩
  | .isin a t, cm, sc, e, X, W, G, tk, h => by
    cases e <;> try exact ff h
    rename_i g xs ks p
    cases g <;> try exact ff h
    rename_i x px
    cases ks with
    | cons _ _ => rcases xs with _ | ⟨y, _ | ⟨z, _ | _⟩⟩ <;> first | exact ff h | (cases z <;> exact ff h)
    | nil =>
    obtain ⟨y, tn, pt, rfl⟩ : ∃ y tn pt, xs = [y, .Name tn pt] := by
      rcases xs with _ | ⟨y, _ | ⟨z, _ | _⟩⟩ <;> first | exact ff h | (cases z <;> first | exact ff h | exact ⟨_, _, _, rfl⟩)
    obtain ⟨h1, h⟩ := pb_of h
    obtain ⟨h2, h⟩ := pb_of h
    obtain ⟨h3, h⟩ := pb_of h
    obtain ⟨h4, h5⟩ := pb_of h
    have hx := eq_of_beq h1
    subst hx
    have ht := eq_of_beq h3
    subst ht
    obtain ⟨g1, g2⟩ := G.blt h2
    obtain ⟨g3, g4⟩ := G.blt h4
    have ty : PE X (.Name (tyP t : Str) pt) (tC (.ty (tyP t))) := pe_bltn (u := .type (tyP t)) g3 g4 (by cases t <;> decide +kernel) rfl (by cases t <;> decide) (by cases t <;> decide)
    have ia := (simE a G tk h5).pe
    have sy := ag_star h5 [.Name (tyP t : Str) pt] X.env
    refine SimR.plain (pe_weak (pe_callB call_isi g1 g2 (by decide +kernel) (pa_cons ia (pa_cons ty pa_nil) sy) (by decide) (by decide) sy) fun σ H Q ⟨ρ, μ, env, N, F⟩ => ?_) rfl
    refine ⟨ρ, μ, env, N, (Fit.bind F).imp fun x H1 ⟨ρ1, d, μ1, p, e, R1, rx, F1⟩ => ?_⟩
    obtain ⟨b, eb, F1⟩ := fit_map F1
    obtain ⟨u, t1, t2⟩ := isTy_of R1 rx eb
    exact ⟨_, _, u, _, b, rfl, .ty _, t1, t2, fit_now F1 R1 (.bl _)⟩
  | .lc elt tg it tests own, cm, sc, e, X, W, G, tk, h => by
    cases e <;> try exact ff h
    rename_i el gs s p
    obtain ⟨⟨g, i, ifs, ia⟩, rfl⟩ : ∃ c, gs = [c] := by rcases gs with _ | ⟨c, _ | _⟩ <;> first | exact ff h | exact ⟨_, rfl⟩
    obtain ⟨h0, h⟩ := pb_of h
    obtain ⟨ha, h⟩ := pb_of h
    have ha : ia = 0 := of_decide_eq_true ha
    subst ha
    obtain ⟨h1, h⟩ := pb_of h
    obtain ⟨h2, h⟩ := pb_of h
    obtain ⟨h3, h⟩ := pb_of h
    obtain ⟨h4, h⟩ := pb_of h
    obtain ⟨h5, h6⟩ := pb_of h
    subst h0
    have hc := G.calm rfl
    have hcx := G.none_ rfl
    have nd : X.N.Nodup := by rw [G.hN]; exact G.nd
    have ok : BlkOk X.N X.env.scope s (ownP N own) := by rw [G.hN, G.hsc]; exact blkOk_by h2
    have hown : (ownP N own).map (·.2) = own := by unfold ownP; rw [List.map_map]; exact List.map_id' own
    have fs : ∀ x, foldedSetIterable i X.env x = pure x := fun x => agI_set h1 X.env x
    have st : ∀ (C : Addr) (cl : List (Str × Addr)) (x : Str), locB s x = true → L2.Loc (compEnvC s cl C X.env).scope x ∧ ((s.names.lookup x == some .cell) = true ∨ (compEnvC s cl C X.env).scope.names.lookup x = some .local) := fun C cl x hx => by
      have hsc : (compEnvC s cl C X.env).scope = relS s sc := by rw [← G.hsc]; rfl
      rw [hsc]
      unfold locB at hx
      split at hx
      · rename_i q
        have z := relS_own (sc := sc) q (by decide)
        exact ⟨.inl z, .inr z⟩
      · rename_i q
        have z := relS_own (sc := sc) q (by decide)
        exact ⟨.inr z, .inl (by rw [q]; rfl)⟩
      · cases hx
    refine SimR.plain (pe_weak (pe_lc (g := gM X.K tg) (tt := tG X.K cA W0 cx su rEq (evalTs par call cx tests)) (te := tE X.K cA W0 cx su (evalE par call cx elt)) hc nd (simI it G tk h1) ok
      (fun s' H C cl fp => pgM (X := X.blk s' H s (compEnvC s cl C X.env) fp) (N := N) G.hN G.nd (fun _ => hc) (st C cl) h3)
      (fun s' H C cl fp => simTs tests (G.blk s' H C cl fp) takes0 h5)
      (fun s' H C cl fp => (simE elt (G.blk s' H C cl fp) takes0 h6).pe) fs) fun σ H Q ⟨ρ, μ, env, N', F⟩ => ?_) rfl
    rw [hown]
    exact lc_read hcx h4 N' F
  | .xfld f, cm, sc, e, X, W, G, tk, h => by
    cases e <;> try exact ff h
    rename_i y g p
    cases y <;> try exact ff h
    rename_i n pn
    obtain ⟨h1, h⟩ := pb_of h
    obtain ⟨h2, h3⟩ := pb_of h
    have hg := eq_of_beq h1
    subst hg
    cases cx with
    | none => exact SimR.plain ⟨fun pins s σ H Q I ⟨ρ, μ, env, N, F⟩ => (show False from F).elim⟩ rfl
    | some xe =>
      have hj := G.suj xe rfl
      subst hj
      obtain ⟨X0, oe, pn', rfl, hz, hf, hn⟩ := G.sui xe rfl
      refine SimR.plain (pe_weak (pe_xf (G.cls.xf _ hn) (G.cls.no _ _ hn (by simpa using h2)) hz hf (slot_pe G h3)) fun σ H Q ⟨ρ, μ, env, N, F⟩ => ?_) rfl
      obtain ⟨⟨_, fs, c1, c2⟩, c3⟩ := N.C xe rfl
      obtain ⟨d, ed, F⟩ := fit_okO F
      obtain ⟨v, v1, v2⟩ := c2 f d ed
      exact ⟨_, c3, rfl, rfl, _, fs, v, rfl, c1, v1, fit_now F N.R v2⟩
  | .xis c, cm, sc, e, X, W, G, tk, h => by
    cases e <;> try exact ff h
    rename_i g xs ks p
    cases g <;> try exact ff h
    rename_i x px
    cases ks with
    | cons _ _ => rcases xs with _ | ⟨y, _ | ⟨z, _ | _⟩⟩ <;> first | exact ff h | (cases y <;> exact ff h) | (cases y <;> cases z <;> exact ff h)
    | nil =>
    obtain ⟨n, pn, cn, pc, rfl⟩ : ∃ n pn cn pc, xs = [.Name n pn, .Name cn pc] := by
      rcases xs with _ | ⟨y, _ | ⟨z, _ | _⟩⟩ <;> first | exact ff h | (cases y <;> first | exact ff h | (cases z <;> first | exact ff h | exact ⟨_, _, _, _, rfl⟩))
    obtain ⟨h1, h⟩ := pb_of h
    obtain ⟨h2, h⟩ := pb_of h
    obtain ⟨h3, h4⟩ := pb_of h
    have hx := eq_of_beq h1
    subst hx
    obtain ⟨g1, g2⟩ := G.blt h2
    cases cx with
    | none => exact SimR.plain ⟨fun pins s σ H Q I ⟨ρ, μ, env, N, F⟩ => (show False from F).elim⟩ rfl
    | some xe =>
      have hj := G.suj xe rfl
      subst hj
      obtain ⟨X0, oe, pn', rfl, hz, hf, hn⟩ := G.sui xe rfl
      obtain ⟨v, cv, v1, v2, v3⟩ := xc_pe G (p := pc) h3 hn
      refine SimR.plain (pe_weak (pe_callB (call_isX (G.cls.ex _ hn) hz hf) g1 g2 (by decide +kernel) (pa_cons (slot_pe G h4) (pa_cons v1 pa_nil)) (by decide) (by decide)) fun σ H Q ⟨ρ, μ, env, N, F⟩ => ?_) rfl
      obtain ⟨⟨_, fs, c1, c2⟩, c3⟩ := N.C xe rfl
      refine ⟨_, c3, v, cv, _, fs, rfl, v2, c1, v3, ?_⟩
      have e : isXC par ⟨xe.cls, []⟩ c = isXC par xe c := by cases c <;> rfl
      rw [e]
      exact fit_now F N.R (.bl _)
theorem simEs : ∀ (m : MEs) {cm : Bool} {sc : Scope} {e : List Expr} {X : Cx} {W : WX}, Gd S cA par call lv N sj cx su cm sc X → Takes X W → agEs S N sj cm sc m e = true → PA X e (tG X.K cA W cx su (Rvs X.K) (evalEs par call cx m))
  | .nil, cm, sc, e, X, W, G, tk, h => by
    cases e with
    | cons _ _ => exact ff h
    | nil => exact pa_weak pa_nil fun σ H Q ⟨ρ, μ, env, N, F⟩ => F ρ H [] (List.prefix_refl _) (Ext.refl _) N.R .nil
  | .cons a r, cm, sc, e, X, W, G, tk, h => by
    cases e with
    | nil => exact ff h
    | cons e es =>
      obtain ⟨h1, h2⟩ := pb_of h
      refine pa_weak (pa_cons (simE a G tk h1).pe (simEs r G tk h2) (ag_star h1 es X.env)) fun σ H Q ⟨ρ, μ, env, N, F⟩ => ?_
      exact ⟨ρ, μ, env, N, (Fit.bind F).imp fun x H1 ⟨ρ1, d, μ1, p, e, R1, rx, F1⟩ => ⟨ρ1, μ1, env, N.go p e R1, (Fit.bind F1).imp fun xs H2 ⟨ρ2, ds, μ2, p2, e2, R2, rs, F2⟩ => F2 ρ2 H2 _ (List.prefix_refl _) (Ext.refl _) R2 (.cons (rx.mono p2 e2) rs)⟩⟩
theorem simO : ∀ (m : MEs) {cm : Bool} {sc : Scope} {e : Option Expr} {X : Cx} {W : WX}, Gd S cA par call lv N sj cx su cm sc X → Takes X W → agO S N sj cm sc m e = true → PO X e (tG X.K cA W cx su rEq (evalO par call cx m))
  | .nil, cm, sc, e, X, W, G, tk, h => by
    cases e with
    | some _ => exact ff h
    | none => exact po_weak po_none fun σ H Q ⟨ρ, μ, env, N, F⟩ => F ρ H none (List.prefix_refl _) (Ext.refl _) N.R rfl
  | .cons a .nil, cm, sc, e, X, W, G, tk, h => by
    cases e with
    | none => exact ff h
    | some e =>
      refine po_weak (po_some (simE a G tk h).pe) fun σ H Q ⟨ρ, μ, env, N, F⟩ => ⟨ρ, μ, env, N, (Fit.bind F).imp fun x H1 ⟨ρ1, d, μ1, p, e, R1, rx, F1⟩ => ?_⟩
      split at F1
      · cases rx
        exact ⟨_, rfl, F1 ρ1 H1 _ (List.prefix_refl _) (Ext.refl _) R1 rfl⟩
      · exact (show False from F1).elim
  | .cons a (.cons _ _), cm, sc, e, X, W, G, tk, h => by cases e <;> exact ff h
theorem simTs : ∀ (m : MEs) {cm : Bool} {sc : Scope} {e : List Expr} {X : Cx} {W : WX}, Gd S cA par call lv N sj cx su cm sc X → Takes X W → agTs S N sj cm sc m e = true → PTs X e (tG X.K cA W cx su rEq (evalTs par call cx m))
  | .nil, cm, sc, e, X, W, G, tk, h => by
    cases e with
    | cons _ _ => exact ff h
    | nil => exact pts_weak pts_nil fun σ H Q ⟨ρ, μ, env, N, F⟩ => F ρ H true (List.prefix_refl _) (Ext.refl _) N.R rfl
  | .cons a .nil, cm, sc, e, X, W, G, tk, h => by
    rcases e with _ | ⟨e, _ | _⟩
    · exact ff h
    · refine pts_weak (pts_one (simE a G tk h).pt) fun σ H Q ⟨ρ, μ, env, N, F⟩ => ⟨ρ, μ, env, N, ?_⟩
      have e : evalTs par call cx (.cons a .nil) env μ = tstR (evalE par call cx a env μ) := by
        simp only [evalTs]
        unfold tstR
        cases evalE par call cx a env μ with
        | ok d μ1 =>
          show (match truM μ1 d with | some true => _ | some false => _ | none => _) = (match truM μ1 d with | some b => _ | none => _)
          cases truM μ1 d with
          | none => rfl
          | some b => cases b <;> rfl
        | exc x μ1 => rfl
        | stuck => rfl
      rw [e] at F
      exact F
    · exact ff h
  | .cons a (.cons _ _), cm, sc, e, X, W, G, tk, h => by rcases e with _ | ⟨e, _ | _⟩ <;> exact ff h
theorem simI : ∀ (m : MI) {cm : Bool} {sc : Scope} {g e : Expr} {X : Cx} {W : WX}, Gd S cA par call lv N sj cx su cm sc X → Takes X W → agI S N sj cm sc m g e = true → PI X g e (tG X.K cA W cx su (fun ρ H J it => JOk X.K ρ H J it) (evalI par call cx m))
  | .seq a, cm, sc, g, e, X, W, G, tk, h => by
    have ia := (simE a G tk h).pe
    refine pi_weak (pi_or (pi_list ia) (pi_tup ia)) fun σ H Q ⟨ρ, μ, env, N, F⟩ => ?_
    simp only [evalI] at F
    cases q : evalE par call cx a env μ with
    | stuck => rw [q] at F; exact (show False from F).elim
    | exc x μ1 => exact .inl ⟨ρ, μ, env, N, by rw [q] at F ⊢; exact F⟩
    | ok d μ1 =>
      rw [q] at F
      cases d with
      | tup ds =>
        refine .inr ⟨ρ, μ, env, N, ?_⟩
        rw [q]
        intro ρ1 H1 x p e R1 rx
        cases rx with
        | tup h1 h2 => exact ⟨_, rfl, ⟨_, h1⟩, F ρ1 H1 _ p e R1 (jok_tup h1 h2)⟩
      | loc l =>
        refine .inl ⟨ρ, μ, env, N, ?_⟩
        rw [q]
        have F : Fit X.K cA W σ (fun ρ H J it => JOk X.K ρ H J it) ρ H (match seqM μ1 (.loc l) with | some xs => .ok (.live l xs.length) μ1 | none => .stuck) Q := F
        split at F
        · rename_i xs qs
          intro ρ1 H1 x p e R1 rx
          obtain ⟨a', vs, rfl, r2, z⟩ := seq_of R1 rx qs
          rcases z with ⟨l', _, _, z⟩ | ⟨z, _⟩
          · cases rx with
            | loc ha => exact ⟨_, rfl, ⟨_, z⟩, F ρ1 H1 _ p e R1 (jok_live ha)⟩
          · cases z
        · exact (show False from F).elim
      | _ => exact (show False from F).elim
  | .rng1 a, cm, sc, g, e, X, W, G, tk, h => by
    cases e <;> try exact ff h
    rename_i f xs ks p
    cases f <;> try exact ff h
    rename_i x px
    obtain ⟨y, rfl⟩ : ∃ y, xs = [y] := by rcases xs with _ | ⟨y, _ | _⟩ <;> first | exact ff h | exact ⟨_, rfl⟩
    cases ks with
    | cons _ _ => exact ff h
    | nil =>
    obtain ⟨h1, h⟩ := pb_of h
    obtain ⟨h2, h3⟩ := pb_of h
    have hx := eq_of_beq h1
    subst hx
    obtain ⟨g1, g2⟩ := G.blt h2
    have sy := ag_star h3 [] X.env
    refine pi_weak (pi_range1 g1 g2 (pa_cons (simE a G tk h3).pe pa_nil sy) sy) fun σ H Q ⟨ρ, μ, env, N, F⟩ => ⟨ρ, μ, env, N, (Fit.bind F).imp fun x H1 ⟨ρ1, d, μ1, p, e, R1, rx, F1⟩ => ?_⟩
    split at F1
    · rename_i i
      cases rx
      by_cases c : i ≤ 1000000000 ∧ -1000000000 ≤ i
      · rw [if_pos c] at F1
        refine ⟨i, rfl, by omega, by omega, ?_⟩
        have j := jok_rng (K := X.K) (ρ := ρ1) (H := H1) 0 i
        have e : (i - 0).toNat = i.toNat := by omega
        rw [e] at j
        exact F1 ρ1 H1 _ (List.prefix_refl _) (Ext.refl _) R1 j
      · rw [if_neg c] at F1; exact (show False from F1).elim
    · exact (show False from F1).elim
  | .rng2 a b, cm, sc, g, e, X, W, G, tk, h => by
    cases e <;> try exact ff h
    rename_i f xs ks p
    cases f <;> try exact ff h
    rename_i x px
    obtain ⟨y, z, rfl⟩ : ∃ y z, xs = [y, z] := by rcases xs with _ | ⟨y, _ | ⟨z, _ | _⟩⟩ <;> first | exact ff h | exact ⟨_, _, rfl⟩
    cases ks with
    | cons _ _ => exact ff h
    | nil =>
    obtain ⟨h1, h⟩ := pb_of h
    obtain ⟨h2, h⟩ := pb_of h
    obtain ⟨h3, h4⟩ := pb_of h
    have hx := eq_of_beq h1
    subst hx
    obtain ⟨g1, g2⟩ := G.blt h2
    have sz := ag_star h4 [] X.env
    have sy := ag_star h3 [z] X.env
    refine pi_weak (pi_range2 g1 g2 (pa_cons (simE a G tk h3).pe (pa_cons (simE b G tk h4).pe pa_nil sz) sy) (by rw [sy, sz]; rfl) sz) fun σ H Q ⟨ρ, μ, env, N, F⟩ => ⟨ρ, μ, env, N, (Fit.bind F).imp fun x H1 ⟨ρ1, d, μ1, p, e, R1, rx, F1⟩ => ⟨ρ1, μ1, env, N.go p e R1, (Fit.bind F1).imp fun y H2 ⟨ρ2, d2, μ2, p2, e2, R2, ry, F2⟩ => ?_⟩⟩
    cases d with
    | int i =>
      cases d2 with
      | int j =>
        cases rx
        cases ry
        by_cases c : (i ≤ 1000000000 ∧ -1000000000 ≤ i) ∧ j ≤ 1000000000 ∧ -1000000000 ≤ j
        · have F2 : Fit X.K cA W σ (fun ρ H J it => JOk X.K ρ H J it) ρ2 H2 (if (i ≤ 1000000000 ∧ -1000000000 ≤ i) ∧ j ≤ 1000000000 ∧ -1000000000 ≤ j then .ok (.items (rngD i j)) μ2 else .stuck) Q := F2
          rw [if_pos c] at F2
          exact ⟨i, j, rfl, by omega, F2 ρ2 H2 _ (List.prefix_refl _) (Ext.refl _) R2 (jok_rng i j)⟩
        · have F2 : Fit X.K cA W σ (fun ρ H J it => JOk X.K ρ H J it) ρ2 H2 (if (i ≤ 1000000000 ∧ -1000000000 ≤ i) ∧ j ≤ 1000000000 ∧ -1000000000 ≤ j then .ok (.items (rngD i j)) μ2 else .stuck) Q := F2
          rw [if_neg c] at F2; exact (show False from F2).elim
      | _ => exact (show False from F2).elim
    | _ => exact (show False from F2).elim
  | .zip a b, cm, sc, g, e, X, W, G, tk, h => by
    cases g <;> try exact ff h
    rename_i el kk tp
    cases e <;> try exact ff h
    rename_i f xs ks p
    cases f <;> try exact ff h
    rename_i x px
    obtain ⟨y, z, rfl⟩ : ∃ y z, xs = [y, z] := by rcases xs with _ | ⟨y, _ | ⟨z, _ | _⟩⟩ <;> first | exact ff h | exact ⟨_, _, rfl⟩
    cases ks with
    | cons _ _ => exact ff h
    | nil =>
    obtain ⟨h1, h⟩ := pb_of h
    obtain ⟨h2, h⟩ := pb_of h
    obtain ⟨h3, h4⟩ := pb_of h
    have hx := eq_of_beq h1
    subst hx
    obtain ⟨g1, g2⟩ := G.blt h2
    have sz := ag_star h4 [] X.env
    have sy := ag_star h3 [z] X.env
    refine pi_weak (RZ.pi_zipA g1 g2 (pa_cons (simE a G tk h3).pe (pa_cons (simE b G tk h4).pe pa_nil sz) sy) sy (by rw [sz]; rfl)) fun σ H Q ⟨ρ, μ, env, N, F⟩ => ⟨ρ, μ, env, N, (Fit.bind F).imp fun x H1 ⟨ρ1, d, μ1, p, e, R1, rx, F1⟩ => ⟨ρ1, μ1, env, N.go p e R1, (Fit.bind F1).imp fun y H2 ⟨ρ2, d2, μ2, p2, e2, R2, ry, F2⟩ => ?_⟩⟩
    have rx2 := rx.mono p2 e2
    cases d with
    | tup xs =>
      cases d2 with
      | tup ys =>
        cases rx2 with
        | tup k1 k2 =>
          cases ry with
          | tup k3 k4 => exact ⟨_, _, _, _, rfl, .inr ⟨k1, k3, F2 ρ2 H2 _ (List.prefix_refl _) (Ext.refl _) R2 (jok_zipT k1 k2 k3 k4)⟩⟩
      | _ => exact (show False from F2).elim
    | loc l =>
      cases d2 with
      | loc m =>
        have F2 : Fit X.K cA W σ (fun ρ H J it => JOk X.K ρ H J it) ρ2 H2 (match seqM μ2 (.loc l), seqM μ2 (.loc m) with | some xs, some ys => .ok (.zipL l m (min xs.length ys.length)) μ2 | _, _ => .stuck) Q := F2
        split at F2
        · rename_i xs ys q1 q2
          obtain ⟨a1, vs, rfl, r3, z1⟩ := seq_of R2 rx2 q1
          obtain ⟨b1, ws, rfl, r4, z2⟩ := seq_of R2 ry q2
          rcases z1 with ⟨l1, _, _, z1⟩ | ⟨z1, _⟩
          · rcases z2 with ⟨l2, _, _, z2⟩ | ⟨z2, _⟩
            · cases rx2 with
              | loc ha =>
                cases ry with
                | loc hb => exact ⟨_, _, _, _, rfl, .inl ⟨z1, z2, F2 ρ2 H2 _ (List.prefix_refl _) (Ext.refl _) R2 (jok_zipL ha hb)⟩⟩
            · cases z2
          · cases z1
        · exact (show False from F2).elim
      | _ => exact (show False from F2).elim
    | _ => cases d2 <;> exact (show False from F2).elim
end
end
end Mn

/-! # Mini, tenth part: the statements -/
namespace Mn
open PySem PySem.Spec PyProof.Rows L2

/-- name = [..]: does the comprehension store by itself? -/
def swB (sc : Scope) : Expr → Expr → Bool
  | .Name y py, .ListComp _ _ s p => decide (sc.names.lookup y = some .local) && ((py.line == p.line) && !(s.names.any fun (n, k) => n == y && (k == .local || k == .cell)))
  | _, _ => false
def isTupE : Expr → Bool
  | .Tuple .. => true
  | _ => false
def isNameE : Expr → Bool
  | .Name .. => true
  | _ => false
def isCompE : Expr → Bool
  | .ListComp .. => true
  | _ => false
section
variable (S : Stat) (N : List Str)
def excB (sc : Scope) (c : Nat) (x : Str) : Bool := decide (S.cN[c]? = some x) && (glB sc x && !(x == ("__debug__" : Str)))
def tup2 : Expr → Option (Expr × Expr)
  | .Tuple [a, b] _ _ => some (a, b)
  | _ => none
def nameOf : Expr → Option (Str × Pos)
  | .Name x p => some (x, p)
  | _ => none
def subB (sj : Option Nat) (cm : Bool) (sc : Scope) (o i : ME) : Expr → Bool
  | .Subscript y z _ => notSlice z && (agE S N sj cm sc o y && agE S N sj cm sc i z)
  | _ => false
def parC (sj : Option Nat) (cm : Bool) (sc : Scope) (i j : Nat) (a b : ME) (x : Str) (px : Pos) (y : Str) (py : Pos) (v w : Expr) : Bool :=
  (agE S N sj cm sc a v && (agE S N sj cm sc b w && (decide (N[i]? = some x ∧ N[j]? = some y ∧ i ≠ j ∧ sc.names.lookup x = some .local ∧ sc.names.lookup y = some .local) &&
      ((px.line == py.line) && (!(x == y) && (!(foldedForSure 8 v && foldedForSure 8 w) && !(constantsAlone 8 v && constantsAlone 8 w)))))))
def parB (sj : Option Nat) (cm : Bool) (sc : Scope) (i j : Nat) (a b : ME) (g v : Expr) : Bool :=
  (tup2 g).any fun (a1, a2) => (tup2 v).any fun (v, w) => (nameOf a1).any fun (x, px) => (nameOf a2).any fun (y, py) => parC S N sj cm sc i j a b x px y py v w
def hdOf : List ExceptHandler → Option (Str × Option Str × List Stmt)
  | [.ExceptHandler (some (.Name x _)) nm (b0 :: su) _] => some (x, nm, b0 :: su)
  | _ => none
def nmB (sc : Scope) : Option Nat → Option Str → Bool
  | none, none => true
  | some i, some n => decide (N[i]? = some n ∧ sc.names.lookup n = some .local)
  | _, _ => false
mutual
def agS : Option Nat → Bool → Scope → MS → Stmt → Bool
  | sj, cm, sc, .asg t e, .Assign [g] v _ => agE S N sj cm sc e v && (agTg N (locB sc) sj cm t g && (!(isTupE g && isTupE v)))
  | sj, cm, sc, .asgS o i e, .Assign [g] v _ => agE S N sj cm sc e v && subB S N sj cm sc o i g
  | sj, cm, sc, .par i j a b, .Assign [g] v _ => cm && parB S N sj cm sc i j a b g v
  | sj, cm, sc, .aug i op e, .AugAssign (.Name x _) o v _ => opB op o && (agE S N sj cm sc e v && (decide (N[i]? = some x) && (locB sc x && !decide (sj = some i))))
  | sj, cm, sc, .expr e, .Expr v _ => agE S N sj cm sc e v && !isCompE v
  | sj, cm, sc, .ite t a b, .If c x y _ => agE S N sj cm sc t c && (agSs sj cm sc a x && agSs sj cm sc b y)
  | sj, cm, sc, .whl t b, .While c x [] _ => cm && (agE S N sj cm sc t c && agSs sj cm sc b x)
  | sj, cm, sc, .for t it b, .For g i x [] _ => cm && (agI S N sj cm sc it g i && (agTg N (locB sc) sj cm t g && agSs sj cm sc b x))
  | sj, cm, sc, .ret e, .Return (some v) _ => agE S N sj cm sc e v
  | sj, cm, sc, .ret0, .Return none _ => true
  | sj, cm, sc, .brk, .Break _ => true
  | sj, cm, sc, .cnt, .Continue _ => true
  | sj, cm, sc, .pass, .Pass _ => true
  | sj, cm, sc, .raise c es, .Raise (some (.Call (.Name x _) xs [] _)) none _ => cm && (excB S sc c x && agEs S N sj cm sc es xs)
  | sj, cm, sc, .try b c slot s, .Try body hs [] [] _ => cm && ((hdOf hs).any fun (x, nm, su) => xcB S sc c x && (nmB N sc slot nm && (agSs sj cm sc b body && agSs slot false sc s su)))
  | _, _, _, _, _ => false
def agSs : Option Nat → Bool → Scope → MSs → List Stmt → Bool
  | sj, cm, sc, .nil, [] => true
  | sj, cm, sc, .cons s r, x :: xs => agS sj cm sc s x && agSs sj cm sc r xs
  | _, _, _, _, _ => false
end
end

def FitS (K : PySem.W.Frag) (cA : CA) (W : WX) (cx : Option Exn) (su : Su) (ρ : List Addr) (H : Hp) (Z : Ends) (r : SR) : Prop := match r with
  | .nx env μ => ∀ ρ' σ' H', ρ <+: ρ' → Ext H H' → Now K cA cx su ρ' μ env σ' H' → Z.nx σ' H'
  | .br env μ => ∀ ρ' σ' H', ρ <+: ρ' → Ext H H' → Now K cA cx su ρ' μ env σ' H' → Z.bk σ' H'
  | .ct env μ => ∀ ρ' σ' H', ρ <+: ρ' → Ext H H' → Now K cA cx su ρ' μ env σ' H' → Z.ct σ' H'
  | .rt d μ => ∀ ρ' H' x, ρ <+: ρ' → Ext H H' → Rel K ρ' μ H' → Rv K ρ' H' x d → Z.rt x H'
  | .ex x env μ => ∀ ρ' σ' H' dd, ρ <+: ρ' → Ext H H' → Now K cA cx su ρ' μ env σ' H' → RX K cA ρ' H' dd x → W (.ref (cA.to x.cls)) (some dd) σ' H'
  | .stuck => False
def tS (K : PySem.W.Frag) (cA : CA) (W : WX) (cx : Option Exn) (su : Su) (m : Env' → Mem → SR) : TS := fun Z σ H => ∃ ρ μ env, Now K cA cx su ρ μ env σ H ∧ FitS K cA W cx su ρ H Z (m env μ)
def stG {α : Type} (r : R α) (env : Env') (k : α → Mem → SR) : SR := match r with
  | .ok d μ => k d μ
  | .exc x μ => .ex x env μ
  | .stuck => .stuck
theorem any_inv {α : Type} {o : Option α} {f : α → Bool} (h : o.any f = true) : ∃ a, o = some a ∧ f a = true := by
  cases o with
  | none => cases h
  | some a => exact ⟨a, rfl, h⟩
theorem tup2_inv {e a b : Expr} (h : tup2 e = some (a, b)) : ∃ k p, e = .Tuple [a, b] k p := by
  unfold tup2 at h
  split at h
  · cases h; exact ⟨_, _, rfl⟩
  · cases h
theorem nameOf_inv {e : Expr} {x : Str} {p : Pos} (h : nameOf e = some (x, p)) : e = .Name x p := by
  unfold nameOf at h
  split at h
  · cases h; rfl
  · cases h
theorem hdOf_inv {hs : List ExceptHandler} {x : Str} {nm : Option Str} {su : List Stmt} (h : hdOf hs = some (x, nm, su)) : ∃ px b0 bs hp, hs = [.ExceptHandler (some (.Name x px)) nm (b0 :: bs) hp] ∧ su = b0 :: bs := by
  unfold hdOf at h
  split at h
  · cases h; exact ⟨_, _, _, _, rfl, rfl⟩
  · cases h
theorem parC_inv {S : Stat} {N : List Str} {sj : Option Nat} {cm : Bool} {sc : Scope} {i j : Nat} {a b : ME} {x y : Str} {px py : Pos} {v w : Expr} (h : parC S N sj cm sc i j a b x px y py v w = true) :
    agE S N sj cm sc a v = true ∧ agE S N sj cm sc b w = true ∧ (N[i]? = some x ∧ N[j]? = some y ∧ i ≠ j ∧ sc.names.lookup x = some .local ∧ sc.names.lookup y = some .local) ∧
      (px.line == py.line) = true ∧ (x == y) = false ∧ (foldedForSure 8 v && foldedForSure 8 w) = false ∧ (constantsAlone 8 v && constantsAlone 8 w) = false := by
  unfold parC at h
  generalize foldedForSure 8 v = f1 at h ⊢
  generalize foldedForSure 8 w = f2 at h ⊢
  generalize constantsAlone 8 v = f3 at h ⊢
  generalize constantsAlone 8 w = f4 at h ⊢
  simp only [Bool.and_eq_true, decide_eq_true_eq] at h
  obtain ⟨h1, h2, h3, h4, h5, h6, h7⟩ := h
  refine ⟨h1, h2, h3, h4, ?_, ?_, ?_⟩
  · cases q : (x == y) <;> simp_all
  · cases f1 <;> cases f2 <;> simp_all
  · cases f3 <;> cases f4 <;> simp_all
theorem parB_inv {S : Stat} {N : List Str} {sj : Option Nat} {cm : Bool} {sc : Scope} {i j : Nat} {a b : ME} {g v : Expr} (h : parB S N sj cm sc i j a b g v = true) :
    ∃ x px y py kt pt v' w k2 pt2, g = .Tuple [.Name x px, .Name y py] kt pt ∧ v = .Tuple [v', w] k2 pt2 ∧ parC S N sj cm sc i j a b x px y py v' w = true := by
  unfold parB at h
  obtain ⟨⟨a1, a2⟩, q1, h⟩ := any_inv h
  obtain ⟨⟨v1, v2⟩, q2, h⟩ := any_inv h
  obtain ⟨⟨x1, p1⟩, q3, h⟩ := any_inv h
  obtain ⟨⟨x2, p2⟩, q4, h⟩ := any_inv h
  obtain ⟨_, _, rfl⟩ := tup2_inv q1
  obtain ⟨_, _, rfl⟩ := tup2_inv q2
  cases (nameOf_inv q3)
  cases (nameOf_inv q4)
  exact ⟨_, _, _, _, _, _, _, _, _, _, rfl, rfl, h⟩
theorem ps_weak {X : Cx} {e : Stmt} {t t' : TS} (h : PS X e t) (w : ∀ Z σ H, t' Z σ H → t Z σ H) : PS X e t' := ⟨fun pins s σ H Q I q => h.run pins s σ H Q I (w Q σ H q)⟩
theorem pss_weak {X : Cx} {e : List Stmt} {t t' : TS} (h : PSs X e t) (w : ∀ Z σ H, t' Z σ H → t Z σ H) : PSs X e t' := ⟨fun pins s σ H Q I q => h.run pins s σ H Q I (w Q σ H q)⟩

section
variable {K : PySem.W.Frag} {cA : CA} {W : WX} {cx : Option Exn} {su : Su} {ρ ρ' : List Addr} {μ : Mem} {env : Env'} {σ : L2.St} {H H' : Hp} {Z : Ends}
theorem FitS.step {r : SR} (p : ρ <+: ρ') (e : Ext H H') (h : FitS K cA W cx su ρ H Z r) : FitS K cA W cx su ρ' H' Z r := by
  cases r with
  | nx env μ => exact fun ρ2 σ2 H2 p2 e2 => h ρ2 σ2 H2 (p.trans p2) (e.trans e2)
  | br env μ => exact fun ρ2 σ2 H2 p2 e2 => h ρ2 σ2 H2 (p.trans p2) (e.trans e2)
  | ct env μ => exact fun ρ2 σ2 H2 p2 e2 => h ρ2 σ2 H2 (p.trans p2) (e.trans e2)
  | rt d μ => exact fun ρ2 H2 x p2 e2 => h ρ2 H2 x (p.trans p2) (e.trans e2)
  | ex x env μ => exact fun ρ2 σ2 H2 dd p2 e2 => h ρ2 σ2 H2 dd (p.trans p2) (e.trans e2)
  | stuck => exact h
theorem FitS.nx_ {r : SR} {Z' : Ends} (h : FitS K cA W cx su ρ H Z r) (hn : ∀ env μ, r = .nx env μ → FitS K cA W cx su ρ H Z' (.nx env μ)) (h2 : Z'.rt = Z.rt) (h3 : Z'.bk = Z.bk) (h4 : Z'.ct = Z.ct) : FitS K cA W cx su ρ H Z' r := by
  cases r with
  | nx env μ => exact hn env μ rfl
  | br env μ => intro a b c d e f; rw [h3]; exact h a b c d e f
  | ct env μ => intro a b c d e f; rw [h4]; exact h a b c d e f
  | rt d μ => intro a b c d e f g; rw [h2]; exact h a b c d e f g
  | ex x env μ => exact h
  | stuck => exact h
/-- an expression ahead -/
theorem fitS_bind {α β : Type} {rep : List Addr → Hp → β → α → Prop} {r : R α} {k : α → Mem → SR} (N : Now K cA cx su ρ μ env σ H)
    (h : FitS K cA W cx su ρ H Z (stG r env k)) :
    Fit K cA W σ rep ρ H r fun x H1 => ∃ ρ1 d1 μ1, ρ <+: ρ1 ∧ Ext H H1 ∧ Now K cA cx su ρ1 μ1 env σ H1 ∧ rep ρ1 H1 x d1 ∧ FitS K cA W cx su ρ1 H1 Z (k d1 μ1) := by
  cases r with
  | ok d μ1 => exact fun ρ1 H1 x p e R q => ⟨ρ1, d, μ1, p, e, N.go p e R, q, FitS.step p e h⟩
  | exc x μ1 => exact fun ρ1 H1 dd p e R q => h ρ1 σ H1 dd p e (N.go p e R) q
  | stuck => exact h
theorem fitS_nx (h : FitS K cA W cx su ρ H Z (.nx env μ)) (N : Now K cA cx su ρ μ env σ H) : Z.nx σ H := h ρ σ H (List.prefix_refl _) (Ext.refl _) N
theorem Now.set (N : Now K cA cx su ρ μ env σ H) {i : Nat} {v : V} {d : D} (r : Rv K ρ H v d) (hj : ∀ x, cx = some x → i ≠ su.j) : Now K cA cx su ρ μ (env.set i (some d)) (σ.set i (some v)) H :=
  ⟨N.R, N.E.set i r, fun x h => let ⟨a, b⟩ := N.C x h; ⟨a, by rw [List.getElem?_set_ne (hj x h)]; exact b⟩⟩
end
end Mn

/-! # Mini, eleventh part: a text's statements do what the mini statements do -/
namespace Mn
open PySem PySem.Spec PyProof.Rows L2

/-- C(e, ..) for an error's class: the reading -/
def tMkX (S : Stat) (cA : CA) (c : Nat) (ta : TA) : L2.St → Hp → XK → Prop := fun σ H Q => ta σ H fun vs H1 => ∃ fs w, S.cF[c]? = some fs ∧ S.cW[c]? = some w ∧ vs.length = fs.length ∧ ∀ d, H1 d = none → Q (.ref (cA.to c)) (some d) (upd H1 d (.xd (fs.zip vs ++ [(("word" : Str), V.str w)])))
/-- the class's call makes it -/
def MkOk (S : Stat) (cA : CA) (X : Cx) : Prop := ∀ (c : Nat) (x : Str) (es : List Expr) (p pos : Pos) (ta : TA), S.cN[c]? = some x → Gl X x → (x == ("__debug__" : Str)) = false → PA X es ta →
  (backTo pos (starEach es X.env)).any (·.1) = false → (∀ e r, es = e :: r → starEach (e :: r) X.env = (false, eval e X.env) :: starEach r X.env) → PMk X (.Call (.Name x p) es [] pos) (tMkX S cA c ta)
/-- what a statement's context has beside -/
structure Gs (S : Stat) (cA : CA) (sc : Scope) (cm : Bool) (X : Cx) : Prop where
  kind : sc.kind = .function
  fn : ∀ x, X.fn x = true
  hs : X.stack = X.env :: X.outer
  hf : X.env.frame = some X.env.locals
  po : cm = true → PassesOwn (model X.prog X.w) X.A X.env X.xe
  mkx : cm = true → ∀ (pn : List (Addr × Obj)) (xe : Value → Shared → Prop), MkOk S cA (X.tr pn xe)
  mk0 : cm = true → MkOk S cA X
theorem rx_mk {K : PySem.W.Frag} {cA : CA} {ρ : List Addr} {H : Hp} {vs : List V} {ds : List D} {fs : List Str} {w : Str} {c : Nat} {dd : Addr} (hc : c < cA.n) (r : Rvs K ρ H vs ds) (h : H dd = some (.xd (fs.zip vs ++ [(("word" : Str), V.str w)]))) :
    RX K cA ρ H dd ⟨c, fs.zip ds ++ [(("word" : Str), D.str w)]⟩ := by
  refine ⟨hc, _, h, ?_⟩
  dsimp only
  clear h
  induction fs generalizing vs ds with
  | nil =>
    intro f d q
    simp only [List.zip_nil_left, List.nil_append] at q ⊢
    rw [List.lookup_cons] at q ⊢
    split at q
    · cases q; exact ⟨_, rfl, .str w⟩
    · cases q
  | cons g gs ih =>
    intro f d q
    cases r with
    | nil =>
      simp only [List.zip_nil_right, List.nil_append] at q ⊢
      rw [List.lookup_cons] at q ⊢
      split at q
      · cases q; exact ⟨_, rfl, .str w⟩
      · cases q
    | cons r1 r2 =>
      simp only [List.zip_cons_cons, List.cons_append] at q ⊢
      rw [List.lookup_cons] at q ⊢
      split at q
      · cases q; exact ⟨_, rfl, r1⟩
      · exact ih r2 f d q

section
variable {S : Stat} {cA : CA} {par : Nat → Nat → Bool} {call : Nat → List D → Mem → R D} {lv : Nat} {N : List Str}
theorem Gd.tr {sj : Option Nat} {cx : Option Exn} {su : Su} {sc : Scope} {X : Cx} (G : Gd S cA par call lv N sj cx su true sc X) (pn : List (Addr × Obj)) (xe : Value → Shared → Prop) : Gd S cA par call lv N sj cx su true sc (X.tr pn xe) :=
  ⟨G.hN, G.nd, G.hsc, G.free, G.gints, G.cls, G.un, G.calm, G.room, fun h f d q => ⟨(G.calls h f d q).wrong, (G.calls h f d q).ok⟩, fun x h => (by rw [G.none_ rfl] at h; cases h), G.none_, G.suj⟩
theorem Gd.suite0 {sj : Option Nat} {cx : Option Exn} {su : Su} {sc : Scope} {X : Cx} (G : Gd S cA par call lv N sj cx su true sc X) (a : Addr) (pn : List (Addr × Obj)) : Gd S cA par call lv N none none su false sc (X.suite a pn) :=
  ⟨G.hN, G.nd, G.hsc, G.free, G.gints, G.cls, G.un, fun h => (by cases h), fun h => (by cases h), fun h => (by cases h), fun x h => (by cases h), fun h => (by cases h), fun x h => (by cases h)⟩
theorem Gd.suiteX {sj : Option Nat} {cx : Option Exn} {su : Su} {sc : Scope} {X : Cx} (G : Gd S cA par call lv N sj cx su true sc X) (j : Nat) (a dd : Addr) (oe : Obj) (pn : List (Addr × Obj)) (x : Exn) (hx : x.cls < cA.n) (hz : Zc (.ref (cA.to x.cls)) (some dd) oe) (hf : ∃ vs, oe.data = .fields vs) :
    Gd S cA par call lv N (some j) (some x) ⟨j, a, dd⟩ false sc (X.suite a ((a, oe) :: pn)) :=
  ⟨G.hN, G.nd, G.hsc, G.free, G.gints, G.cls, G.un, fun h => (by cases h), fun h => (by cases h), fun h => (by cases h), fun y h => (by cases h; exact ⟨X, oe, pn, rfl, hz, hf, hx⟩), fun h => (by cases h), fun y h => (by cases h; rfl)⟩
theorem Gs.tr {sc : Scope} {X : Cx} (G : Gs S cA sc true X) (pn : List (Addr × Obj)) (xe : Value → Shared → Prop) (po : PassesOwn (model X.prog X.w) X.A X.env xe) : Gs S cA sc true (X.tr pn xe) :=
  ⟨G.kind, G.fn, G.hs, G.hf, fun _ => po, fun h p x => G.mkx h p x, fun h => G.mkx h pn xe⟩
theorem Gs.suite {sc : Scope} {X : Cx} (G : Gs S cA sc true X) (a : Addr) (pn : List (Addr × Obj)) : Gs S cA sc false (X.suite a pn) :=
  ⟨G.kind, G.fn, G.hs, G.hf, fun h => (by cases h), fun h => (by cases h), fun h => (by cases h)⟩

theorem sw_plain {v : Expr} (h : isCompE v = false) {S : Stat} {N : List Str} {sj : Option Nat} {cm : Bool} {sc : Scope} {m : ME} (ha : agE S N sj cm sc m v = true) (t : Option Expr) (l : Nat) (env : Env) : swapsWith v t l env = pure false := by
  cases v <;> first | rfl | exact Bool.noConfusion h | (cases m <;> exact ff ha)
theorem ss_none {g v : Expr} (h : (isTupE g && isTupE v) = false) (hl : ∀ es p, g ≠ .List es p) (env : Env) : swappedStores [g] v env = pure none := by
  cases g <;> first | rfl | exact absurd rfl (hl _ _) | (cases v <;> first | rfl | exact Bool.noConfusion h)
theorem agTg_one {st : Str → Bool} {sj : Option Nat} {cm : Bool} {t : Tgt} {g : Expr} (h : agTg N st sj cm t g = true) (env : Env) : (∀ es p, g ≠ .List es p) ∧ (assignEach [g] env).map (·.2) = [assign g env] := by
  cases t <;> cases g <;> first | exact ff h | exact ⟨fun _ _ h => (by cases h), rfl⟩
/-- name = [..], stored as it always is -/
theorem sw_comp {sc : Scope} {g v : Expr} {env : Env} (hk : sc.kind = .function) (hsc : env.scope = sc) (h : swB sc g v = false) (hv : isCompE v = true) (hg : isNameE g = true ∨ isTupE g = true) (l : Nat) : swapsWith v (some g) l env = pure false := by
  subst hsc
  cases v <;> first | cases hv | skip
  rename_i elt gs s p
  cases g <;> first | (rcases hg with hg | hg <;> cases hg; done) | skip
  · rename_i y py
    unfold swapsWith
    have hb : env.blockKind = .function := by unfold Env.blockKind; rw [hk]; rfl
    have q : (env.kindOf y == some NameKind.local && (py.line == p.line) && !(s.names.any fun (n, k) => n == y && (k == .local || k == .cell))) = false := by
      unfold swB at h
      show (env.scope.names.lookup y == some NameKind.local && (py.line == p.line) && !(s.names.any fun (n, k) => n == y && (k == .local || k == .cell))) = false
      rw [Bool.and_assoc]
      have e : (env.scope.names.lookup y == some NameKind.local) = decide (env.scope.names.lookup y = some .local) := by rw [Bool.eq_iff_iff]; simp
      rw [e]
      exact h
    show (pure (env.blockKind == .function && env.kindOf y == some .local && py.line == p.line && !(s.names.any fun (n, k) => n == y && (k == .local || k == .cell))) : Sem Bool) = pure false
    have hb2 : (env.blockKind == ScopeKind.function) = true := by rw [hb]; rfl
    rw [hb2, Bool.true_and, q]
  · rfl

theorem stI_eq (r : R It) (env : Env') (k : It → Mem → SR) : r.stI env k = stG r env k := by cases r <;> rfl
theorem aug_ok {X : Cx} {W : WX} (op : Bop) : PIp X (bopP op) (rD2 X.K cA W (augD op)) := by
  intro pins s σ H x y v u Q I rx ry h
  obtain ⟨σ0, ρ, μ, dx, dy, R, hx, hy, h⟩ := h
  have stuck : ∀ {P : Prop}, Fit X.K cA W σ0 (Rv X.K) ρ H (Mn.R.stuck (α := D)) Q → P := fun z => (show False from z).elim
  cases op <;> cases dx <;> (try exact stuck h) <;> cases dy <;> (try exact stuck h)
  · cases hx; cases hy
    exact iop_add pins s σ H _ _ v u Q I rx ry ⟨_, _, rfl, rfl, fit_now h R (.int _)⟩
  · cases hx; cases hy
    obtain ⟨c, h⟩ := fit_if h
    exact iop_add_str pins s σ H _ _ v u Q I rx ry ⟨_, _, rfl, rfl, Nat.le_trans c lim_line, fit_now h R (.str _)⟩
  · cases hx; cases hy
    exact iop_sub pins s σ H _ _ v u Q I rx ry ⟨_, _, rfl, rfl, fit_now h R (.int _)⟩
  · cases hx; cases hy
    obtain ⟨c, h⟩ := fit_if h
    exact iop_mul pins s σ H _ _ v u Q I rx ry ⟨_, _, rfl, rfl, by
        rcases c with c | c
        · exact .inl (by omega)
        · exact .inr (by omega), fit_now h R (.int _)⟩
  · cases hx; cases hy
    obtain ⟨c, h⟩ := fit_if h
    exact iop_fdiv pins s σ H _ _ v u Q I rx ry ⟨_, _, rfl, rfl, c, fit_now h R (.int _)⟩
  · cases hx; cases hy
    obtain ⟨c, h⟩ := fit_if h
    exact iop_mod pins s σ H _ _ v u Q I rx ry ⟨_, _, rfl, rfl, c, fit_now h R (.int _)⟩
theorem setD_of {K : PySem.W.Frag} {ρ : List Addr} {H : Hp} {vs : List V} {ds es : List D} {k : Int} {v : V} {d : D} (r : Rvs K ρ H vs ds) (rv : Rv K ρ H v d) (h : setD ds k d = some es) : ∃ j, ixN vs.length k = some j ∧ Rvs K ρ H (vs.set j v) es := by
  unfold setD at h
  unfold ixN
  rw [r.length]
  by_cases h0 : 0 ≤ k ∧ k < ds.length
  · rw [if_pos h0] at h
    cases h
    exact ⟨k.toNat, by rw [if_pos h0.1, if_pos h0.2], Rvs.set rv _ r⟩
  · rw [if_neg h0] at h
    by_cases h1 : k < 0 ∧ -(ds.length : Int) ≤ k
    · rw [if_pos h1] at h
      cases h
      exact ⟨(k + ds.length).toNat, by rw [if_neg (by omega), if_pos h1.2], Rvs.set rv _ r⟩
    · rw [if_neg h1] at h; cases h
theorem not_le {cm : Bool} {sj : Option Nat} {cx : Option Exn} {su : Su} {sc : Scope} {X : Cx} (G : Gd S cA par call lv N sj cx su cm sc X) {i : Nat} (h : (!decide (sj = some i)) = true) : ∀ x, cx = some x → i ≠ su.j := fun x hx e => by
  have := G.suj x hx
  subst e
  rw [this] at h
  simp at h
/-- a row of plain names keeps the slot that stays -/
theorem agTg_keep {st : Str → Bool} {sj : Option Nat} {cm : Bool} : ∀ {t : Tgt} {g : Expr}, agTg N st sj cm t g = true → ∀ j, sj = some j → j ∉ t.slots := by
  intro t
  induction t with
  | slot i =>
    intro g h j hj
    cases g <;> try exact ff h
    obtain ⟨_, h⟩ := pb_of h
    obtain ⟨_, h⟩ := pb_of h
    subst hj
    simp only [Tgt.slots, List.mem_singleton]
    intro e
    subst e
    simp at h
  | nil => intro g h j hj; simp [Tgt.slots]
  | cons a r iha ihr =>
    intro g h j hj
    have key : ∀ {es : List Expr}, agTgs N st sj cm r es = true → j ∉ r.slots := fun {es} q => by
      cases r with
      | slot _ => cases es <;> exact ff q
      | nil => simp [Tgt.slots]
      | cons b c =>
        cases es with
        | nil => exact ff q
        | cons e es =>
          by_cases hc : cm = true
          · subst hc
            exact ihr (g := .Tuple (e :: es) 0 ⟨0, 0, 0, 0⟩) (by
              show (true && (agTg N st sj true b e && agTgs N st sj true c es)) = true
              rw [Bool.true_and]
              exact q) j hj
          · cases g <;> try exact ff h
            rename_i el _ _
            cases el with
            | nil => exact ff h
            | cons _ _ => exact absurd (pb_of h).1 hc
    cases g <;> try exact ff h
    rename_i el _ _
    cases el with
    | nil => exact ff h
    | cons e es =>
      obtain ⟨h1, h2⟩ := pb_of h
      obtain ⟨h2, h3⟩ := pb_of h2
      rw [Tgt.slots, List.mem_append, not_or]
      exact ⟨iha h2 j hj, key h3⟩
end
end Mn

/-! # Mini, twelfth part: the statements' theorem -/
namespace Mn
open PySem PySem.Spec PyProof.Rows L2

theorem ss_par {x y : Str} {px py pt : Pos} {kt k2 : Nat} {pt2 : Pos} {v w : Expr} {env : Env} (hk : env.scope.kind = .function) (hx : env.scope.names.lookup x = some .local) (hy : env.scope.names.lookup y = some .local) (hl : (px.line == py.line) = true) (hne : (x == y) = false)
    (h1 : (foldedForSure 8 v && foldedForSure 8 w) = false) (h2 : (constantsAlone 8 v && constantsAlone 8 w) = false) (s1 : ∀ e p, v ≠ .Starred e p) (s2 : ∀ e p, w ≠ .Starred e p) :
    swappedStores [.Tuple [.Name x px, .Name y py] kt pt] (.Tuple [v, w] k2 pt2) env = pure (some [x, y]) := by
  have hb : env.blockKind = .function := by unfold Env.blockKind; rw [hk]; rfl
  have kx : env.kindOf x = some .local := hx
  have ky : env.kindOf y = some .local := hy
  have hl' : (py.line == px.line) = true := by rw [beq_iff_eq] at hl ⊢; exact hl.symm
  have hxy : ¬ x = y := by simpa using hne
  unfold swappedStores
  simp only [List.length_cons, List.length_nil, hb]
  rw [if_neg (by decide)]
  have any0 : ∀ f : Expr → Bool, (∀ e, (∀ a p, e ≠ .Starred a p) → f e = false) → ([v, w].any f) = false := fun f hf => by
    simp only [List.any_cons, List.any_nil, hf v s1, hf w s2, Bool.or_false]
  rw [any0 _ (fun e he => by cases e <;> first | rfl | exact absurd rfl (he _ _))]
  rw [if_neg Bool.false_ne_true]
  have h1' : ([v, w].all (foldedForSure 8)) = false := by simpa using h1
  have h2' : ([v, w].all (constantsAlone 8)) = false := by simpa using h2
  have e1 : (env.kindOf x == some NameKind.local) = true := by rw [kx]; rfl
  have e2 : (env.kindOf y == some NameKind.local) = true := by rw [ky]; rfl
  have e3 : (px.line == px.line) = true := by simp
  have fm : ∀ f : Expr → Option Str, f (.Name x px) = some x → f (.Name y py) = some y → List.filterMap f [Expr.Name x px, Expr.Name y py] = [x, y] := fun f q1 q2 => by
    rw [List.filterMap_cons, q1, List.filterMap_cons, q2, List.filterMap_nil]
  rw [fm _ (by
      show (if (env.kindOf x == some NameKind.local && px.line == px.line) = true then some x else none) = some x
      rw [e1, e3]; rfl) (by
      show (if (env.kindOf y == some NameKind.local && py.line == px.line) = true then some y else none) = some y
      rw [e2, hl']; rfl)]
  have ed : [x, y].eraseDups = [x, y] := by simp [List.eraseDups_cons, hxy, Ne.symm hxy]
  rw [ed, h1', h2']
  rfl

section
variable {K : PySem.W.Frag} {cA : CA} {W : WX} {cx : Option Exn} {su : Su} {ρ : List Addr} {μ : Mem} {env : Env'} {σ : L2.St} {H : Hp} {Z : Ends}
theorem st_eq (r : R D) (env : Env') (k : D → Mem → SR) : r.st env k = stG r env k := by cases r <;> rfl
theorem sts_eq (r : R (List D)) (env : Env') (k : List D → Mem → SR) : r.sts env k = stG r env k := by cases r <;> rfl
/-- a test ahead -/
theorem st_test (r : R D) (env : Env') (f : D → Mem → SR) (a b : Mem → SR) (h1 : ∀ d μ, truM μ d = some true → f d μ = a μ) (h2 : ∀ d μ, truM μ d = some false → f d μ = b μ) (h3 : ∀ d μ, truM μ d = none → f d μ = .stuck) :
    r.st env f = stG (tstR r) env fun k μ => if k = true then a μ else b μ := by
  cases r with
  | ok d μ =>
    show f d μ = stG (match truM μ d with | some b => R.ok b μ | none => .stuck) env _
    cases q : truM μ d with
    | none => exact h3 d μ q
    | some c =>
      cases c with
      | true => exact h1 d μ q
      | false => exact h2 d μ q
  | exc x μ => rfl
  | stuck => rfl
end
section
variable {S : Stat} {cA : CA} {par : Nat → Nat → Bool} {call : Nat → List D → Mem → R D} {lv : Nat} {N : List Str}
variable {sj : Option Nat} {cm : Bool} {sc : Scope} {X : Cx} {W : WX} {cx : Option Exn} {su : Su}
theorem tgt_pg (G : Gd S cA par call lv N sj cx su cm sc X) (Gx : Gs S cA sc cm X) {t : Tgt} {g : Expr} (h : agTg N (locB sc) sj cm t g = true) : PG X g (gM X.K t) :=
  pgM G.hN G.nd G.calm (fun x hx => ⟨by rw [G.hsc]; exact loc_of hx, .inl (Gx.fn x)⟩) h
/-- the store of a value that has come -/
theorem tgt_go (G : Gd S cA par call lv N sj cx su cm sc X) {t : Tgt} {g : Expr} (h : agTg N (locB sc) sj cm t g = true) {ρ : List Addr} {μ : Mem} {env : Env'} {σ : L2.St} {H : Hp} {v : V} {d : D} (Nw : Now X.K cA cx su ρ μ env σ H) (r : Rv X.K ρ H v d)
    {k : Env' → SR} {Q : L2.St → Hp → Prop} {P : SR → Prop} (hk : P (match setT t d env with | some env => k env | none => .stuck)) (hs : ¬ P .stuck) (q : ∀ env' σ', Now X.K cA cx su ρ μ env' σ' H → P (k env') → Q σ' H) : gM X.K t v σ H Q := by
  cases hset : setT t d env with
  | none => rw [hset] at hk; exact absurd hk hs
  | some env' =>
    rw [hset] at hk
    exact ⟨ρ, d, env, env', r, Nw.E, hset, fun σ' E' l s => q env' σ' ⟨Nw.R, E', fun x hx => let ⟨a, b⟩ := Nw.C x hx; ⟨a, by rw [s _ (agTg_keep h su.j (G.suj x hx))]; exact b⟩⟩ hk⟩
theorem ag_notStar {m : ME} {e : Expr} (h : agE S N sj cm sc m e = true) : ∀ a p, e ≠ .Starred a p := fun a p q => by
  subst q
  cases m <;> exact ff h
theorem xc_names (G : Gd S cA par call lv N sj cx su cm sc X) {c : XC} {x : Str} (h : xcB S sc c x = true) : ∃ v, Names X x v ∧ ∀ y : Exn, y.cls < cA.n → PySem.W.exmOne X.K (.ref (cA.to y.cls)) v = some (isXC par y c) := by
  cases c with
  | own c =>
    obtain ⟨h1, h⟩ := pb_of h
    obtain ⟨h2, h3⟩ := pb_of h
    have h1 := of_decide_eq_true h1
    have hc : c < cA.n := by rw [← G.cls.len]; exact (List.getElem?_eq_some_iff.mp h1).1
    exact ⟨.ref (cA.to c), ⟨gl_of G.hsc h2, not_eq h3, .inl (G.cls.name c x h1)⟩, fun y hy => G.cls.exm _ _ hy hc⟩
  | ve =>
    obtain ⟨h1, h2⟩ := pb_of h
    have h1 := eq_of_beq h1
    subst h1
    obtain ⟨g1, g2⟩ := G.blt h2
    exact ⟨.type "ValueError", ⟨g1, by decide, .inr ⟨g2, by decide +kernel, by decide⟩⟩, fun y hy => G.cls.exv _ hy⟩

mutual
theorem simS : ∀ (m : MS) {sj : Option Nat} {cm : Bool} {sc : Scope} {st : Stmt} {X : Cx} {W : WX} {cx : Option Exn} {su : Su}, Gd S cA par call lv N sj cx su cm sc X → Gs S cA sc cm X → Takes X W → agS S N sj cm sc m st = true →
    PS X st (tS X.K cA W cx su (execS par (mkX S) call cx m))
  | .asg t e, sj, cm, sc, st, X, W, cx, su, G, Gx, tk, h => by
    cases st <;> try exact ff h
    rename_i tgs v p
    obtain ⟨g, rfl⟩ : ∃ g, tgs = [g] := by rcases tgs with _ | ⟨g, _ | _⟩ <;> first | exact ff h | exact ⟨_, rfl⟩
    obtain ⟨h1, h⟩ := pb_of h
    obtain ⟨h2, h3⟩ := pb_of h
    have h3 := not_eq h3
    obtain ⟨nl, as1⟩ := agTg_one h2 X.env
    have fin : ∀ {ρ : List Addr} {μ : Mem} {env : Env'} {σ : L2.St} {H : Hp} {Z : Ends} {x : V} {d : D}, Now X.K cA cx su ρ μ env σ H → Rv X.K ρ H x d → FitS X.K cA W cx su ρ H Z (match setT t d env with | some env => .nx env μ | none => .stuck) → gM X.K t x σ H Z.nx := fun {ρ μ env σ H Z x d} N1 r F =>
      tgt_go G h2 N1 r (k := fun env => .nx env μ) (P := fun r => FitS X.K cA W cx su ρ H Z r) F (fun z => z) fun env' σ' N2 F => fitS_nx F N2
    cases hsw : swB sc g v with
    | true =>
      obtain ⟨y, py, rfl⟩ : ∃ y py, g = .Name y py := by cases g <;> first | exact ⟨_, _, rfl⟩ | exact ff hsw
      obtain ⟨el, gs, s, lp, rfl⟩ : ∃ el gs s lp, v = .ListComp el gs s lp := by cases v <;> first | exact ⟨_, _, _, _, rfl⟩ | exact ff hsw
      have hsw' := of_decide_eq_true (pb_of hsw).1
      obtain ⟨hsw1, hsw2⟩ := pb_of (pb_of hsw).2
      cases e <;> try exact ff h1
      rename_i elt tg it tests own
      obtain ⟨i, rfl⟩ : ∃ i, t = .slot i := by cases t <;> first | exact ⟨_, rfl⟩ | exact ff h2
      obtain ⟨hN, h2'⟩ := pb_of h2
      have hN := of_decide_eq_true hN
      obtain ⟨⟨g, ie, ifs, ia⟩, rfl⟩ : ∃ c, gs = [c] := by rcases gs with _ | ⟨c, _ | _⟩ <;> first | exact ff h1 | exact ⟨_, rfl⟩
      obtain ⟨h0, h1⟩ := pb_of h1
      obtain ⟨ha, h1⟩ := pb_of h1
      have ha : ia = 0 := of_decide_eq_true ha
      obtain ⟨a1, h1⟩ := pb_of h1
      obtain ⟨a2, h1⟩ := pb_of h1
      obtain ⟨a3, h1⟩ := pb_of h1
      obtain ⟨a4, h1⟩ := pb_of h1
      obtain ⟨a5, a6⟩ := pb_of h1
      subst ha
      subst h0
      have hc := G.calm rfl
      have hcx := G.none_ rfl
      have nd : X.N.Nodup := by rw [G.hN]; exact G.nd
      have ok : BlkOk X.N X.env.scope s (ownP N own) := by rw [G.hN, G.hsc]; exact blkOk_by a2
      have hown : (ownP N own).map (·.2) = own := by unfold ownP; rw [List.map_map]; exact List.map_id' own
      have fs : ∀ x, foldedSetIterable ie X.env x = pure x := fun x => agI_set a1 X.env x
      have stt : ∀ (C : Addr) (cl : List (Str × Addr)) (x : Str), locB s x = true → L2.Loc (compEnvC s cl C X.env).scope x ∧ ((s.names.lookup x == some .cell) = true ∨ (compEnvC s cl C X.env).scope.names.lookup x = some .local) := fun C cl x hx => by
        have hsc : (compEnvC s cl C X.env).scope = relS s sc := by rw [← G.hsc]; rfl
        rw [hsc]
        unfold locB at hx
        split at hx
        · rename_i q
          have z := relS_own (sc := sc) q (by decide)
          exact ⟨.inl z, .inr z⟩
        · rename_i q
          have z := relS_own (sc := sc) q (by decide)
          exact ⟨.inr z, .inl (by rw [q]; rfl)⟩
        · cases hx
      have hyl : X.env.scope.names.lookup y = some .local := by rw [G.hsc]; exact hsw'
      refine ps_weak (ps_setLc (g := gM X.K tg) (tt := tG X.K cA W0 cx su rEq (evalTs par call cx tests)) (te := tE X.K cA W0 cx su (evalE par call cx elt)) hc nd (by rw [G.hN]; exact hN) hyl (sw_true (by rw [G.hsc]; exact Gx.kind) hyl hsw1 (not_eq hsw2)) (simI it G tk a1) ok
        (fun s' H C cl fp => pgM (X := X.blk s' H s (compEnvC s cl C X.env) fp) (N := N) G.hN G.nd (fun _ => hc) (stt C cl) a3)
        (fun s' H C cl fp => simTs tests (G.blk s' H C cl fp) takes0 a5)
        (fun s' H C cl fp => (simE elt (G.blk s' H C cl fp) takes0 a6).pe) fs) fun Z σ H ⟨ρ, μ, env, N', F⟩ => ?_
      show tLc _ _ _ _ _ σ H (fun x H1 => gName i x σ H1 Z.nx)
      rw [hown]
      simp only [execS, st_eq] at F
      have F2 := fitS_bind (rep := Rv X.K) N' F
      refine lc_read hcx a4 N' (F2.imp fun x H1 ⟨ρ1, d1, μ1, p, e, N1, r, F3⟩ => ?_)
      exact F3 ρ1 _ H1 (List.prefix_refl _) (Ext.refl _) (N1.set r (not_le G (pb_of h2').2))
    | false =>
      have hs : swapsWithSole [g] v p.line X.env = pure false := by
        show swapsWith v (some g) p.line X.env = pure false
        cases hcv : isCompE v with
        | false => exact sw_plain hcv h1 _ _ _
        | true =>
          refine sw_comp Gx.kind G.hsc hsw hcv ?_ _
          cases t <;> cases g <;> first | exact ff h2 | exact .inl rfl | exact .inr rfl
      refine ps_weak (ps_asg (simE e G tk h1).pe (tgt_pg G Gx h2) hs (ss_none h3 nl X.env) as1) fun Z σ H ⟨ρ, μ, env, N', F⟩ => ?_
      simp only [execS, st_eq] at F
      exact ⟨ρ, μ, env, N', (fitS_bind N' F).imp fun x H1 ⟨ρ1, d1, μ1, p, e, N1, r, F1⟩ => fin N1 r F1⟩
  | .asgS o i e, sj, cm, sc, st, X, W, cx, su, G, Gx, tk, h => by
    cases st <;> try exact ff h
    rename_i tgs v p
    obtain ⟨g, rfl⟩ : ∃ g, tgs = [g] := by rcases tgs with _ | ⟨g, _ | _⟩ <;> first | exact ff h | exact ⟨_, rfl⟩
    obtain ⟨h1, h⟩ := pb_of h
    obtain ⟨y, z, gp, rfl⟩ : ∃ y z gp, g = .Subscript y z gp := by cases g <;> first | exact ff h | exact ⟨_, _, _, rfl⟩
    obtain ⟨h4, h⟩ := pb_of h
    obtain ⟨h2, h3⟩ := pb_of h
    have hs : swapsWithSole [.Subscript y z gp] v p.line X.env = pure false := by
      show swapsWith v (some (.Subscript y z gp)) p.line X.env = pure false
      cases v <;> first | rfl | (cases e <;> exact ff h1)
    refine ps_weak (ps_asg (simE e G tk h1).pe (pg_sub (simE o G tk h2).pe (simE i G tk h3).pe set_list (by intro _; cases z <;> first | rfl | exact ff h4)) hs rfl rfl) fun Z σ H ⟨ρ, μ, env, N', F⟩ => ?_
    simp only [execS, st_eq] at F
    refine ⟨ρ, μ, env, N', (fitS_bind N' F).imp fun x H1 ⟨ρ1, d1, μ1, p1, e1, N1, r1, F1⟩ => ⟨ρ1, μ1, env, N1, (fitS_bind N1 F1).imp fun y H2 ⟨ρ2, d2, μ2, p2, e2, N2, r2, F2⟩ => ⟨ρ2, μ2, env, N2, (fitS_bind N2 F2).imp fun z H3 ⟨ρ3, d3, μ3, p3, e3, N3, r3, F3⟩ => ?_⟩⟩⟩
    have r1 := r1.mono (p2.trans p3) (e2.trans e3)
    have r2 := r2.mono p3 e3
    cases d2 with
    | loc l =>
      cases d3 with
      | int k =>
        have F3 : FitS X.K cA W cx su ρ3 H3 Z (match μ3[l]? with | some (.lst xs) => (match setD xs k d1 with | some ys => .nx env (μ3.set l (.lst ys)) | none => .stuck) | _ => .stuck) := F3
        split at F3
        · rename_i xs hl
          split at F3
          · rename_i ys hset
            obtain ⟨a, vs, rfl, ha, q1, q2⟩ := rv_lst N3.R r2 hl
            cases r3
            obtain ⟨j, j1, j2⟩ := setD_of q2 r1 hset
            exact ⟨a, vs, k, j, rfl, rfl, q1, j1, F3 ρ3 σ _ (List.prefix_refl _) (Ext.set q1) (N3.go (List.prefix_refl _) (Ext.set q1) (N3.R.write hl ha q1 j2))⟩
          · exact (show False from F3).elim
        · exact (show False from F3).elim
      | _ => exact (show False from F3).elim
    | _ => exact (show False from (by cases d3 <;> exact F3)).elim
  | .par i j a b, sj, cm, sc, st, X, W, cx, su, G, Gx, tk, h => by
    cases st <;> try exact ff h
    rename_i tgs v p
    obtain ⟨g, rfl⟩ : ∃ g, tgs = [g] := by rcases tgs with _ | ⟨g, _ | _⟩ <;> first | exact ff h | exact ⟨_, rfl⟩
    obtain ⟨h0, h⟩ := pb_of h
    obtain ⟨x, px, y, py, kt, pt, v, w, k2, pt2, rfl, rfl, h⟩ := parB_inv h
    obtain ⟨h1, h2, ⟨n1, n2, n3, n4, n5⟩, h4, h5, h6, h7⟩ := parC_inv h
    have hx : X.env.scope.names.lookup x = some .local := by rw [G.hsc]; exact n4
    have hy : X.env.scope.names.lookup y = some .local := by rw [G.hsc]; exact n5
    have sa := ag_star h1 [w] X.env
    have sb := ag_star h2 [] X.env
    have hcx : ∀ z, cx = some z → False := fun z hz => by
      subst h0
      rw [G.none_ rfl] at hz
      cases hz
    refine ps_weak (ps_par (G.calm h0) (by rw [G.hN]; exact G.nd) (by rw [G.hN]; exact n1) (by rw [G.hN]; exact n2) n3 hx hy (pa_cons (simE a G tk h1).pe (pa_cons (simE b G tk h2).pe pa_nil sb) sa)
      (ss_par (by rw [G.hsc]; exact Gx.kind) hx hy h4 h5 h6 h7 (ag_notStar h1) (ag_notStar h2)) rfl) fun Z σ H ⟨ρ, μ, env, N', F⟩ => ?_
    simp only [execS, st_eq] at F
    refine ⟨ρ, μ, env, N', (fitS_bind N' F).imp fun x H1 ⟨ρ1, d1, μ1, p1, e1, N1, r1, F1⟩ => ⟨ρ1, μ1, env, N1, (fitS_bind N1 F1).imp fun y H2 ⟨ρ2, d2, μ2, p2, e2, N2, r2, F2⟩ => ⟨x, y, rfl, ?_⟩⟩⟩
    exact F2 ρ2 _ H2 (List.prefix_refl _) (Ext.refl _) ((N2.set (r1.mono p2 e2) fun z hz => (hcx z hz).elim).set r2 fun z hz => (hcx z hz).elim)
  | .aug i op e, sj, cm, sc, st, X, W, cx, su, G, Gx, tk, h => by
    cases st <;> try exact ff h
    rename_i g o v p
    cases g <;> try exact ff h
    rename_i x px
    obtain ⟨h1, h⟩ := pb_of h
    obtain ⟨h2, h⟩ := pb_of h
    obtain ⟨h3, h⟩ := pb_of h
    obtain ⟨h4, h5⟩ := pb_of h
    cases (op_of h1)
    refine ps_weak (ps_aug (by rw [G.hN]; exact G.nd) (by rw [G.hN]; exact of_decide_eq_true h3) (by rw [G.hsc]; exact loc_of h4) (simE e G tk h2).pe (aug_ok (cA := cA) (W := W) op) (.inl (Gx.fn x))) fun Z σ H ⟨ρ, μ, env, N', F⟩ => ?_
    simp only [execS, st_eq] at F
    split at F
    · rename_i d q
      obtain ⟨w, w1, w2⟩ := N'.E.at_ i d q
      refine ⟨w, w1, ρ, μ, env, N', (fitS_bind N' F).imp fun y H1 ⟨ρ1, d1, μ1, p1, e1, N1, r1, F1⟩ => ⟨σ, ρ1, μ1, d, d1, N1.R, w2.mono p1 e1, r1, (fitS_bind N1 F1).imp fun z H2 ⟨ρ2, d2, μ2, p2, e2, N2, r2, F2⟩ => ?_⟩⟩
      exact F2 ρ2 _ H2 (List.prefix_refl _) (Ext.refl _) (N2.set r2 (not_le G h5))
    · exact (show False from F).elim
  | .expr e, sj, cm, sc, st, X, W, cx, su, G, Gx, tk, h => by
    cases st <;> try exact ff h
    obtain ⟨h1, h2⟩ := pb_of h
    refine ps_weak (ps_expr (simE e G tk h1).pe (sw_plain (not_eq h2) h1 _ _ _)) fun Z σ H ⟨ρ, μ, env, N', F⟩ => ?_
    simp only [execS, st_eq] at F
    exact ⟨ρ, μ, env, N', (fitS_bind N' F).imp fun x H1 ⟨ρ1, d1, μ1, p1, e1, N1, r1, F1⟩ => fitS_nx F1 N1⟩
  | .ite t a b, sj, cm, sc, st, X, W, cx, su, G, Gx, tk, h => by
    cases st <;> try exact ff h
    obtain ⟨h1, h⟩ := pb_of h
    obtain ⟨h2, h3⟩ := pb_of h
    refine ps_weak (ps_if (simE t G tk h1).pt (simSs a G Gx tk h2) (simSs b G Gx tk h3)) fun Z σ H ⟨ρ, μ, env, N', F⟩ => ?_
    simp only [execS] at F
    rw [st_test _ _ _ (fun μ => execSs par (mkX S) call cx a env μ) (fun μ => execSs par (mkX S) call cx b env μ) (fun d μ q => by rw [q]) (fun d μ q => by rw [q]) (fun d μ q => by rw [q])] at F
    refine ⟨ρ, μ, env, N', (fitS_bind N' F).imp fun c H1 ⟨ρ1, d1, μ1, p1, e1, N1, r1, F1⟩ => ?_⟩
    cases (show c = d1 from r1)
    cases c with
    | true => rw [if_pos rfl] at F1 ⊢; exact ⟨ρ1, μ1, env, N1, F1⟩
    | false => rw [if_neg Bool.false_ne_true] at F1 ⊢; exact ⟨ρ1, μ1, env, N1, F1⟩
  | .whl t b, sj, cm, sc, st, X, W, cx, su, G, Gx, tk, h => by
    cases st <;> try exact ff h
    rename_i c x oe p
    cases oe with
    | cons _ _ => exact ff h
    | nil =>
    obtain ⟨h0, h⟩ := pb_of h
    obtain ⟨h1, h2⟩ := pb_of h
    refine ps_weak (ps_while (Gx.po h0) (simE t G tk h1).pt (simSs b G Gx tk h2)) fun Z σ H ⟨ρ, μ, env, N', F⟩ => ?_
    simp only [execS] at F
    refine ⟨fun m σ H => ∃ ρ μ env, Now X.K cA cx su ρ μ env σ H ∧ FitS X.K cA W cx su ρ H Z (whlGo (evalE par call cx t) (execSs par (mkX S) call cx b) m env μ), ⟨WH, ρ, μ, env, N', F⟩, ?_⟩
    rintro m σ H ⟨ρ, μ, env, N', F⟩
    cases m with
    | zero => exact (show False from F).elim
    | succ m =>
      rw [whlGo, st_test _ _ _ (fun μ => (match execSs par (mkX S) call cx b env μ with
          | .nx env μ => whlGo (evalE par call cx t) (execSs par (mkX S) call cx b) m env μ
          | .ct env μ => whlGo (evalE par call cx t) (execSs par (mkX S) call cx b) m env μ
          | .br env μ => .nx env μ
          | .rt d μ => .rt d μ
          | .ex x env μ => .ex x env μ
          | .stuck => .stuck)) (fun μ => .nx env μ) (fun d μ q => by rw [q] <;> rfl) (fun d μ q => by rw [q]) (fun d μ q => by rw [q])] at F
      refine ⟨ρ, μ, env, N', (fitS_bind N' F).imp fun c H1 ⟨ρ1, d1, μ1, p1, e1, N1, r1, F1⟩ => ?_⟩
      cases (show c = d1 from r1)
      cases c with
      | false => rw [if_neg Bool.false_ne_true] at F1 ⊢; exact fitS_nx F1 N1
      | true =>
        rw [if_pos rfl] at F1 ⊢
        refine ⟨fun σ' H' => ∃ ρ μ env, Now X.K cA cx su ρ μ env σ' H' ∧ FitS X.K cA W cx su ρ H' Z (whlGo (evalE par call cx t) (execSs par (mkX S) call cx b) m env μ), fun σ' H' q => ⟨m, Nat.lt_succ_self m, q⟩, ρ1, μ1, env, N1, ?_⟩
        cases hb : execSs par (mkX S) call cx b env μ1 with
        | nx env' μ' => rw [hb] at F1; exact fun ρ2 σ2 H2 p e N2 => ⟨ρ2, μ', env', N2, FitS.step p e F1⟩
        | ct env' μ' => rw [hb] at F1; exact fun ρ2 σ2 H2 p e N2 => ⟨ρ2, μ', env', N2, FitS.step p e F1⟩
        | br env' μ' => rw [hb] at F1; exact F1
        | rt d μ' => rw [hb] at F1; exact F1
        | ex x env' μ' => rw [hb] at F1; exact F1
        | stuck => rw [hb] at F1; exact F1
  | .for t it b, sj, cm, sc, st, X, W, cx, su, G, Gx, tk, h => by
    cases st <;> try exact ff h
    rename_i g c x oe p
    cases oe with
    | cons _ _ => exact ff h
    | nil =>
    obtain ⟨h0, h⟩ := pb_of h
    obtain ⟨h1, h⟩ := pb_of h
    obtain ⟨h2, h3⟩ := pb_of h
    refine ps_weak (ps_for (Gx.po h0) (G.calm h0) (simI it G tk h1) (tgt_pg G Gx h2) (simSs b G Gx tk h3) (fun x => agI_set h1 X.env x)) fun Z σ H ⟨ρ, μ, env, N', F⟩ => ?_
    simp only [execS] at F
    rw [stI_eq] at F
    refine ⟨ρ, μ, env, N', (fitS_bind N' F).imp fun J H1 ⟨ρ1, w, μ1, p1, e1, N1, j, F1⟩ => ?_⟩
    refine ⟨fun i m σ H => ∃ ρ2 μ2 env, ρ1 <+: ρ2 ∧ Ext H1 H ∧ Now X.K cA cx su ρ2 μ2 env σ H ∧ FitS X.K cA W cx su ρ2 H Z (forGo w (fun d env μ => match setT t d env with
      | some env => execSs par (mkX S) call cx b env μ
      | none => .stuck) m i env μ2), ⟨w.fuel, ρ1, μ1, env, List.prefix_refl _, Ext.refl _, N1, F1⟩, ?_⟩
    rintro i m σ2 H2 ⟨ρ2, μ2, env2, p2, e2, N2, F2⟩
    have stop : w.at i μ2 = some none → FitS X.K cA W cx su ρ2 H2 Z (.nx env2 μ2) → J.stop i H2 ∧ Z.nx σ2 H2 := fun q F => ⟨j.stop i ρ2 μ2 H2 p2 e2 N2.R q, fitS_nx F N2⟩
    cases m with
    | zero =>
      rw [forGo] at F2
      split at F2
      · rename_i q
        exact .inl (stop q F2)
      · exact (show False from F2).elim
    | succ m =>
      rw [forGo] at F2
      split at F2
      · exact (show False from F2).elim
      · rename_i q
        exact .inl (stop q F2)
      · rename_i d q
        obtain ⟨g1, g2⟩ := j.go i ρ2 μ2 H2 d p2 e2 N2.R q
        refine .inr ⟨g1, fun σ' H' => ∃ ρ3 μ3 env3, ρ1 <+: ρ3 ∧ Ext H1 H' ∧ Now X.K cA cx su ρ3 μ3 env3 σ' H' ∧ FitS X.K cA W cx su ρ3 H' Z (forGo w (fun d env μ => match setT t d env with
          | some env => execSs par (mkX S) call cx b env μ
          | none => .stuck) m (i + 1) env3 μ3), fun σ' H' nx => ⟨m, Nat.lt_succ_self m, nx⟩, fun x H3 y => ?_⟩
        obtain ⟨e3, R3, rx⟩ := g2 x H3 y
        have N3 := N2.go (List.prefix_refl _) e3 R3
        have F3 := FitS.step (List.prefix_refl _) e3 F2
        refine tgt_go G h2 N3 rx (k := fun env => execSs par (mkX S) call cx b env μ2) (P := fun r => FitS X.K cA W cx su ρ2 H3 Z (match r with
          | .nx env μ => forGo w (fun d env μ => match setT t d env with
            | some env => execSs par (mkX S) call cx b env μ
            | none => .stuck) m (i + 1) env μ
          | .ct env μ => forGo w (fun d env μ => match setT t d env with
            | some env => execSs par (mkX S) call cx b env μ
            | none => .stuck) m (i + 1) env μ
          | .br env μ => .nx env μ
          | .rt d μ => .rt d μ
          | .ex x env μ => .ex x env μ
          | .stuck => .stuck)) F3 (fun z => z) fun env' σ' N4 F4 => ⟨ρ2, μ2, env', N4, ?_⟩
        cases hb : execSs par (mkX S) call cx b env' μ2 with
        | nx env5 μ' => rw [hb] at F4; exact fun ρ5 σ5 H5 p e N5 => ⟨ρ5, μ', env5, p2.trans p, e2.trans (e3.trans e), N5, FitS.step p e F4⟩
        | ct env5 μ' => rw [hb] at F4; exact fun ρ5 σ5 H5 p e N5 => ⟨ρ5, μ', env5, p2.trans p, e2.trans (e3.trans e), N5, FitS.step p e F4⟩
        | br env5 μ' => rw [hb] at F4; exact F4
        | rt d μ' => rw [hb] at F4; exact F4
        | ex x env5 μ' => rw [hb] at F4; exact F4
        | stuck => rw [hb] at F4; exact F4
  | .ret e, sj, cm, sc, st, X, W, cx, su, G, Gx, tk, h => by
    cases st <;> try exact ff h
    rename_i v p
    cases v with
    | none => exact ff h
    | some v =>
    refine ps_weak (ps_ret (simE e G tk h).pe) fun Z σ H ⟨ρ, μ, env, N', F⟩ => ?_
    simp only [execS, st_eq] at F
    exact ⟨ρ, μ, env, N', (fitS_bind N' F).imp fun x H1 ⟨ρ1, d1, μ1, p1, e1, N1, r1, F1⟩ => F1 ρ1 H1 x (List.prefix_refl _) (Ext.refl _) N1.R r1⟩
  | .ret0, sj, cm, sc, st, X, W, cx, su, G, Gx, tk, h => by
    cases st <;> try exact ff h
    rename_i v p
    cases v with
    | some _ => exact ff h
    | none => exact ps_weak ps_retN fun Z σ H ⟨ρ, μ, env, N', F⟩ => F ρ H .non (List.prefix_refl _) (Ext.refl _) N'.R .non
  | .brk, sj, cm, sc, st, X, W, cx, su, G, Gx, tk, h => by
    cases st <;> try exact ff h
    exact ps_weak ps_break fun Z σ H ⟨ρ, μ, env, N', F⟩ => F ρ σ H (List.prefix_refl _) (Ext.refl _) N'
  | .cnt, sj, cm, sc, st, X, W, cx, su, G, Gx, tk, h => by
    cases st <;> try exact ff h
    exact ps_weak ps_continue fun Z σ H ⟨ρ, μ, env, N', F⟩ => F ρ σ H (List.prefix_refl _) (Ext.refl _) N'
  | .pass, sj, cm, sc, st, X, W, cx, su, G, Gx, tk, h => by
    cases st <;> try exact ff h
    exact ps_weak ps_pass fun Z σ H ⟨ρ, μ, env, N', F⟩ => F ρ σ H (List.prefix_refl _) (Ext.refl _) N'
  | .raise c es, sj, cm, sc, st, X, W, cx, su, G, Gx, tk, h => by
    cases st <;> try exact ff h
    rename_i ex ca p
    cases ex with
    | none => exact ff h
    | some ex =>
    cases ex <;> try exact ff h
    rename_i f xs ks pc
    cases f <;> try exact ff h
    rename_i x px
    cases ks with
    | cons _ _ => cases ca <;> exact ff h
    | nil =>
    cases ca with
    | some _ => exact ff h
    | none =>
    obtain ⟨h0, h⟩ := pb_of h
    obtain ⟨h1, h2⟩ := pb_of h
    obtain ⟨c1, h1⟩ := pb_of h1
    obtain ⟨c2, c3⟩ := pb_of h1
    have c1 := of_decide_eq_true c1
    have hc : c < cA.n := by rw [← G.cls.len]; exact (List.getElem?_eq_some_iff.mp c1).1
    have st := ags_star h2 pc X.env
    refine ps_weak (ps_raise (G.calm h0) tk (Gx.mk0 h0 c x xs px pc _ c1 (gl_of G.hsc c2) (not_eq c3) (simEs es G tk h2) st.1 (fun e r q => by
      subst q
      cases es with
      | nil => exact ff h2
      | cons a r' => exact ag_star (pb_of h2).1 r X.env))) fun Z σ H ⟨ρ, μ, env, N', F⟩ => ?_
    simp only [execS, sts_eq] at F
    refine ⟨ρ, μ, env, N', (fitS_bind N' F).imp fun vs H1 ⟨ρ1, ds, μ1, p1, e1, N1, r1, F1⟩ => ?_⟩
    unfold mkX at F1
    split at F1
    · rename_i y q
      split at q
      · rename_i fs w q1 q2
        split at q
        · rename_i hl
          cases q
          exact ⟨fs, w, q1, q2, by rw [r1.length]; exact hl, fun d hd => F1 ρ1 σ _ d (List.prefix_refl _) (Ext.new hd) (N1.go (List.prefix_refl _) (Ext.new hd) (N1.R.other hd)) (rx_mk hc (r1.mono (List.prefix_refl _) (Ext.new hd)) upd_same)⟩
        · cases q
      · cases q
    · exact (show False from F1).elim
  | .try b c slot s, sj, cm, sc, st, X, W, cx, su, G, Gx, tk, h => by
    cases st <;> try exact ff h
    rename_i body hs oe fb p
    cases oe with
    | cons _ _ => exact ff h
    | nil =>
    cases fb with
    | cons _ _ => exact ff h
    | nil =>
    obtain ⟨h0, h⟩ := pb_of h
    obtain ⟨⟨x, nm, su'⟩, q, h⟩ := any_inv h
    obtain ⟨px, b0, bs, hp, rfl, rfl⟩ := hdOf_inv q
    obtain ⟨h1, h⟩ := pb_of h
    obtain ⟨h4, h⟩ := pb_of h
    obtain ⟨h2, h3⟩ := pb_of h
    cases slot with
    | none =>
      cases nm with
      | some _ => exact ff h4
      | none =>
      subst h0
      obtain ⟨cv, nmC, exm⟩ := xc_names G h1
      have hcx := G.none_ rfl
      refine ps_weak (ps_try_only (tb := fun W => tS X.K cA W cx su (execSs par (mkX S) call cx b)) (ts := fun a cls d => tS X.K cA W0 none su (execSs par (mkX S) call none s)) Gx.hs Gx.hf nmC tk
        (fun W' pn xe tk' po => simSs b (G.tr pn xe) (Gx.tr pn xe po) tk' h2)
        (fun a oe cls d pn hz hf => simSs s (G.suite0 a ((a, oe) :: pn)) (Gx.suite a ((a, oe) :: pn)) takes0 h3)) fun Z σ H ⟨ρ, μ, env, N', F⟩ => ?_
      simp only [execS] at F
      refine ⟨ρ, μ, env, N', ?_⟩
      cases hb : execSs par (mkX S) call cx b env μ with
      | nx env' μ' => rw [hb] at F; exact F
      | ct env' μ' => rw [hb] at F; exact F
      | br env' μ' => rw [hb] at F; exact F
      | rt d μ' => rw [hb] at F; exact F
      | stuck => rw [hb] at F; exact F
      | ex y env' μ' =>
        rw [hb] at F
        intro ρ1 σ1 H1 dd p1 e1 N1 rx
        refine ⟨isXC par y c, exm y rx.1, fun q a ha => ?_, fun q => ?_⟩
        · dsimp only at F
          rw [if_pos q] at F
          refine ⟨ρ1, μ', env', ⟨N1.R, N1.E, fun x h => by cases h⟩, ?_⟩
          have up : ∀ {ρ2 : List Addr} {μ2 : Mem} {env2 : Env'} {σ2 : L2.St} {H2 : Hp}, Now X.K cA none su ρ2 μ2 env2 σ2 H2 → Now X.K cA cx su ρ2 μ2 env2 σ2 H2 := fun N2 => ⟨N2.R, N2.E, fun x h => by rw [hcx] at h; cases h⟩
          cases hs : execSs par (mkX S) call none s env' μ' with
          | nx env2 μ2 => rw [hs] at F; exact fun ρ2 σ2 H2 p2 e2 N2 => F ρ2 σ2 H2 (p1.trans p2) (e1.trans e2) (up N2)
          | ct env2 μ2 => rw [hs] at F; exact fun ρ2 σ2 H2 p2 e2 N2 => F ρ2 σ2 H2 (p1.trans p2) (e1.trans e2) (up N2)
          | br env2 μ2 => rw [hs] at F; exact fun ρ2 σ2 H2 p2 e2 N2 => F ρ2 σ2 H2 (p1.trans p2) (e1.trans e2) (up N2)
          | rt d μ2 => rw [hs] at F; exact fun ρ2 H2 x p2 e2 => F ρ2 H2 x (p1.trans p2) (e1.trans e2)
          | ex z env2 μ2 => rw [hs] at F; exact (show False from F).elim
          | stuck => rw [hs] at F; exact F
        · dsimp only at F
          rw [if_neg (by rw [q]; exact Bool.false_ne_true)] at F
          exact F ρ1 σ1 H1 dd p1 e1 N1 rx
    | some i =>
      cases nm with
      | none => exact ff h4
      | some n =>
      obtain ⟨n1, n2⟩ := of_decide_eq_true h4
      subst h0
      obtain ⟨cv, nmC, exm⟩ := xc_names G h1
      have hcx := G.none_ rfl
      refine ps_weak (ps_try_as (i := i) (tb := fun W => tS X.K cA W cx su (execSs par (mkX S) call cx b))
        (ts := fun a cls d => fun Z σ H => ∃ (y : Exn) (dd : Addr), cls = .ref (cA.to y.cls) ∧ d = some dd ∧ y.cls < cA.n ∧ (i < σ.length → tS X.K cA W0 (some y) ⟨i, a, dd⟩ (execSs par (mkX S) call (some y) s) Z σ H)) Gx.hs Gx.hf (by rw [G.hN]; exact G.nd) (by rw [G.hN]; exact n1) (by show X.env.scope.names.lookup n = some .local; rw [G.hsc]; exact n2) nmC tk
        (fun W' pn xe tk' po => simSs b (G.tr pn xe) (Gx.tr pn xe po) tk' h2)
        (fun a oe cls d pn hz hf => ⟨fun pins s' σ H Z I ⟨y, dd, e1, e2, hy, q⟩ => by
          subst e1
          subst e2
          exact (simSs s (G.suiteX i a dd oe pn y hy hz hf) (Gx.suite a ((a, oe) :: pn)) takes0 h3).run pins s' σ H Z I (q (by rw [I.len]; exact (List.getElem?_eq_some_iff.mp (show (X.N)[i]? = some n by rw [G.hN]; exact n1)).1))⟩)) fun Z σ H ⟨ρ, μ, env, N', F⟩ => ?_
      simp only [execS] at F
      refine ⟨ρ, μ, env, N', ?_⟩
      cases hb : execSs par (mkX S) call cx b env μ with
      | nx env' μ' => rw [hb] at F; exact F
      | ct env' μ' => rw [hb] at F; exact F
      | br env' μ' => rw [hb] at F; exact F
      | rt d μ' => rw [hb] at F; exact F
      | stuck => rw [hb] at F; exact F
      | ex y env' μ' =>
        rw [hb] at F
        intro ρ1 σ1 H1 dd p1 e1 N1 rx
        refine ⟨isXC par y c, exm y rx.1, fun q a ha => ?_, fun q => ?_⟩
        · dsimp only at F
          rw [if_pos q] at F
          refine ⟨y, dd, rfl, rfl, rx.1, fun hlt => ⟨ρ1, μ', env'.set i none, ⟨N1.R, N1.E.forget i _, fun z hz => ?_⟩, ?_⟩⟩
          · cases hz
            refine ⟨rx, ?_⟩
            exact List.getElem?_set_self (by simpa using hlt)
          have up : ∀ {ρ2 : List Addr} {μ2 : Mem} {env2 : Env'} {σ2 : L2.St} {H2 : Hp}, Now X.K cA (some y) ⟨i, a, dd⟩ ρ2 μ2 env2 σ2 H2 → Now X.K cA cx su ρ2 μ2 (env2.set i none) (σ2.set i none) H2 := fun N2 => ⟨N2.R, N2.E.forget i none, fun x h => by rw [hcx] at h; cases h⟩
          cases hs : execSs par (mkX S) call (some y) s (env'.set i none) μ' with
          | nx env2 μ2 => rw [hs] at F; exact fun ρ2 σ2 H2 p2 e2 N2 => F ρ2 _ H2 (p1.trans p2) (e1.trans e2) (up N2)
          | ct env2 μ2 => rw [hs] at F; exact fun ρ2 σ2 H2 p2 e2 N2 => F ρ2 _ H2 (p1.trans p2) (e1.trans e2) (up N2)
          | br env2 μ2 => rw [hs] at F; exact fun ρ2 σ2 H2 p2 e2 N2 => F ρ2 _ H2 (p1.trans p2) (e1.trans e2) (up N2)
          | rt d μ2 => rw [hs] at F; exact fun ρ2 H2 x p2 e2 => F ρ2 H2 x (p1.trans p2) (e1.trans e2)
          | ex z env2 μ2 => rw [hs] at F; exact (show False from F).elim
          | stuck => rw [hs] at F; exact F
        · dsimp only at F
          rw [if_neg (by rw [q]; exact Bool.false_ne_true)] at F
          exact F ρ1 σ1 H1 dd p1 e1 N1 rx
theorem simSs : ∀ (m : MSs) {sj : Option Nat} {cm : Bool} {sc : Scope} {st : List Stmt} {X : Cx} {W : WX} {cx : Option Exn} {su : Su}, Gd S cA par call lv N sj cx su cm sc X → Gs S cA sc cm X → Takes X W → agSs S N sj cm sc m st = true →
    PSs X st (tS X.K cA W cx su (execSs par (mkX S) call cx m))
  | .nil, sj, cm, sc, st, X, W, cx, su, G, Gx, tk, h => by
    cases st with
    | cons _ _ => exact ff h
    | nil => exact pss_weak pss_nil fun Z σ H ⟨ρ, μ, env, N', F⟩ => fitS_nx F N'
  | .cons s r, sj, cm, sc, st, X, W, cx, su, G, Gx, tk, h => by
    cases st with
    | nil => exact ff h
    | cons a as =>
      obtain ⟨h1, h2⟩ := pb_of h
      refine pss_weak (pss_cons (simS s G Gx tk h1) (simSs r G Gx tk h2)) fun Z σ H ⟨ρ, μ, env, N', F⟩ => ⟨ρ, μ, env, N', ?_⟩
      simp only [execSs] at F
      cases hb : execS par (mkX S) call cx s env μ with
      | nx env' μ' => rw [hb] at F; exact fun ρ1 σ1 H1 p e N1 => ⟨ρ1, μ', env', N1, FitS.step p e F⟩
      | ct env' μ' => rw [hb] at F; exact F
      | br env' μ' => rw [hb] at F; exact F
      | rt d μ' => rw [hb] at F; exact F
      | ex x env' μ' => rw [hb] at F; exact F
      | stuck => rw [hb] at F; exact F
end
end
end Mn

/-! # Mini, thirteenth part: the text's defs do what the mini defs do -/
namespace Mn
open PySem PySem.Spec PyProof.Rows L2

theorem RX.cut {K : PySem.W.Frag} {cA : CA} {ρ : List Addr} {H : Hp} {dd : Addr} {x : Exn} {n : Nat} (r : RX K cA ρ H dd x) (h : x.under n = true) : RX K cA (ρ.take n) H dd x := by
  obtain ⟨c, fs, h1, h2⟩ := r
  refine ⟨c, fs, h1, fun f d q => ?_⟩
  obtain ⟨v, a, b⟩ := h2 f d q
  have hm : (f, d) ∈ x.fs := PySem.mem_of_lookup q
  exact ⟨v, a, b.cut (List.all_eq_true.mp h _ hm)⟩
theorem pre_take {ρ ρ' : List Addr} {n : Nat} (p : ρ <+: ρ') (h : ρ.length = n) : ρ <+: ρ'.take n := by
  obtain ⟨t, rfl⟩ := p
  subst h
  rw [List.take_left]
  exact List.prefix_refl _
theorem start_rel {K : PySem.W.Frag} {ρ : List Addr} {H : Hp} {vs : List V} {ds : List D} (r : Rvs K ρ H vs ds) (d : MDef) : RelE K ρ H (L2.start d.names vs) (startD d ds) := by
  have hl := r.length
  refine ⟨by simp [L2.start, startD, hl], fun i e q => ?_⟩
  unfold startD at q
  unfold L2.start
  by_cases hi : i < ds.length
  · rw [List.getElem?_append_left (by simpa using hi), List.getElem?_map] at q
    cases hx : ds[i]? with
    | none => rw [hx] at q; cases q
    | some d' =>
      rw [hx] at q
      cases q
      obtain ⟨v, h1, h2⟩ := r.get hx
      refine ⟨v, ?_, h2⟩
      rw [List.getElem?_append_left (by rw [List.length_map, hl]; exact hi), List.getElem?_map, h1]
      rfl
  · rw [List.getElem?_append_right (by simpa using hi), List.getElem?_replicate] at q
    split at q <;> cases q
/-- a body's end, the call's -/
theorem leave_fit {K : PySem.W.Frag} {cA : CA} {ρ : List Addr} {μ : Mem} {H : Hp} {r : SR} {Q : VK} {E : XK} {su : Su} (R : Rel K ρ μ H) (h : Fit K cA (fun c d _ H => E c d H) [] (Rv K) ρ H (leave μ.length r) Q) :
    FitS K cA (fun c d _ H => E c d H) none su ρ H { nx := fun _ H' => Q .non H', rt := Q } r := by
  have hl := R.len
  cases r with
  | nx env μ' =>
    intro ρ' σ' H' p e N
    have h : Fit K cA (fun c d _ H => E c d H) [] (Rv K) ρ H (if Mem.under μ.length (μ'.take μ.length) = true then .ok .non (μ'.take μ.length) else .ok .non μ') Q := h
    split at h
    · rename_i q
      exact h (ρ'.take μ.length) H' .non (pre_take p hl) e (N.R.cut q) .non
    · exact h ρ' H' .non p e N.R .non
  | br env μ' => exact (show False from h).elim
  | ct env μ' => exact (show False from h).elim
  | rt d μ' =>
    intro ρ' H' x p e R' rv
    have h : Fit K cA (fun c d _ H => E c d H) [] (Rv K) ρ H (if (d.under μ.length && Mem.under μ.length (μ'.take μ.length)) = true then .ok d (μ'.take μ.length) else .ok d μ') Q := h
    split at h
    · rename_i q
      obtain ⟨q1, q2⟩ := pb_of q
      exact h (ρ'.take μ.length) H' x (pre_take p hl) e (R'.cut q2) (rv.cut q1)
    · exact h ρ' H' x p e R' rv
  | ex x env μ' =>
    intro ρ' σ' H' dd p e N rx
    have h : Fit K cA (fun c d _ H => E c d H) [] (Rv K) ρ H (if (x.under μ.length && Mem.under μ.length (μ'.take μ.length)) = true then .exc x (μ'.take μ.length) else .exc x μ') Q := h
    split at h
    · rename_i q
      obtain ⟨q1, q2⟩ := pb_of q
      exact h (ρ'.take μ.length) H' dd (pre_take p hl) e (N.R.cut q2) (rx.cut q1)
    · exact h ρ' H' dd p e N.R rx
  | stuck => exact (show False from h).elim

/-- what a text says of one of its defs -/
structure DefOk (S : Stat) (K : PySem.W.Frag) (mg : Str → Option Value) (d : MDef) : Prop where
  ex : ∃ (x qual : Str) (pa : Arguments) (bd : List Stmt) (sc : Scope) (f : Addr) (fd : FuncData), mg d.name = some (.ref f) ∧ FunD K x qual pa bd sc [] [] f fd ∧ (∀ (s : Shared) (us : List Value), us.length = d.params.length → BindsTo s fd ⟨us, []⟩ (d.params.zip us)) ∧ FnScope d.names d.params sc ∧ agSs S d.names none true sc d.body bd = true
/-- what a text says beside -/
structure TxtOk (S : Stat) (cA : CA) (par : Nat → Nat → Bool) (P : Program) (w : World) (K : PySem.W.Frag) (mg : Str → Option Value) (c : Nat) : Prop where
  free : ∀ x, S.bl.contains x = true → mg x = none
  gints : ∀ x i, S.gi.contains (x, i) = true → ∃ t, mg x = some (.int i t)
  cls : ClsF S cA par K mg
  defs : ∀ i d, S.T i = some d → DefOk S K mg d
  make : ∀ X : Cx, X.prog = P → X.w = w → X.K = K → X.mg = mg → X.calm = true → Room c X.A → MkOk S cA X
theorem callN_wrong {par : Nat → Nat → Bool} {mk : Nat → List D → Option Exn} {T : Nat → Option MDef} {f : Nat} {d : MDef} (h : T f = some d) (n : Nat) (ds : List D) (μ : Mem) (hl : ds.length ≠ d.params.length) : callN par mk T n f ds μ = .stuck := by
  cases n with
  | zero => rfl
  | succ n =>
    unfold callN
    rw [h]
    dsimp only
    rw [if_neg hl]
theorem binds_of {K : PySem.W.Frag} {fd : FuncData} {ps : List Str} (B : ∀ (s : Shared) (us : List Value), us.length = ps.length → BindsTo s fd ⟨us, []⟩ (ps.zip us)) : Binds K fd ps [] := fun s us _ hl => by
  rw [List.append_nil] at hl ⊢
  exact B s us hl
theorem def_run {S : Stat} {cA : CA} {par : Nat → Nat → Bool} {P : Program} {w : World} {K : PySem.W.Frag} {mg : Str → Option Value} {c : Nat} (O : TxtOk S cA par P w K mg c) (base : Heap) : ∀ (n i : Nat) (d : MDef), S.T i = some d →
    ∀ {x qual : Str} {pa : Arguments} {bd : List Stmt} {sc : Scope} {f : Addr} {fd : FuncData}, FunD K x qual pa bd sc [] [] f fd → FnScope d.names d.params sc → agSs S d.names none true sc d.body bd = true →
    FnOk P w K mg base (L2.CX P w) (n + c) f fd d.params (spM K cA d.params.length (callN par (mkX S) S.T n i))
  | 0, i, d, hT, _, _, _, _, _, _, _, F, Sc, ag =>
    ⟨fun vs H Q E q => q.1, fun A outer s H args us vs Q E _ _ _ _ q => by
      obtain ⟨_, ρ, μ, ds, _, _, q⟩ := q
      exact (show False from q).elim⟩
  | n + 1, i, d, hT, x, qual, pa, bd, sc, f, fd, F, Sc, ag => by
    have ih : ∀ j d', S.T j = some d' → ∃ a fd, mg d'.name = some (.ref a) ∧ PySem.W.keepIn K (.ref a) = true ∧ Binds K fd d'.params [] ∧ FnOk P w K mg base (L2.CX P w) (n + c) a fd d'.params (spM K cA d'.params.length (callN par (mkX S) S.T n j)) := fun j d' hj => by
      obtain ⟨x', qual', pa', bd', sc', f', fd', g', F', B', Sc', ag'⟩ := (O.defs j d' hj).ex
      exact ⟨f', fd', g', F'.kp, binds_of B', def_run O base n j d' hj F' Sc' ag'⟩
    rw [Nat.succ_add]
    refine F.ok Sc (fun vs H Q E q => q.1) fun cdv A outer s H vs Q E hr h => ?_
    obtain ⟨hlen, ρ, μ, ds, R, rv, h⟩ := h
    have hl : ds.length = d.params.length := by rw [← rv.length]; exact hlen
    have su : Su := ⟨0, 0, 0⟩
    have G : Gd S cA par (callN par (mkX S) S.T n) (n + c) d.names none none su true sc (cxOf (L2.CX P w) P w K mg base d.names qual sc f cdv A outer s H E) := by
      refine ⟨rfl, Sc.nd, rfl, O.free, O.gints, O.cls, ?_, fun _ => rfl, fun _ => hr, fun _ j d' hj => ⟨fun ds μ hl => callN_wrong hj n ds μ hl, ih j d' hj⟩, fun y hy => (by cases hy), fun _ => rfl, fun y hy => (by cases hy)⟩
      have := hr.un
      show (A.deeper (envOfC qual sc s.heap.objs.size f cdv)).units + 100 < cLine
      omega
    have Gx : Gs S cA sc true (cxOf (L2.CX P w) P w K mg base d.names qual sc f cdv A outer s H E) :=
      ⟨Sc.kind, fun _ => rfl, rfl, rfl, fun _ => passes_of rfl, fun _ pn xe => O.make _ rfl rfl rfl rfl rfl (hr.mono (Nat.le_add_left _ _)), fun _ => O.make _ rfl rfl rfl rfl rfl (hr.mono (Nat.le_add_left _ _))⟩
    refine ⟨_, simSs d.body G Gx (takes_of rfl rfl rfl rfl) ag, ρ, μ, startD d ds, ⟨R, start_rel rv d, fun x hx => (by cases hx)⟩, ?_⟩
    refine leave_fit R ?_
    unfold callN at h
    rw [hT] at h
    dsimp only at h
    rw [if_pos hl] at h
    exact h
end Mn

/-! # Mini, fourteenth part: an own error is made -/
namespace Mn
open PySem PySem.Spec PyProof.Rows L2

/-- an __init__ that says super() -/
structure InitFn (prog : Program) (K : PySem.W.Frag) (f D : Addr) (pa : Arguments) (bd : List Stmt) (sc : Scope) (ps : List Str) : Prop where
  ex : ∃ (nm qual : Str) (oc : Value) (od : Option Addr) (osl : Array (Option Value)) (kV doc pm : Value) (an : Option Addr) (cda : Addr) (ct : Value) (cc : Addr) (ccl : Value) (cdd : Option Addr) (vs : Array Value) (ccs : Array (Option Value)) (file : Str) (tf : Tok) (cl : Value) (cld : Option Addr) (csl : Array (Option Value)) (cdD : ClassData),
    K.lookup f = some ⟨oc, od, .func (PySem.W.ksFn nm qual pa bd sc .none kV doc pm an (.ref cda) ct cc), osl⟩ ∧ oc = .type "function" ∧ PySem.W.codeIn K (.ref cda) qual = true ∧ K.lookup cda = some ⟨ccl, cdd, .fields vs, ccs⟩ ∧ vs[2]? = some (.str file tf) ∧ ((prog.main.file : Str) == file) = true ∧
      K.lookup cc = some ⟨cl, cld, .cell (some (.ref D)), csl⟩ ∧ PySem.W.clsIn K D = some cdD ∧ ∀ us : List Value, us.length = ps.length → bindArgs (PySem.W.ksFn nm qual pa bd sc .none kV doc pm an (.ref cda) ct cc) ⟨us, []⟩ = pure (ps.zip us)
  head : ∃ ar, (pa.posonlyargs ++ pa.args).head? = some ar ∧ ar.arg = "self"
  keep : PySem.W.fnIn K f = true
  kind : sc.kind = .function
  co : sc.isCoroutine = false
  gen : sc.isGenerator = false
  nocell : ∀ x ∈ sc.names, x.2 ≠ .cell
  sup : sc.names.lookup ("super" : Str) = some .globalImplicit
  cls : sc.names.lookup ("__class__" : Str) = some .free
  par : ∀ p ∈ ps, sc.names.lookup p = some .local
  nd : ps.Nodup
/-- the module, as the __init__s see it -/
structure SupG (prog : Program) (mg : Str → Option Value) (K : PySem.W.Frag) : Prop where
  top : (prog.main.scope.names.lookup ("super" : Str)).isSome = false
  free : mg "super" = none
  op : PySem.W.nsIn K cStatics "thirdparty.any" = some none

section
variable {prog : Program} {w : World} {A : Around} {E : Value → Shared → Prop} {s : Shared} {K : PySem.W.Frag} {mg : Str → Option Value} {base : Heap}
/-- super() in an __init__ -/
theorem sup_base {body : List Stmt} {p0 p1 : Pos} {whole : Sem Value} {f D x C cda cc L : Addr} {q : Str} {sc : Scope} {fd : FuncData} {oc ccl cl : Value} {od cdd cld : Option Addr} {osl ccs csl : Array (Option Value)} {ar : Arg} {vs : Array Value} {file : Str} {tf : Tok} {cdD : ClassData} {ox : Obj} {m : Str → Option Value} {Q : Value → Shared → Prop}
    (M : Mod K mg base) (SG : SupG prog mg K) (bk : ∀ b o, base.get? b = some o → s.heap.get? b = some o)
    (hf : K.lookup f = some ⟨oc, od, .func fd, osl⟩) (hp : (fd.params.posonlyargs ++ fd.params.args).head? = some ar) (hns : s.heap.Ns L m) (hv : m ar.arg = some (.ref x)) (hx : s.heap.get? x = some ox) (hxc : ox.cls = .ref C) (hnc : ∀ c, ox.data ≠ .cls c)
    (hcode : K.lookup cda = some ⟨ccl, cdd, .fields vs, ccs⟩) (hvs : vs[2]? = some (.str file tf)) (hfile : ((prog.main.file : Str) == file) = true)
    (hcell : K.lookup cc = some ⟨cl, cld, .cell (some (.ref D)), csl⟩) (hD : PySem.W.clsIn K D = some cdD) (hsub : PySem.W.mroIn K C (.ref D) = some true)
    (hks : sc.names.lookup ("super" : Str) = some .globalImplicit) (hkc : sc.names.lookup ("__class__" : Str) = some .free) (hka : sc.names.lookup ar.arg = some .local) (hk : sc.kind = .function)
    (h : ∀ so h', h'.get? so = some (PySem.W.ks_superObj D x C) → (∀ b o, s.heap.get? b = some o → h'.get? b = some o) → Q (.ref so) { s with heap := h' }) :
    _root_.PySem.wpAt (model prog w) A (.func body (PySem.W.ksEnv q sc L f (.ref cda) cc)) (attributeBase (.Call (.Name "super" p0) [] [] p1) "__init__" (PySem.W.ksEnv q sc L f (.ref cda) cc) whole) Q E s := by
  have X : K.In s.heap := M.kin.keeps bk
  obtain ⟨mb, b1, b2⟩ := M.blt
  obtain ⟨hh, g, d, t, os⟩ := s
  obtain ⟨oD, hD1, hD2⟩ : ∃ oD, hh.get? D = some oD ∧ oD.data = .cls cdD := by
    unfold PySem.W.clsIn at hD
    split at hD
    · rename_i c d cd' sl ho
      cases hD
      exact ⟨_, X _ _ ho, rfl⟩
    · cases hD
  refine ks_wpAt_super_base (env := PySem.W.ksEnv q sc L f (.ref cda) cc) hks hkc (by decide) rfl (X _ _ hf) rfl hp rfl (X _ _ hcode) rfl hvs hfile SG.top ?_
  refine PySem.W.ks_loadName_global hk hks (Calls.loadGlobal_builtin (env := PySem.W.ksEnv q sc L f (.ref cda) cc) (M.glob.keeps bk) SG.free (b1.keeps bk) ((b2 _ (by decide +kernel)).trans PyProof.Rows.Boot.«super») ⟨rfl, ?_⟩)
  refine wpAny_loadName_free hk hkc rfl ⟨_, X _ _ hcell, rfl⟩ ?_
  refine wpAny_loadName_local hk hka hns hv ?_
  refine ks_wpAny_isType_cls hD1 hD2 ⟨rfl, ?_⟩
  exact ks_wpAny_call_super hD1 hD2 hx hxc hnc (PySem.W.looks_mroIn X hsub) fun h' e k => h _ _ e k
/-- a local of the frame -/
theorem ldK {M : Model} {q : Str} {sc : Scope} {L f : Addr} {cd : Value} {cc : Addr} {m : Str → Option Value} {x : Str} {pos : Pos} {v : Value} {Q : Value → Shared → Prop} (hn : s.heap.Ns L m) (hv : m x = some v) (hk : sc.kind = .function) (hl : sc.names.lookup x = some .local) (h : Q v s)
    (hd : (x == ("__debug__" : Str)) = false) : wpAny M A (eval (.Name x pos) (PySem.W.ksEnv q sc L f cd cc)) Q E s := wpAny_Name (wpAny_loadName_local hk hl hn hv h) hd
/-- what the written part says of an error's class, under a base whose __init__ is at fB -/
structure ErrC (K : PySem.W.Frag) (B C : Addr) : Prop extends OexC K C where
  ve : PySem.W.subIn K (.ref C) (.type "ValueError") = some true
  toB : PySem.W.mroIn K C (.ref B) = some true
  sB : PySem.W.ks_superIn K C B "__init__" = some (some (.builtin "ValueError.__init__"))
  noW : PySem.W.findIn K (.ref C) "word" = some none
/-- o.name(..), written on one line -/
theorem mc_eq {o : Expr} {name : Str} {apos pos : Pos} {args : List Expr} {env : Env} (hl : (apos.endLine == pos.line) = true) (hf : methodCallForm (args.length + 0) (backTo pos (starEach args env)) [] = true) :
    eval (.Call (.Attribute o name apos) args [] pos) env = (do
      let ov ← attributeBase o name env (eval o env)
      standAt apos.atName
      let (f, first) ← holding [ov] (getMethod ov name (do return (← importBound o env).getD true))
      callWith pos f first (backTo pos (starEach args env)) []) := by
  rw [arm_eval_Call]
  congr 1
  funext ov
  congr 1
  funext _
  have hpos : methodCallPos true o env apos pos = pure pos := by unfold methodCallPos; simp [hl]
  show methodCall o name apos pos env ov (args.length + 0) (backTo pos (starEach args env)) [] = _
  unfold methodCall
  rw [hf]
  congr 1
  funext z
  obtain ⟨f, first⟩ := z
  show (methodCallPos true o env apos pos >>= fun c => callWith c f first (backTo pos (starEach args env)) []) = _
  rw [hpos, pure_bind]
theorem not_inter {env : Env} (h : env.scope.kind = .function) : interactive env = false := by
  unfold interactive
  rw [h]
  rfl
/-- what an __init__ leaves of the exception at x -/
structure InitEnd (h h' : Heap) (x C : Addr) (fs : List (Str × V)) : Prop where
  keep : ∀ b o, b ≠ x → h.get? b = some o → h'.get? b = some o
  at_ : ∃ t1 dx : Addr, h'.get? x = some { cls := .ref C, dict := some dx, data := .fields #[.ref t1, .none, .none, .none, .bool false, .none] } ∧ h.objs.size ≤ dx ∧ dx ≠ x ∧ ∃ mA, h'.Ns1 dx mA ∧ ∀ f, RelO (fs.lookup f) (mA f)
abbrev baseBody (q : Fin 10 → Pos) : List Stmt := [.Expr (.Call (.Attribute (.Call (.Name "super" (q 0)) [] [] (q 1)) "__init__" (q 2)) [.Name "word" (q 3)] [] (q 4)) (q 5), .Assign [.Attribute (.Name "self" (q 6)) "word" (q 7)] (.Name "word" (q 8)) (q 9)]
/-- ValueError.__init__ through the wrapper u -/
theorem call_mw {x C u t0 : Addr} {rest : List Value} {Q : Value → Shared → Prop} (X : K.In s.heap) (T : OexC K C) (hu : s.heap.get? u = some (PySem.W.kxs_mw "ValueError.__init__" x)) (hx : s.heap.get? x = some (PySem.HandSPX.excO C t0)) (hz : rest.length ≤ sizeLine)
    (h : ∀ h' t1, (∀ b o, b ≠ x → s.heap.get? b = some o → h'.get? b = some o) → h'.get? x = some (PySem.HandSPX.excO C t1) → Q .none { s with heap := h' }) :
    wpAny (model prog w) A (call (.ref u) rest) Q E s := by
  obtain ⟨nm, q, N, bs, bm, sn, sub, ab, col, dd, k0, k1, k2, k3, k5, hC, hbm⟩ := T.cls
  obtain ⟨hh, g, d, tk, os⟩ := s
  refine wpAny_call (codeAny_of_tree ?_)
  show wpAny _ A.in1 (callAny (.ref u) ⟨rest, []⟩) _ _ _
  simp only [callAny]
  refine wpAny_bind (wpAny_load hu ?_)
  simp only [PySem.W.kxs_mw, show (Value.type "method-wrapper" == Value.type "method" || Value.type "method-wrapper" == Value.type "builtin_function_or_method" || Value.type "method-wrapper" == Value.type "method-wrapper") = true by decide, if_true]
  refine PySem.W.KFB.if_so (by decide) ?_
  refine wpAny_bind (PySem.W.check_bound_init F.excBase_ValueError.toExcCallFacts (X _ _ hC) hx rfl ?_)
  refine wpAny_bind (wpAny_pure (wpAny_pure ?_))
  refine ⟨plainId_quiet F.excBase_ValueError.init.plain _, codeAny_builtin F.excBase_ValueError.initEntry ?_⟩
  exact PySem.W.exc_init_tree (cls := .ref C) (t0 := t0) (dv := none) (c2 := .none) (c3 := .none) (b4 := .bool false) hx hz fun h' k e _ => h h' _ k e
theorem one_size (v : Value) : [v].length ≤ sizeLine := by
  rw [sizeLine_eq]
  exact (by decide : 1 ≤ 16777216)
theorem init_base {f B C x t0 : Addr} {pa : Arguments} {q : Fin 10 → Pos} {sc : Scope} {v : V} {u : Value} {R : Result → Shared → Prop} (M : Mod K mg base) (SG : SupG prog mg K) (bk : ∀ b o, base.get? b = some o → s.heap.get? b = some o) (hbx : base.get? x = none)
    (IF : InitFn prog K f B pa (baseBody q) sc ["self", "word"]) (T : ErrC K B C) (hx : s.heap.get? x = some (PySem.HandSPX.excO C t0)) (hroom : A.depth < recursionLimit) (rv : RelV v u) (hline : ((q 2).endLine == (q 4).line) = true)
    (hq : ∀ h' tk, InitEnd s.heap h' x C [("word", v)] → R (.ok (.ret .none)) { s with heap := h', toks := tk }) :
    codeAny (model prog w) A (.call (.ref f) ⟨[.ref x, u], []⟩) R s := by
  obtain ⟨nm, qual, oc, od, osl, kV, doc, pm, an, cda, ct, cc, ccl, cdd, vs, ccs, file, tf, cl, cld, csl, cdD, hf, _, hcd, hcode, hvs, hfile, hcell, hD, hbind⟩ := IF.ex
  obtain ⟨ar, har, har2⟩ := IF.head
  obtain ⟨cn, cq, cN, bs, bm, sn, sub, ab, col, dd, k0, k1, k2, k3, k5, hC, hbm⟩ := T.cls
  have hcl : PySem.W.clsIn K C = some { name := cn, bases := bs, mro := .ref C :: bm, ns := cN, qualname := cq, hasDict := true, slotNames := sn, subclasses := sub, abstract := ab, collection := col, hasDel := false } := by unfold PySem.W.clsIn; rw [hC] <;> rfl
  have X : K.In s.heap := M.kin.keeps bk
  have ps := IF.par "self" (by simp)
  have pw := IF.par "word" (by simp)
  refine ks_codeAny_call_defAt hroom (X _ _ hf) rfl (M.nolimit.keeps bk) (PySem.W.codeRec_of X hcd) rfl (BindsTo.of_eq (hbind [.ref x, u] rfl)) IF.nocell (fun y hy => ?_) (fun h₀ hns k0' => ?_) IF.co IF.gen IF.kind
  · have hy : y ∈ [(("self" : Str), Value.ref x), (("word" : Str), u)] := hy
    simp only [List.mem_cons, List.not_mem_nil, or_false] at hy
    rcases hy with rfl | rfl
    · exact ps
    · exact pw
  have hm1 : ([(("self" : Str), Value.ref x), (("word" : Str), u)].reverse.lookup ("self" : Str)) = some (.ref x) := by
    show (match ("self" : Str) == ("word" : Str) with | true => some u | false => (match ("self" : Str) == ("self" : Str) with | true => some (Value.ref x) | false => none)) = some (.ref x)
    rw [show (("self" : Str) == ("word" : Str)) = false by decide +kernel, show (("self" : Str) == ("self" : Str)) = true by decide +kernel]
  have hm2 : ([(("self" : Str), Value.ref x), (("word" : Str), u)].reverse.lookup ("word" : Str)) = some u := by
    show (match ("word" : Str) == ("word" : Str) with | true => some u | false => (match ("word" : Str) == ("self" : Str) with | true => some (Value.ref x) | false => none)) = some u
    rw [show (("word" : Str) == ("word" : Str)) = true by decide +kernel]
  have xL : s.heap.objs.size ≠ x := Nat.ne_of_gt (Heap.lt_size hx)
  have hx0 := k0' _ _ hx
  have xC : x ≠ C := fun z => by
    subst z
    have := X _ _ hC
    rw [hx] at this
    cases this
  have bk0 : ∀ b o, base.get? b = some o → h₀.get? b = some o := fun b o e => k0' b o (bk b o e)
  have nsL : ∀ {h' : Heap}, (∀ b o, b ≠ x → h₀.get? b = some o → h'.get? b = some o) → h'.Ns s.heap.objs.size (fun y => ([(("self" : Str), Value.ref x), (("word" : Str), u)]).reverse.lookup y) := fun {h'} k => hns.at fun o e => k _ _ xL e
  refine ks_wpAt_execs_cons (ks_wpAt_Expr_any (ks_wpAt_MethodCall (sup_base M SG bk0 hf har hns (by rw [har2]; exact hm1) hx0 rfl (fun c z => by cases z) hcode hvs hfile hcell hD T.toB IF.sup IF.cls (by rw [har2]; exact ps) IF.kind (fun so h1 hso k1 => ?_)) (mc_eq hline (by rfl))) (not_inter IF.kind) rfl)
  have X1 : K.In h1 := X.keeps fun b o e => k1 b o (k0' b o e)
  have hx1 := k1 _ _ hx0
  have I1 : PySem.W.InstAt h1 x (PySem.HandSPX.excO C t0) C none := ⟨hx1, rfl, rfl, trivial⟩
  have hsup : PySem.W.alongIn K "__init__" (((Value.ref C :: bm).dropWhile (· != .ref B)).drop 1) = some (some (.builtin "ValueError.__init__")) := by
    have z := T.sB
    unfold PySem.W.ks_superIn at z
    rw [hcl] at z
    exact z
  refine PySem.W.kxs_getMethod PySem.W.kxs_ValueError hso (PySem.W.looks_opaque X1 SG.op) (l₀ := .ref C :: bm) ?_ rfl X1 hsup (I1.type.andThen (PySem.W.looks_subIn X1 T.ve)) xC (by decide) ?_
  · exact fun A Q E s k q => wpAny_bind ((PySem.W.looks_clsIn X1 hcl) A _ E s k (wpAny_pure q))
  have hns2 : (h1.push (PySem.W.kxs_mw "ValueError.__init__" x)).Ns s.heap.objs.size (fun y => ([(("self" : Str), Value.ref x), (("word" : Str), u)]).reverse.lookup y) := nsL fun b o _ e => Heap.get?_push_of_some _ (k1 b o e)
  have hu : (h1.push (PySem.W.kxs_mw "ValueError.__init__" x)).get? h1.objs.size = some (PySem.W.kxs_mw "ValueError.__init__" x) := Heap.get?_push_at rfl rfl
  refine PySem.W.kxs_callWith (i := "ValueError.__init__") (x := x) rfl (Calls.evalArgs_plain (PyProof.Rows.spliced_more (ldK hns2 hm2 IF.kind pw (PyProof.Rows.spliced_none ⟨hu, ?_⟩) (by decide))))
  have X2 : K.In (h1.push (PySem.W.kxs_mw "ValueError.__init__" x)) := X1.keeps fun b o e => Heap.get?_push_of_some _ e
  refine call_mw X2 T.toOexC hu (Heap.get?_push_of_some _ hx1) (one_size u) fun h3 t1 k3 hx3 => ?_
  have k03 : ∀ b o, b ≠ x → h₀.get? b = some o → h3.get? b = some o := fun b o hb e => k3 b o hb (Heap.get?_push_of_some _ (k1 b o e))
  have X3 : K.In h3 := M.kin.keeps fun b o e => k03 b o (fun z => by rw [z, hbx] at e; cases e) (bk0 b o e)
  have hns3 := nsL k03
  refine wpAt_of_wpAny (wpAny_execs_cons (plainObj_wpAny_Assign_Attribute (ldK hns3 hm2 IF.kind pw (ldK hns3 hm1 IF.kind ps ?_ (by decide)) (by decide)) rfl))
  refine PySem.W.set_plain X3 (ox := PySem.HandSPX.excO C t1) (od := none) ⟨hx3, rfl, rfl, trivial⟩ T.sa ?_
  refine PySem.HandSPX.exc_osa X3 hx3 hcl (show PySem.HandSPX.refsVE (.ref C :: bm) = true from hbm) rfl T.noW (fun h4 tk4 dx k4 dn dne hx4 hn4 => ?_)
  show wpAny _ _ (execs _ _) _ _ _
  have k04 : ∀ b o, b ≠ x → s.heap.get? b = some o → h4.get? b = some o := fun b o hb e => k4 b o hb (k03 b o hb (k0' b o e))
  refine wpAny_execs_nil (hq h4 tk4 ⟨k04, t1, dx, hx4, ?_, dne, _, hn4, fun f => ?_⟩)
  · obtain ⟨oL, _, _, hL, _⟩ := hns3
    exact Nat.le_of_lt (Nat.lt_of_lt_of_le (Heap.lt_size hL) dn)
  · by_cases hf : f = "word"
    · subst hf
      rw [if_pos rfl, lookup_put, if_pos rfl]
      exact rv
    · rw [if_neg hf, lookup_put, if_neg hf]
      exact trivial
end
end Mn

/-! # Mini, fifteenth part: an own error is made, its fields -/
namespace Mn
open PySem PySem.Spec PyProof.Rows L2

theorem lk_cons {β : Type} (f g : Str) (y : β) (fs : List (Str × β)) : ((f, y) :: fs).lookup g = if g = f then some y else fs.lookup g := by
  by_cases h : g = f
  · subst h
    simp [List.lookup]
  · have e : (g == f) = false := by simpa using h
    rw [if_neg h]
    simp [List.lookup, e]
theorem lk_append {β : Type} (f : Str) : ∀ (l r : List (Str × β)), (l ++ r).lookup f = (match l.lookup f with | some v => some v | none => r.lookup f)
  | [], r => rfl
  | (g, y) :: l, r => by
    rw [List.cons_append, lk_cons, lk_cons]
    by_cases h : f = g
    · rw [if_pos h, if_pos h]
    · rw [if_neg h, if_neg h]
      exact lk_append f l r
theorem lk_none {β : Type} {f : Str} : ∀ {l : List (Str × β)}, f ∉ l.map (·.1) → l.lookup f = none
  | [], _ => rfl
  | (g, y) :: l, h => by
    rw [lk_cons, if_neg (fun e => h (by simp [e]))]
    exact lk_none fun e => h (List.mem_cons_of_mem _ e)
theorem lk_rev {β : Type} (f : Str) : ∀ (l r : List (Str × β)), (l.map (·.1)).Nodup → (l.reverse ++ r).lookup f = (l ++ r).lookup f
  | [], r, _ => rfl
  | (g, y) :: l, r, nd => by
    rw [List.map_cons, List.nodup_cons] at nd
    rw [List.reverse_cons, List.append_assoc, lk_rev f l _ nd.2, List.singleton_append, List.cons_append, lk_cons]
    by_cases h : f = g
    · subst h
      rw [if_pos rfl, lk_append, lk_none nd.1, lk_cons, if_pos rfl]
    · rw [if_neg h, lk_append, lk_append, lk_cons, if_neg h]
theorem lk_zip {β : Type} : ∀ {ps : List Str} {us : List β} {i : Nat} {p : Str} {u : β}, ps.Nodup → ps[i]? = some p → us[i]? = some u → (ps.zip us).lookup p = some u
  | [], _, i, _, _, _, h, _ => by simp at h
  | _ :: _, [], i, _, _, _, _, h => by simp at h
  | q :: ps, v :: us, 0, p, u, nd, h1, h2 => by
    simp at h1 h2
    subst h1 h2
    rw [List.zip_cons_cons, lk_cons, if_pos rfl]
  | q :: ps, v :: us, i + 1, p, u, nd, h1, h2 => by
    rw [List.nodup_cons] at nd
    have hp : p ∈ ps := List.mem_of_getElem? (show ps[i]? = some p by simpa using h1)
    rw [List.zip_cons_cons, lk_cons, if_neg (fun e : p = q => nd.1 (by rw [← e]; exact hp))]
    exact lk_zip nd.2 (by simpa using h1) (by simpa using h2)
/-- self.f = f, .. -/
inductive Sets : List Str → List Stmt → Prop
  | nil : Sets [] []
  | cons {f : Str} {fs : List Str} {st : List Stmt} {p1 p2 p3 p4 : Pos} : Sets fs st → Sets (f :: fs) (.Assign [.Attribute (.Name "self" p1) f p2] (.Name f p3) p4 :: st)
section
variable {prog : Program} {w : World} {A : Around} {E : Value → Shared → Prop} {s : Shared} {K : PySem.W.Frag} {mg : Str → Option Value} {base : Heap}
theorem run_sets {B C x dx L t1 : Addr} {q : Str} {sc : Scope} {f : Addr} {cd : Value} {cc : Addr} (T : ErrC K B C) (hk : sc.kind = .function) (hself : sc.names.lookup ("self" : Str) = some .local) (m : Str → Option Value) (hm : m "self" = some (.ref x)) (xL : L ≠ x) (dL : L ≠ dx) (hdx : dx ≠ x) (hKd : K.lookup dx = none) :
    ∀ {fs : List Str} {st : List Stmt} (S : Sets fs st) {vs : List V} {us : List Value} {acc : List (Str × V)} {s : Shared} {Q : Flow → Shared → Prop}, Vals vs us → us.length = fs.length → (∀ g ∈ fs, sc.names.lookup g = some .local ∧ PySem.W.findIn K (.ref C) g = some none ∧ (g == ("__debug__" : Str)) = false) → (∀ (i : Nat) (g : Str) (u : Value), fs[i]? = some g → us[i]? = some u → m g = some u) →
      K.In s.heap → s.heap.Ns L m → s.heap.get? x = some { cls := .ref C, dict := some dx, data := .fields #[.ref t1, .none, .none, .none, .bool false, .none] } → (∃ mA, s.heap.Ns1 dx mA ∧ ∀ g, RelO (acc.lookup g) (mA g)) → acc.length + fs.length ≤ 900 →
      (∀ h' tk, (∀ b o, b ≠ dx → s.heap.get? b = some o → h'.get? b = some o) → (∃ mA, h'.Ns1 dx mA ∧ ∀ g, RelO (((fs.zip vs).reverse ++ acc).lookup g) (mA g)) → Q .next { s with heap := h', toks := tk }) →
      wpAny (model prog w) A (execs st (PySem.W.ksEnv q sc L f cd cc)) Q E s
  | _, _, .nil, vs, us, acc, s, Q, rv, hl, _, _, X, hns, hx, hd, _, hq => by
    cases us with
    | cons _ _ => cases hl
    | nil =>
    cases rv
    exact wpAny_execs_nil (hq s.heap s.toks (fun _ _ _ e => e) hd)
  | _, _, .cons (f := g) (fs := fs) (st := st) S, vs, us, acc, s, Q, rv, hl, hfs, hms, X, hns, hx, hd, hz, hq => by
    cases us with
    | nil => cases hl
    | cons u us =>
    cases rv with
    | cons ru rv =>
    rename_i v vs
    obtain ⟨g1, g2, g3⟩ := hfs g List.mem_cons_self
    obtain ⟨cn, cq, cN, bs, bm, sn, sub, ab, col, dd, k0, k1, k2, k3, k5, hC, hbm⟩ := T.cls
    have hcl : PySem.W.clsIn K C = some { name := cn, bases := bs, mro := .ref C :: bm, ns := cN, qualname := cq, hasDict := true, slotNames := sn, subclasses := sub, abstract := ab, collection := col, hasDel := false } := by unfold PySem.W.clsIn; rw [hC] <;> rfl
    refine wpAny_execs_cons (plainObj_wpAny_Assign_Attribute (ldK hns (hms 0 g u rfl rfl) hk g1 (ldK hns hm hk hself ?_ (by decide)) g3) rfl)
    obtain ⟨mA, hn, rel⟩ := hd
    have hw := within_of rel
    obtain ⟨oD, _, _, hoD, _, _⟩ := hn.count hw
    refine PySem.W.set_plain X (ox := { cls := .ref C, dict := some dx, data := .fields #[.ref t1, .none, .none, .none, .bool false, .none] }) (od := some oD) ⟨hx, rfl, rfl, hoD⟩ T.sa ?_
    obtain ⟨hp, gg, d, t, os⟩ := s
    refine PySem.OEX.osa_old X hx hn hw (by rw [List.length_map]; have := hz; rw [List.length_cons] at this; omega) hcl (show PySem.HandSPX.refsVE (.ref C :: bm) = true from hbm) rfl g2 (fun h' tk' k hn' => ?_)
    show wpAny _ _ (execs _ _) _ _ _
    refine run_sets T hk hself m hm xL dL hdx hKd S (acc := (g, v) :: acc) rv (by simpa using hl) (fun g' hg' => hfs g' (List.mem_cons_of_mem _ hg')) (fun i g' u' e1 e2 => hms (i + 1) g' u' (by simpa using e1) (by simpa using e2)) (fun a o e => k a o (fun z => by rw [z, hKd] at e; cases e) (X a o e)) (hns.at fun o e => k _ _ dL e) (k _ _ (Ne.symm hdx) hx)
      ⟨_, hn', relO_put ru rel⟩ (by rw [List.length_cons] at hz ⊢; omega) fun h2 tk2 k2' hd2 => hq h2 tk2 (fun b o hb e => k2' b o hb (k b o hb e)) ?_
    obtain ⟨mB, b1, b2⟩ := hd2
    refine ⟨mB, b1, fun g' => ?_⟩
    rw [List.zip_cons_cons, List.reverse_cons, List.append_assoc]
    exact b2 g'
abbrev subHead (w : Str) (k : Nat) (q : Fin 6 → Pos) : Stmt := .Expr (.Call (.Attribute (.Call (.Name "super" (q 0)) [] [] (q 1)) "__init__" (q 2)) [.Constant (.str w) k (q 3)] [] (q 4)) (q 5)
/-- a class under the base -/
structure SubC (K : PySem.W.Frag) (B fB C : Addr) : Prop extends ErrC K B C where
  toC : PySem.W.mroIn K C (.ref C) = some true
  sC : PySem.W.ks_superIn K C C "__init__" = some (some (.ref fB))
theorem init_sub {f B fB C x t0 : Addr} {pa paB : Arguments} {q : Fin 6 → Pos} {qB : Fin 10 → Pos} {sc scB : Scope} {wd : Str} {k : Nat} {fs : List Str} {st : List Stmt} {vs : List V} {us : List Value} {R : Result → Shared → Prop} (M : Mod K mg base) (SG : SupG prog mg K) (bk : ∀ b o, base.get? b = some o → s.heap.get? b = some o) (hbx : base.get? x = none)
    (IF : InitFn prog K f C pa (subHead wd k q :: st) sc ("self" :: fs)) (S : Sets fs st) (IB : InitFn prog K fB B paB (baseBody qB) scB ["self", "word"]) (T : SubC K B fB C) (hx : s.heap.get? x = some (PySem.HandSPX.excO C t0)) (hroom : A.depth + 1 < recursionLimit) (rv : Vals vs us) (hl : us.length = fs.length) (hz : fs.length ≤ 800)
    (hfs : ∀ g ∈ fs, PySem.W.findIn K (.ref C) g = some none ∧ (g == ("__debug__" : Str)) = false) (hw : ("word" : Str) ∉ fs)
    (hline : ((q 2).endLine == (q 4).line) = true) (hlineB : ((qB 2).endLine == (qB 4).line) = true)
    (hq : ∀ h' tk, InitEnd s.heap h' x C (fs.zip vs ++ [(("word" : Str), V.str wd)]) → R (.ok (.ret .none)) { s with heap := h', toks := tk }) :
    codeAny (model prog w) A (.call (.ref f) ⟨.ref x :: us, []⟩) R s := by
  obtain ⟨nm, qual, oc, od, osl, kV, doc, pm, an, cda, ct, cc, ccl, cdd, cvs, ccs, file, tf, cl, cld, csl, cdD, hf, _, hcd, hcode, hvs, hfile, hcell, hD, hbind⟩ := IF.ex
  obtain ⟨_, _, ocB, odB, oslB, _, _, _, _, _, _, _, _, _, _, _, _, _, _, _, _, _, hfB, hocB, _⟩ := IB.ex
  obtain ⟨ar, har, har2⟩ := IF.head
  obtain ⟨cn, cq, cN, bs, bm, sn, sub, ab, col, dd, k0, k1, k2, k3, k5, hC, hbm⟩ := T.cls
  have hcl : PySem.W.clsIn K C = some { name := cn, bases := bs, mro := .ref C :: bm, ns := cN, qualname := cq, hasDict := true, slotNames := sn, subclasses := sub, abstract := ab, collection := col, hasDel := false } := by unfold PySem.W.clsIn; rw [hC] <;> rfl
  have X : K.In s.heap := M.kin.keeps bk
  have ps := IF.par "self" (by simp)
  have ndk : ((("self" : Str) :: fs).zip (Value.ref x :: us)).map (·.1) = ("self" : Str) :: fs := by
    rw [List.map_fst_zip]
    simp [hl]
  refine ks_codeAny_call_defAt (Nat.lt_of_succ_lt hroom) (X _ _ hf) rfl (M.nolimit.keeps bk) (PySem.W.codeRec_of X hcd) rfl (BindsTo.of_eq (hbind (.ref x :: us) (by simp [hl]))) IF.nocell (fun y hy => ?_) (fun h₀ hns k0' => ?_) IF.co IF.gen IF.kind
  · have : y.1 ∈ ((("self" : Str) :: fs).zip (Value.ref x :: us)).map (·.1) := List.mem_map_of_mem hy
    rw [ndk] at this
    exact IF.par _ this
  have lkp : ∀ {i : Nat} {p : Str} {u : Value}, (("self" : Str) :: fs)[i]? = some p → (Value.ref x :: us)[i]? = some u → ((("self" : Str) :: fs).zip (Value.ref x :: us)).reverse.lookup p = some u := fun {i p u} h1 h2 => by
    have e := lk_rev p ((("self" : Str) :: fs).zip (Value.ref x :: us)) [] (by rw [ndk]; exact IF.nd)
    rw [List.append_nil, List.append_nil] at e
    rw [e]
    exact lk_zip IF.nd h1 h2
  have hm1 := lkp (i := 0) (p := "self") (u := .ref x) rfl rfl
  have xL : s.heap.objs.size ≠ x := Nat.ne_of_gt (Heap.lt_size hx)
  have hx0 := k0' _ _ hx
  have xC : x ≠ C := fun z => by
    subst z
    have := X _ _ hC
    rw [hx] at this
    cases this
  have bk0 : ∀ b o, base.get? b = some o → h₀.get? b = some o := fun b o e => k0' b o (bk b o e)
  refine ks_wpAt_execs_cons (ks_wpAt_Expr_any (ks_wpAt_MethodCall (sup_base M SG bk0 hf har hns (by rw [har2]; exact hm1) hx0 rfl (fun c z => by cases z) hcode hvs hfile hcell hD T.toC IF.sup IF.cls (by rw [har2]; exact ps) IF.kind (fun so h1 hso k1 => ?_)) (mc_eq hline (by rfl))) (not_inter IF.kind) rfl)
  have bk1 : ∀ b o, base.get? b = some o → h1.get? b = some o := fun b o e => k1 b o (bk0 b o e)
  have X1 : K.In h1 := M.kin.keeps bk1
  have hx1 := k1 _ _ hx0
  have hsup : PySem.W.alongIn K "__init__" (((Value.ref C :: bm).dropWhile (· != .ref C)).drop 1) = some (some (.ref fB)) := by
    have z := T.sC
    unfold PySem.W.ks_superIn at z
    rw [hcl] at z
    exact z
  refine ks_wpAny_getMethod_super hso (PySem.W.looks_opaque X1 SG.op) (l₀ := .ref C :: bm) ?_ rfl X1 hsup (X1 _ _ hfB) hocB xC (by decide) ?_
  · exact fun A Q E s k q => wpAny_bind ((PySem.W.looks_clsIn X1 hcl) A _ E s k (wpAny_pure q))
  have X2 : K.In (h1.push (PySem.W.methodObj (.ref fB) (.ref x))) := X1.keeps fun b o e => Heap.get?_push_of_some _ e
  have hu : (h1.push (PySem.W.methodObj (.ref fB) (.ref x))).get? h1.objs.size = some (PySem.W.methodObj (.ref fB) (.ref x)) := Heap.get?_push_at rfl rfl
  refine PySem.W.callWith_of (P := PySem.W.MethP K h1.objs.size fB (.ref x)) rfl (PySem.W.keeps_M IB.keep) (Calls.evalArgs_plain (PyProof.Rows.spliced_more (Calls.Constant_str (PyProof.Rows.spliced_none ⟨⟨hu, X2⟩, ?_⟩))))
  refine wpAny_call (PySem.W.method_call hu ?_)
  refine init_base (v := V.str wd) M SG (fun b o e => Heap.get?_push_of_some _ (bk1 b o e)) hbx IB T.toErrC (Heap.get?_push_of_some _ hx1) (show A.depth + 1 < recursionLimit from hroom) ⟨_, rfl⟩ hlineB fun h3 tk3 J => ?_
  obtain ⟨t1, dx, hx3, dn, dne, mA, hn3, hrel⟩ := J.at_
  have k03 : ∀ b o, b ≠ x → h₀.get? b = some o → h3.get? b = some o := fun b o hb e => J.keep b o hb (Heap.get?_push_of_some _ (k1 b o e))
  have X3 : K.In h3 := M.kin.keeps fun b o e => k03 b o (fun z => by rw [z, hbx] at e; cases e) (bk0 b o e)
  have zL : s.heap.objs.size < h1.objs.size := by
    obtain ⟨oL, _, _, hL, _⟩ := hns
    exact Heap.lt_size (k1 _ _ hL)
  have dn' : h1.objs.size < dx := by
    refine Nat.lt_of_lt_of_le ?_ dn
    show h1.objs.size < (h1.push _).objs.size
    rw [Heap.size_push]
    exact Nat.lt_succ_self _
  have zdx : s.heap.objs.size < dx := Nat.lt_trans zL dn'
  have hKd : K.lookup dx = none := by
    cases e : K.lookup dx with
    | none => rfl
    | some o => exact absurd (Nat.lt_trans zdx (Heap.lt_size (X _ _ e))) (Nat.lt_irrefl _)
  refine wpAt_of_wpAny (run_sets T.toErrC IF.kind ps (fun y => ((("self" : Str) :: fs).zip (Value.ref x :: us)).reverse.lookup y) hm1 xL (Nat.ne_of_lt zdx) dne hKd S rv hl (fun g hg => ⟨IF.par g (List.mem_cons_of_mem _ hg), hfs g hg⟩) (fun i g u e1 e2 => lkp (i := i + 1) (by simpa using e1) (by simpa using e2)) X3 (hns.at fun o e => k03 _ _ xL e) hx3 ⟨mA, hn3, hrel⟩ (by simp; omega) fun h4 tk4 k4 hd4 => ?_)
  refine hq h4 tk4 ⟨fun b o hb e => k4 b o (fun z => ?_) (k03 b o hb (k0' b o e)), t1, dx, k4 _ _ (Ne.symm dne) hx3, Nat.le_of_lt zdx, dne, ?_⟩
  · subst z
    exact absurd (Nat.lt_trans zdx (Heap.lt_size e)) (Nat.lt_irrefl _)
  · obtain ⟨mB, b1, b2⟩ := hd4
    refine ⟨mB, b1, fun g => ?_⟩
    have hv : vs.length = fs.length := by rw [Paired.length rv, hl]
    have e := lk_rev g (fs.zip vs) [(("word" : Str), V.str wd)] (by rw [List.map_fst_zip (by omega)]; exact (List.nodup_cons.mp IF.nd).2)
    rw [← e]
    exact b2 g
/-- an error has been made -/
structure ErrMade (h h' : Heap) (e C d : Addr) (fs : List (Str × V)) : Prop where
  keep : ∀ b o, h.get? b = some o → h'.get? b = some o
  new : h.objs.size ≤ e
  obj : ∃ oe vs, h'.get? e = some oe ∧ oe.cls = .ref C ∧ oe.dict = some d ∧ oe.data = .fields vs ∧ vs[1]? = some .none
  dbig : h.objs.size ≤ d
  dne : d ≠ e
  ns : ∃ mA, h'.Ns1 d mA ∧ ∀ f, RelO (fs.lookup f) (mA f)
theorem err_made {f B C : Addr} {us : List Value} {fs : List (Str × V)} {R : Result → Shared → Prop} (M : Mod K mg base) (bk : ∀ b o, base.get? b = some o → s.heap.get? b = some o) (T : ErrC K B C) (iC : PySem.W.findIn K (.ref C) "__init__" = some (some (.ref f))) (tC : PySem.W.typeIn K (.ref f) = some (.type "function")) (hz : us.length ≤ sizeLine) (hroom : A.depth + 2 < recursionLimit)
    (hinit : ∀ (A : Around) (s : Shared) (x t0 : Addr) (R : Result → Shared → Prop), (∀ b o, base.get? b = some o → s.heap.get? b = some o) → base.get? x = none → s.heap.get? x = some (PySem.HandSPX.excO C t0) → A.depth + 1 < recursionLimit →
      (∀ h' tk, InitEnd s.heap h' x C fs → R (.ok (.ret .none)) { s with heap := h', toks := tk }) → codeAny (model prog w) A (.call (.ref f) ⟨.ref x :: us, []⟩) R s)
    (hq : ∀ h' tk e d, ErrMade s.heap h' e C d fs → R (.ok (.ret (.ref e))) { s with heap := h', toks := tk }) :
    codeAny (model prog w) A (.call (.ref C) ⟨us, []⟩) R s := by
  obtain ⟨nm, q, N, bs, bm, sn, sub, ab, col, dd, k0, k1, k2, k3, k5, hC, hbm⟩ := T.cls
  have X : K.In s.heap := M.kin.keeps bk
  obtain ⟨hp, g, dr, tk, os⟩ := s
  have k : ∀ b o, hp.get? b = some o → ((hp.push (PySem.W.kdv_tup us)).push (PySem.HandSPX.excO C hp.objs.size)).get? b = some o := fun b o e => Heap.get?_push_of_some _ (Heap.get?_push_of_some _ e)
  have hget : ((hp.push (PySem.W.kdv_tup us)).push (PySem.HandSPX.excO C hp.objs.size)).get? (hp.objs.size + 1) = some (PySem.HandSPX.excO C hp.objs.size) := by heap_get
  have hbx : base.get? (hp.objs.size + 1) = none := by
    cases e : base.get? (hp.objs.size + 1) with
    | none => rfl
    | some o => exact absurd (Nat.lt_of_succ_lt (Heap.lt_size (bk _ _ e))) (Nat.lt_irrefl _)
  refine PySem.HandSPX.call_own F.excBase_ValueError (fun X => PySem.HandSPX.refsVE_contains X bm hbm) (X _ _ hC) (PySem.W.looks_findIn X iC) (fun self => PySem.W.bind_fn X self tC) hz ?_
  refine hinit _ ⟨(hp.push (PySem.W.kdv_tup us)).push (PySem.HandSPX.excO C hp.objs.size), g, dr, tk, os⟩ _ _ _ (fun b o e => k b o (bk b o e)) hbx hget (by rw [make_depth]; exact hroom) fun h' tk' J => ?_
  obtain ⟨t1, dx, hx, dn, dne, hns⟩ := J.at_
  have old : ∀ b o, hp.get? b = some o → h'.get? b = some o := fun b o e => J.keep b o (Nat.ne_of_lt (Nat.lt_succ_of_lt (Heap.lt_size e))) (k b o e)
  have z : hp.objs.size + 1 + 1 ≤ dx := by
    have q := dn
    simp only [Heap.size_push] at q
    exact q
  exact ⟨rfl, hq h' tk' (hp.objs.size + 1) dx ⟨old, Nat.le_succ _, ⟨_, _, hx, rfl, rfl, rfl, rfl⟩, (by show hp.objs.size ≤ dx; omega), dne, hns⟩⟩
end
end Mn

/-! # Mini, sixteenth part: the errors' classes -/
namespace Mn
open PySem PySem.Spec PyProof.Rows L2

/-- what a text says of an error's class that it makes -/
structure ErrT (prog : Program) (K : PySem.W.Frag) (mg : Str → Option Value) (B fB C : Addr) (x : Str) (fs : List Str) (wd : Str) : Prop where
  glob : mg x = some (.ref C)
  sub : SubC K B fB C
  init : ∃ (f : Addr) (pa : Arguments) (q : Fin 6 → Pos) (k : Nat) (st : List Stmt) (sc : Scope), PySem.W.findIn K (.ref C) "__init__" = some (some (.ref f)) ∧ PySem.W.typeIn K (.ref f) = some (.type "function") ∧
    InitFn prog K f C pa (subHead wd k q :: st) sc ("self" :: fs) ∧ Sets fs st ∧ ((q 2).endLine == (q 4).line) = true
  few : fs.length ≤ 800
  hfs : ∀ g ∈ fs, PySem.W.findIn K (.ref C) g = some none ∧ (g == ("__debug__" : Str)) = false
  hw : ("word" : Str) ∉ fs
section
variable {prog : Program} {w : World} {K : PySem.W.Frag} {mg : Str → Option Value} {S : Stat} {cA : CA} {X : Cx} {B fB : Addr}
theorem mk_end {paB : Arguments} {qB : Fin 10 → Pos} {scB : Scope} {pins : List (Addr × Obj)} {σ : L2.St} {H1 : Hp} {s1 : Shared} {vs : List V} {us : List Value} {Q : XK} {c : Nat} {x : Str} {fs : List Str} {wd : Str} (SG : SupG X.prog X.mg X.K) (IB : InitFn X.prog X.K fB B paB (baseBody qB) scB ["self", "word"]) (hlB : ((qB 2).endLine == (qB 4).line) = true)
    (T : ErrT X.prog X.K X.mg B fB (cA.to c) x fs wd) (hr : Room 1 X.A) (I1 : Inv X pins σ H1 s1) (r1 : Vals vs us) (hv : vs.length = fs.length)
    (q1 : ∀ d, H1 d = none → Q (.ref (cA.to c)) (some d) (upd H1 d (.xd (fs.zip vs ++ [(("word" : Str), V.str wd)])))) :
    wpAny (model X.prog X.w) X.A (call (.ref (cA.to c)) us) (MkP X pins σ Q) X.xe s1 := by
  obtain ⟨f, pa, q, k, st, sc, iC, tC, IF, Sx, hl⟩ := T.init
  have hlim := I1.nolimit
  have hu : us.length = fs.length := by rw [← Paired.length r1]; exact hv
  have few := T.few
  obtain ⟨hp, g, dr, tk, os⟩ := s1
  refine wpAny_call (err_made (fs := fs.zip vs ++ [(("word" : Str), V.str wd)]) I1.mod I1.bk T.sub.toErrC iC tC (by rw [hu, sizeLine_eq]; omega) (by have := hr.dp; omega)
    (fun A s x t0 R bk hbx hx hroom hq => init_sub I1.mod SG bk hbx IF Sx IB T.sub hx hroom r1 hu few T.hfs T.hw hl hlB hq) fun h' tk' e d M => ?_)
  show MkP X pins σ Q (.ref e) ⟨h', g, dr, tk', os⟩
  obtain ⟨oe, fv, hoe, hc, hd, hdat, h1⟩ := M.obj
  obtain ⟨mA, hns, hrel⟩ := M.ns
  obtain ⟨G', g1, g2⟩ := restrict h' fun b => decide (b ≠ e)
  have gk : ∀ b, b ≠ e → G'.get? b = h'.get? b := fun b hb => g1 b (decide_eq_true hb)
  have ge : G'.get? e = none := g2 e (by simp)
  have old : ∀ b o, hp.get? b = some o → G'.get? b = some o := fun b o q => (gk b (Nat.ne_of_lt (Nat.lt_of_lt_of_le (Heap.lt_size q) M.new))).trans (M.keep b o q)
  have ob : ObjOk X.prog X.w (upd H1 d (.xd (fs.zip vs ++ [(("word" : Str), V.str wd)]))) G' d (.xd (fs.zip vs ++ [(("word" : Str), V.str wd)])) :=
    ⟨_, hns.at (fun o q => (gk d M.dne).trans q), hrel⟩
  have J : Inv X pins σ (upd H1 d (.xd (fs.zip vs ++ [(("word" : Str), V.str wd)]))) ⟨G', g, dr, tk', os⟩ := I1.laid (t' := tk') old M.dbig ob
  refine ⟨e, oe, fv, ⟨G', g, dr, tk', os⟩, _, .ref (cA.to c), some d, rfl, J, fun b o q => ?_, ge, hoe, ⟨hc, hd⟩, hdat, h1, ?_, rfl, I1.bare, raises_own T.sub.exC T.sub.tyC, q1 d (I1.hok.fresh M.dbig)⟩
  · by_cases hb : b = e
    · have q' : G'.get? b = some o := q
      rw [hb, ge] at q'; cases q'
    · exact (gk b hb).symm.trans q
  · rw [upd_ne (Ne.symm M.dne)]
    exact I1.hok.fresh M.new
theorem mk_ok {paB : Arguments} {qB : Fin 10 → Pos} {scB : Scope} (SG : SupG prog mg K) (IB : InitFn prog K fB B paB (baseBody qB) scB ["self", "word"]) (hlB : ((qB 2).endLine == (qB 4).line) = true)
    (T : ∀ (c : Nat) (x : Str) (fs : List Str) (wd : Str), S.cN[c]? = some x → S.cF[c]? = some fs → S.cW[c]? = some wd → ErrT prog K mg B fB (cA.to c) x fs wd)
    (nm : ∀ (c : Nat) (x : Str), S.cN[c]? = some x → mg x = some (.ref (cA.to c)) ∧ PySem.W.keepIn K (.ref (cA.to c)) = true)
    (X : Cx) (e1 : X.prog = prog) (e2 : X.w = w) (e3 : X.K = K) (e4 : X.mg = mg) (hc : X.calm = true) (hr : Room 1 X.A) : MkOk S cA X := by
  subst e1 e2 e3 e4
  intro c x es p pos ta hN hg hd ha hpl he pins s σ H Q I h
  obtain ⟨gC, kC⟩ := nm c x hN
  refine wpAny_Call_Name_kw (ld_glob I hg gC ?_ hd)
  have fin : ∀ (us : List Value) (s1 : Shared) (H1 : Hp) (vs : List V), Inv X pins σ H1 s1 → Vals vs us → (∃ fs wd, S.cF[c]? = some fs ∧ S.cW[c]? = some wd ∧ vs.length = fs.length ∧ ∀ d, H1 d = none → Q (.ref (cA.to c)) (some d) (upd H1 d (.xd (fs.zip vs ++ [(("word" : Str), V.str wd)])))) →
      wpAny (model X.prog X.w) X.A (call (.ref (cA.to c)) us) (MkP X pins σ Q) X.xe s1 := fun us s1 H1 vs I1 r1 ⟨fs, wd, q1, q2, q3, q4⟩ =>
    mk_end SG IB hlB (T c x fs wd hN q1 q2) hr I1 r1 q3 q4
  cases es with
  | nil =>
    intro Γ pp hΓ
    have z := ha.run pos pins s σ H _ I h
    rw [show spliced (backTo pos (starEach [] X.env)) = pure [] from rfl] at z
    have z := z Γ pp hΓ
    rw [Sem.wp_pure'] at z
    obtain ⟨vs, H1, I1, r1, q1⟩ := z
    exact (PySem.W.callWith_K0 I1.kIn kC (fin _ _ H1 vs I1 r1 q1)) Γ pp hΓ
  | cons e r =>
    refine PySem.W.callWith_K (h₀ := X.base) I.ok.mod.kin kC (thn (ha.run pos pins s σ H _ I h) fun us s1 hh => ?_) (he e r rfl) ?_
    · obtain ⟨vs, H1, I1, r1, q1⟩ := hh
      exact ⟨I1.kIn, fin us s1 H1 vs I1 r1 q1⟩
    · have z := he e r rfl
      rw [z] at hpl
      exact hpl
end
end Mn

/-! # Mini, seventeenth part: what the head's run tells of the errors' classes -/
namespace Mn
open PySem PySem.Spec PyProof.Rows L2

structure ErrD where
  name : Str
  fs : List Str
  wd : Str
  params : Arguments
  body : List Stmt
  scope : Scope
/-! ### the bodies -/
def callOf : Stmt → Option (Str × Str × Expr × Pos × Pos × Pos × Pos × Pos)
  | .Expr (.Call (.Attribute (.Call (.Name x p0) [] [] p1) a p2) [e] [] p4) p5 => some (x, a, e, p0, p1, p2, p4, p5)
  | _ => none
def setOf : Stmt → Option (Str × Str × Str × Pos × Pos × Pos × Pos)
  | .Assign [.Attribute (.Name s p1) f p2] (.Name g p3) p4 => some (s, f, g, p1, p2, p3, p4)
  | _ => none
def strOf : Expr → Option (Str × Nat × Pos)
  | .Constant (.str w) k p => some (w, k, p)
  | _ => none
def setsB : List Str → List Stmt → Bool
  | [], [] => true
  | f :: fs, st :: r => ((setOf st).any fun (s, g, h, _) => s == ("self" : Str) && (g == f && h == f)) && setsB fs r
  | _, _ => false
def subBd (wd : Str) (fs : List Str) : List Stmt → Bool
  | h :: st => ((callOf h).any fun (x, a, e, p0, p1, p2, p4, p5) => x == ("super" : Str) && (a == ("__init__" : Str) && ((p2.endLine == p4.line) && (strOf e).any fun (w, _) => w == wd))) && setsB fs st
  | _ => false
def basB : List Stmt → Bool
  | [h, st] => ((callOf h).any fun (x, a, e, p0, p1, p2, p4, p5) => x == ("super" : Str) && (a == ("__init__" : Str) && ((p2.endLine == p4.line) && (nameOf e).any fun (w, _) => w == ("word" : Str)))) && setsB ["word"] [st]
  | _ => false
theorem callOf_inv {st : Stmt} {x a : Str} {e : Expr} {p0 p1 p2 p4 p5 : Pos} (h : callOf st = some (x, a, e, p0, p1, p2, p4, p5)) : st = .Expr (.Call (.Attribute (.Call (.Name x p0) [] [] p1) a p2) [e] [] p4) p5 := by
  unfold callOf at h
  split at h
  · cases h; rfl
  · cases h
theorem setOf_inv {st : Stmt} {s f g : Str} {p1 p2 p3 p4 : Pos} (h : setOf st = some (s, f, g, p1, p2, p3, p4)) : st = .Assign [.Attribute (.Name s p1) f p2] (.Name g p3) p4 := by
  unfold setOf at h
  split at h
  · cases h; rfl
  · cases h
theorem strOf_inv {e : Expr} {w : Str} {k : Nat} {p : Pos} (h : strOf e = some (w, k, p)) : e = .Constant (.str w) k p := by
  unfold strOf at h
  split at h
  · cases h; rfl
  · cases h
theorem setsB_ok : ∀ {fs : List Str} {st : List Stmt}, setsB fs st = true → Sets fs st
  | [], [], _ => .nil
  | [], _ :: _, h => ff h
  | _ :: _, [], h => ff h
  | f :: fs, st :: r, h => by
    unfold setsB at h
    obtain ⟨h1, h2⟩ := pb_of h
    obtain ⟨⟨s, g, k, p1, p2, p3, p4⟩, q, h1⟩ := any_inv h1
    dsimp only at h1
    obtain ⟨g1, h1⟩ := pb_of h1
    obtain ⟨g2, g3⟩ := pb_of h1
    cases (eq_of_beq g1)
    cases (eq_of_beq g2)
    cases (eq_of_beq g3)
    cases (setOf_inv q)
    exact .cons (setsB_ok h2)
theorem subBd_ok {wd : Str} {fs : List Str} {bd : List Stmt} (h : subBd wd fs bd = true) : ∃ (q : Fin 6 → Pos) (k : Nat) (st : List Stmt), bd = subHead wd k q :: st ∧ Sets fs st ∧ ((q 2).endLine == (q 4).line) = true := by
  cases bd with
  | nil => exact ff h
  | cons hd st =>
    unfold subBd at h
    obtain ⟨i1, h2⟩ := pb_of h
    obtain ⟨⟨x, a, e, p0, p1, p2, p4, p5⟩, q, i2⟩ := any_inv i1
    dsimp only at i2
    obtain ⟨g1, i3⟩ := pb_of i2
    obtain ⟨g2, i4⟩ := pb_of i3
    obtain ⟨g3, i5⟩ := pb_of i4
    obtain ⟨⟨w, k, p3⟩, q2, i6⟩ := any_inv i5
    dsimp only at i6
    cases (eq_of_beq g1)
    cases (eq_of_beq g2)
    cases (eq_of_beq i6)
    cases (strOf_inv q2)
    cases (callOf_inv q)
    exact ⟨fun i => [p0, p1, p2, p3, p4, p5].getD i.val p0, k, st, rfl, setsB_ok h2, g3⟩
theorem basB_ok {bd : List Stmt} (h : basB bd = true) : ∃ q : Fin 10 → Pos, bd = baseBody q ∧ ((q 2).endLine == (q 4).line) = true := by
  unfold basB at h
  split at h
  · rename_i hd st
    obtain ⟨i1, h2⟩ := pb_of h
    obtain ⟨⟨x, a, e, p0, p1, p2, p4, p5⟩, q, i2⟩ := any_inv i1
    dsimp only at i2
    obtain ⟨g1, i3⟩ := pb_of i2
    obtain ⟨g2, i4⟩ := pb_of i3
    obtain ⟨g3, i5⟩ := pb_of i4
    obtain ⟨⟨w, p3⟩, q2, i6⟩ := any_inv i5
    dsimp only at i6
    cases (eq_of_beq g1)
    cases (eq_of_beq g2)
    cases (eq_of_beq i6)
    cases (nameOf_inv q2)
    cases (callOf_inv q)
    cases (setsB_ok h2) with
    | @cons _ _ _ p6 p7 p8 p9 _ => exact ⟨fun i => [p0, p1, p2, p3, p4, p5, p6, p7, p8, p9].getD i.val p0, rfl, g3⟩
  · cases h
/-! ### the scopes, the parameters -/
def scoB (ps : List Str) (sc : Scope) : Bool := decide (sc.kind = .function) && (!sc.isCoroutine && (!sc.isGenerator && (decide (∀ x ∈ sc.names, x.2 ≠ .cell) && (decide (sc.names.lookup ("super" : Str) = some .globalImplicit) && (decide (sc.names.lookup ("__class__" : Str) = some .free) &&
  (decide (∀ p ∈ ps, sc.names.lookup p = some .local) && decide ps.Nodup))))))
def heaB (pa : Arguments) : Bool := (pa.posonlyargs ++ pa.args).head?.any fun a => a.arg == ("self" : Str)
/-- binding, plainly -/
def BindI (pa : Arguments) (ps : List Str) : Prop := ∀ (nm qual : Str) (bd : List Stmt) (sc : Scope) (kV doc pm : Value) (an : Option Addr) (cdv ct : Value) (cc : Addr) (us : List Value), us.length = ps.length → bindArgs (PySem.W.ksFn nm qual pa bd sc .none kV doc pm an cdv ct cc) ⟨us, []⟩ = pure (ps.zip us)
/-! ### the classes -/
def clsVB (K : PySem.W.Frag) (C : Addr) : Bool := match K.lookup C with
  | some ⟨.type "type", _, .cls cd, sl⟩ => (match cd.mro, sl.toList with
    | .ref C' :: bm, [_, _, _, _, some (.builtin n), _] => C' == C && (n == "ValueError.__new__" && (!cd.hasDel && (cd.hasDict && PySem.HandSPX.refsVE bm)))
    | _, _ => false)
  | _ => false
theorem clsVB_ok {K : PySem.W.Frag} {C : Addr} (h : clsVB K C = true) : ∃ nm q N bs bm sn sub ab col dd k0 k1 k2 k3 k5, K.lookup C = some (excClassObj nm q C N bs bm true sn sub ab col dd k0 k1 k2 k3 k5 "ValueError.__new__") ∧ PySem.HandSPX.refsVE bm = true := by
  unfold clsVB at h
  split at h
  · rename_i dd cd sl ho
    split at h
    · rename_i C' bm k0 k1 k2 k3 n k5 hm hs
      obtain ⟨h1, h⟩ := pb_of h
      obtain ⟨h2, h⟩ := pb_of h
      obtain ⟨h3, h⟩ := pb_of h
      obtain ⟨h4, h5⟩ := pb_of h
      have h1 := eq_of_beq h1
      have h2 := eq_of_beq h2
      subst h1 h2
      obtain ⟨nm, bs, mro, ns, qn, hd, sn, sub, ab, col, del⟩ := cd
      dsimp only at hm h3 h4
      subst hm h4
      have hdel : del = false := by simpa using h3
      subst hdel
      have e : sl = #[k0, k1, k2, k3, some (.builtin "ValueError.__new__"), k5] := Array.toList_inj.mp hs
      subst e
      exact ⟨_, _, _, _, _, _, _, _, _, _, _, _, _, _, _, ho, h5⟩
    · cases h
  · cases h
def excB_ (K : PySem.W.Frag) (C : Addr) : Bool := clsVB K C && (decide (PySem.W.findIn K (.ref C) "__setattr__" = some (some (.builtin "object.__setattr__"))) && (decide (PySem.W.subIn K (.ref C) (.type "BaseException") = some true) && (decide (PySem.W.typeIn K (.ref C) = some (.type "type")) && PySem.W.keepIn K (.ref C))))
theorem excB_ok {K : PySem.W.Frag} {C : Addr} (h : excB_ K C = true) : OexC K C := by
  obtain ⟨h1, h⟩ := pb_of h
  obtain ⟨h2, h⟩ := pb_of h
  obtain ⟨h3, h⟩ := pb_of h
  obtain ⟨h4, h5⟩ := pb_of h
  exact ⟨clsVB_ok h1, of_decide_eq_true h2, of_decide_eq_true h3, of_decide_eq_true h4, h5⟩
def excCB (K : PySem.W.Frag) (C : Addr) : Bool := decide (PySem.W.findIn K (.ref C) "__class__" = some (some (.builtin "object.__class__"))) && (decide (PySem.W.specialIn K (.builtin "object.__class__") "__get__" = some (some (.builtin "getset_descriptor.__get__"))) && (decide (PySem.W.takesIn K (.builtin "object.__class__") = some true) && decide (PySem.W.mroIn K C (.type "object") = some true)))
theorem excCB_ok {K : PySem.W.Frag} {C : Addr} (h : excCB K C = true) (X : XfC K C) : ExcC K C := by
  obtain ⟨h1, h⟩ := pb_of h
  obtain ⟨h2, h⟩ := pb_of h
  obtain ⟨h3, h4⟩ := pb_of h
  exact ⟨X.ga, X.gg, X.exC, X.hdC, of_decide_eq_true h1, of_decide_eq_true h2, of_decide_eq_true h3, of_decide_eq_true h4⟩
/-- one class, under the base's -/
def oneB (K : PySem.W.Frag) (fl : List Str) (B C : Addr) : Bool := excB_ K C && (xfB K C && (excCB K C && (decide (PySem.W.subIn K (.ref C) (.type "ValueError") = some true) && (decide (PySem.W.mroIn K C (.ref B) = some true) && (decide (PySem.W.ks_superIn K C B "__init__" = some (some (.builtin "ValueError.__init__"))) &&
  (decide (PySem.W.findIn K (.ref C) "word" = some none) && (fl.all (fun f => decide (PySem.W.findIn K (.ref C) f = some none)) && (decide (PySem.W.kitOne K (.ref C) (.type "ValueError") = some true) && decide (PySem.W.exmOne K (.ref C) (.type "ValueError") = some true)))))))))
structure One (K : PySem.W.Frag) (fl : List Str) (B C : Addr) : Prop where
  e : ErrC K B C
  xf : XfC K C
  ec : ExcC K C
  no : ∀ f ∈ fl, PySem.W.findIn K (.ref C) f = some none
  kv : PySem.W.kitOne K (.ref C) (.type "ValueError") = some true
  xv : PySem.W.exmOne K (.ref C) (.type "ValueError") = some true
theorem oneB_ok {K : PySem.W.Frag} {fl : List Str} {B C : Addr} (h : oneB K fl B C = true) : One K fl B C := by
  obtain ⟨h1, h⟩ := pb_of h
  obtain ⟨h2, h⟩ := pb_of h
  obtain ⟨h3, h⟩ := pb_of h
  obtain ⟨h4, h⟩ := pb_of h
  obtain ⟨h5, h⟩ := pb_of h
  obtain ⟨h6, h⟩ := pb_of h
  obtain ⟨h7, h⟩ := pb_of h
  obtain ⟨h8, h⟩ := pb_of h
  obtain ⟨h9, h10⟩ := pb_of h
  exact ⟨⟨excB_ok h1, of_decide_eq_true h4, of_decide_eq_true h5, of_decide_eq_true h6, of_decide_eq_true h7⟩, xfB_ok h2, excCB_ok h3 (xfB_ok h2), fun f hf => of_decide_eq_true (List.all_eq_true.mp h8 f hf), of_decide_eq_true h9, of_decide_eq_true h10⟩
/-! ### an __init__'s object -/
abbrev FnI : Type := Option (Arguments × FuncBody × Scope × Addr × List Str × Addr)
def fnI (K : PySem.W.Frag) (f : Addr) : FnI := match K.lookup f with
  | some ⟨_, _, .func fd, _⟩ => some (fd.params, fd.body, fd.scope, fd.globals, fd.closure.map (·.1), fd.builtins)
  | _ => none
def codB (K : PySem.W.Frag) (prog : Program) (cd : Value) (q : Str) : Bool := match cd with
  | .ref cda => PySem.W.codeIn K (.ref cda) q && (match K.lookup cda with
    | some ⟨_, _, .fields vs, _⟩ => (match (vs[2]? : Option Value) with
      | some (.str file _) => (prog.main.file : Str) == file
      | _ => false)
    | _ => false)
  | _ => false
def celB (K : PySem.W.Frag) (D : Addr) (cl : List (Str × Addr)) : Bool := match cl with
  | [(_, cc)] => (match K.lookup cc with
    | some ⟨_, _, .cell (some (.ref D')), _⟩ => D' == D
    | _ => false)
  | _ => false
def iniB (K : PySem.W.Frag) (prog : Program) (f D : Addr) : Bool := PySem.W.fnIn K f && (decide (PySem.W.typeIn K (.ref f) = some (.type "function")) && ((PySem.W.clsIn K D).isSome && (match K.lookup f with
  | some ⟨oc, _, .func fd, _⟩ => decide (oc = .type "function") && (decide (fd.defaults = .none) && (codB K prog fd.code fd.qualname && celB K D fd.closure))
  | _ => false)))
theorem ini_ok {K : PySem.W.Frag} {prog : Program} {f D : Addr} {pa : Arguments} {bd : List Stmt} {sc : Scope} {ps : List Str} (h : iniB K prog f D = true) (e : fnI K f = some (pa, .stmts bd, sc, mainGlobals, [("__class__" : Str)], builtinsNs)) (hb : BindI pa ps) (hh : heaB pa = true) (hs : scoB ps sc = true) : InitFn prog K f D pa bd sc ps := by
  obtain ⟨a1, h⟩ := pb_of h
  obtain ⟨a2, h⟩ := pb_of h
  obtain ⟨a3, h⟩ := pb_of h
  obtain ⟨s1, hs⟩ := pb_of hs
  obtain ⟨s2, hs⟩ := pb_of hs
  obtain ⟨s3, hs⟩ := pb_of hs
  obtain ⟨s4, hs⟩ := pb_of hs
  obtain ⟨s5, hs⟩ := pb_of hs
  obtain ⟨s6, hs⟩ := pb_of hs
  obtain ⟨s7, s8⟩ := pb_of hs
  obtain ⟨ar, har, har2⟩ := any_inv hh
  obtain ⟨cdD, hD⟩ := Option.isSome_iff_exists.mp a3
  refine ⟨?_, ⟨ar, har, eq_of_beq har2⟩, a1, of_decide_eq_true s1, by simpa using s2, by simpa using s3, of_decide_eq_true s4, of_decide_eq_true s5, of_decide_eq_true s6, of_decide_eq_true s7, of_decide_eq_true s8⟩
  unfold fnI at e
  split at h
  · rename_i oc od fd osl ho
    rw [ho] at e
    dsimp only at e
    obtain ⟨n1, n2, n3, n4, n5, n6, n7, n8, n9, n10, n11, n12, n13, n14, n15⟩ := fd
    simp only [Option.some.injEq, Prod.mk.injEq] at e
    obtain ⟨e1, e2, e3, e4, e5, e6⟩ := e
    obtain ⟨b1, h⟩ := pb_of h
    obtain ⟨b2, h⟩ := pb_of h
    obtain ⟨b3, b4⟩ := pb_of h
    have z2 := of_decide_eq_true b2
    dsimp only at e1 e2 e3 e4 e5 e6 z2 b3 b4
    subst e1 e2 e3 e4 e6 z2
    unfold codB at b3
    split at b3
    · rename_i cda
      obtain ⟨c1, c2⟩ := pb_of b3
      split at c2
      · rename_i ccl cdd vs ccs hc
        split at c2
        · rename_i file tf hv
          rcases n7 with _ | ⟨⟨nc, cc⟩, _ | ⟨_, _⟩⟩
          · cases b4
          · unfold celB at b4
            dsimp only at b4
            split at b4
            · rename_i cl cld D' csl hcell
              have b4 := eq_of_beq b4
              subst b4
              have e5 : nc = "__class__" := by simpa using e5
              subst e5
              exact ⟨n1, n2, oc, od, osl, _, _, _, _, _, _, cc, _, _, vs, _, file, tf, _, _, _, cdD, ho, of_decide_eq_true b1, c1, hc, hv, c2, hcell, hD, fun us hl => hb _ _ _ _ _ _ _ _ _ _ _ us hl⟩
            · cases b4
          · cases b4
        · cases c2
      · cases c2
    · cases b3
  · cases h
end Mn

/-! # Mini, eighteenth part: the head -/
namespace Mn
open PySem PySem.Spec PyProof.Rows L2

/-! ### a law's layout -/
structure Lay where
  errs : List ErrD
  base : ErrD
  fl : List Str
  tab : List MDef
  fn : List He.DefD
  gi : List (Str × Int)
  bl : List Str
def Lay.names (L : Lay) : List Str := L.errs.map (·.name) ++ [L.base.name]
def Lay.S (L : Lay) : Stat := ⟨fun i => L.tab[i]?, L.gi, L.bl, L.names, L.fl, L.errs.map (·.wd), L.errs.map (·.fs)⟩
def Lay.fa (L : Lay) : List He.Fa := L.names.map He.Fa.glo ++ (L.tab.map (fun d => He.Fa.glo d.name) ++ (L.bl.map He.Fa.free ++ (L.gi.map (fun q => He.Fa.int q.1 q.2) ++ [He.Fa.free "super"])))
def parN (n : Nat) (c c' : Nat) : Bool := c == c' || c' == n
def Lay.par (L : Lay) : Nat → Nat → Bool := parN L.errs.length
def Lay.cA (L : Lay) (K : PySem.W.Frag) : CA := ⟨L.errs.length + 1, fun c => He.ga K (L.names.getD c Str.empty)⟩
def initAt (K : PySem.W.Frag) (e : ErrD) : Addr := He.ma K (He.ga K e.name) "__init__"
def subOkB (K : PySem.W.Frag) (prog : Program) (fB : Addr) (e : ErrD) : Bool := decide (PySem.W.findIn K (.ref (He.ga K e.name)) "__init__" = some (some (.ref (initAt K e)))) && (iniB K prog (initAt K e) (He.ga K e.name) && (decide (PySem.W.mroIn K (He.ga K e.name) (.ref (He.ga K e.name)) = some true) &&
  decide (PySem.W.ks_superIn K (He.ga K e.name) (He.ga K e.name) "__init__" = some (some (.ref fB)))))
def Lay.exB (L : Lay) (prog : Program) (K : PySem.W.Frag) : Bool := L.names.all (fun x => oneB K L.fl (He.ga K L.base.name) (He.ga K x)) && (iniB K prog (initAt K L.base) (He.ga K L.base.name) && (L.errs.all (subOkB K prog (initAt K L.base)) &&
  ((List.range (L.errs.length + 1)).all (fun c => (List.range (L.errs.length + 1)).all fun c' => decide (PySem.W.kitOne K (.ref ((L.cA K).to c)) (.ref ((L.cA K).to c')) = some (L.par c c')) && decide (PySem.W.exmOne K (.ref ((L.cA K).to c)) (.ref ((L.cA K).to c')) = some (L.par c c'))) &&
    decide (PySem.W.nsIn K cStatics "thirdparty.any" = some none))))
def ErrD.val (e : ErrD) : FnI := some (e.params, .stmts e.body, e.scope, mainGlobals, [("__class__" : Str)], builtinsNs)
abbrev AlM : Type := He.AlD × Bool × List FnI
def Lay.obs (L : Lay) (prog : Program) (K : PySem.W.Frag) : AlM := (He.obsD L.fa L.fn K, L.exB prog K, (L.errs ++ [L.base]).map fun e => fnI K (initAt K e))
def Lay.val (L : Lay) : AlM := (He.valD L.fn, true, (L.errs ++ [L.base]).map ErrD.val)
def asM (g : Addr → Option Obj) (n : Nat) : List Addr := cStatics :: He.asD g n
def Lay.obsG (L : Lay) (prog : Program) (n : Nat) (g : Addr → Option Obj) : AlM := L.obs prog (He.frG g (asM g n))
def Lay.hook (L : Lay) (prog : Program) (n : Nat) : PySem.W.Hook where
  α := AlM
  obs := fun s => L.obsG prog n s.heap.get?
  val := fun _ => L.val
  says := fun _ h => ∃ K : PySem.W.Frag, K.In h ∧ L.obs prog K = L.val
  of := fun _ _ e => ⟨_, He.frG_in, e⟩
  keeps := fun _ _ _ ⟨K, hK, c⟩ k => ⟨K, PySem.W.Frag.In.keeps hK k, c⟩
theorem Lay.obs_eq {L : Lay} {prog : Program} {n : Nat} {g : Addr → Option Obj} {s : Shared} (h : ∀ a, g a = s.heap.get? a) : L.obsG prog n g = (L.hook prog n).obs s := by
  have e : g = s.heap.get? := funext h
  rw [e] <;> rfl

/-! ### what is plain of a layout -/
def errSB (fl : List Str) (e : ErrD) : Bool := subBd e.wd e.fs e.body && (scoB ("self" :: e.fs) e.scope && (heaB e.params && (decide (e.fs.length ≤ 800) && (decide (("word" : Str) ∉ e.fs) && e.fs.all fun g => !(g == ("__debug__" : Str)) && fl.contains g))))
def fnsB (N P : List Str) (sc : Scope) : Bool := decide (sc.kind = .function) && (!sc.isCoroutine && (!sc.isGenerator && (decide N.Nodup && (decide (N.take P.length = P) && (P.all (fun x => locB sc x) && sc.names.all fun y => decide (y.2 ≠ .free))))))
theorem fnsB_ok {N P : List Str} {sc : Scope} (h : fnsB N P sc = true) : FnScope N P sc := by
  obtain ⟨h1, h⟩ := pb_of h
  obtain ⟨h2, h⟩ := pb_of h
  obtain ⟨h3, h⟩ := pb_of h
  obtain ⟨h4, h⟩ := pb_of h
  obtain ⟨h5, h⟩ := pb_of h
  obtain ⟨h6, h7⟩ := pb_of h
  exact ⟨of_decide_eq_true h1, by simpa using h2, by simpa using h3, of_decide_eq_true h4, of_decide_eq_true h5, fun x hx => loc_of (List.all_eq_true.mp h6 x hx), fun y hy => of_decide_eq_true (List.all_eq_true.mp h7 y hy)⟩
def defSB (S : Stat) (d : MDef) (f : He.DefD) : Bool := decide (f.at_ = (d.name, none)) && (f.dfl.isEmpty && (f.kwd.isEmpty && (fnsB d.names d.params f.scope && agSs S d.names none true f.scope d.body f.body)))
/-- binding, plainly -/
def BindN (pa : Arguments) (ps : List Str) : Prop := ∀ (x qual : Str) (bd : List Stmt) (sc : Scope) (kV doc pm : Value) (an : Option Addr) (cdv ct : Value) (us : List Value), us.length = ps.length → bindArgs (PySem.W.fnOf x qual pa bd sc .none kV doc pm an cdv ct) ⟨us, []⟩ = pure (ps.zip us)
structure Lay.Ok (L : Lay) (prog : Program) : Prop where
  errs : L.errs.all (errSB L.fl) = true
  bindE : ∀ (i : Nat) (e : ErrD), L.errs[i]? = some e → BindI e.params ("self" :: e.fs)
  base : (basB L.base.body && (scoB ["self", "word"] L.base.scope && heaB L.base.params)) = true
  bindB : BindI L.base.params ["self", "word"]
  defs : ∀ (i : Nat) (d : MDef), L.tab[i]? = some d → ∃ f, L.fn[i]? = some f ∧ defSB L.S d f = true ∧ BindN f.params d.params
  top : (prog.main.scope.names.lookup ("super" : Str)).isSome = false

section
variable {L : Lay} {prog : Program} {w : World} {K : PySem.W.Frag} {h : Heap} {mg : Str → Option Value}
theorem txt_ok (O : L.Ok prog) (X : K.In h) (G : h.Ns mainGlobals mg) (c : L.obs prog K = L.val) : TxtOk L.S (L.cA K) L.par prog w K mg 1 := by
  have cD : He.SaysD L.fa L.fn K := congrArg (fun z : AlM => z.1) c
  have cB : L.exB prog K = true := congrArg (fun z : AlM => z.2.1) c
  have cI : (L.errs ++ [L.base]).map (fun e => fnI K (initAt K e)) = (L.errs ++ [L.base]).map ErrD.val := congrArg (fun z : AlM => z.2.2) c
  have fact : ∀ f ∈ L.fa, f.ok K = true := fun f hf => by
    obtain ⟨i, hi, e⟩ := List.mem_iff_getElem.mp hf
    exact cD.fact i (by rw [List.getElem?_eq_getElem hi, e])
  have iniE : ∀ e ∈ L.errs ++ [L.base], fnI K (initAt K e) = e.val := fun e he => by
    obtain ⟨i, hi, q⟩ := List.mem_iff_getElem.mp he
    have z : ((L.errs ++ [L.base]).map (fun e => fnI K (initAt K e)))[i]? = ((L.errs ++ [L.base]).map ErrD.val)[i]? := by rw [cI]
    rw [List.getElem?_map, List.getElem?_map, List.getElem?_eq_getElem hi, q] at z
    exact Option.some.inj z
  obtain ⟨b1, hb⟩ := pb_of cB
  obtain ⟨b2, hb⟩ := pb_of hb
  obtain ⟨b3, hb⟩ := pb_of hb
  obtain ⟨b4, b5⟩ := pb_of hb
  have b5 := of_decide_eq_true b5
  have len : L.names.length = L.errs.length + 1 := by simp [Lay.names]
  have toN : ∀ {c : Nat} {x : Str}, L.names[c]? = some x → (L.cA K).to c = He.ga K x := fun {c x} q => by
    show He.ga K (L.names.getD c Str.empty) = He.ga K x
    rw [List.getD_eq_getElem?_getD, q]
    rfl
  have glo : ∀ x ∈ L.names, mg x = some (.ref (He.ga K x)) := fun x hx => He.glo_ok X G (fact (.glo x) (List.mem_append_left _ (List.mem_map_of_mem hx)))
  have one : ∀ x ∈ L.names, One K L.fl (He.ga K L.base.name) (He.ga K x) := fun x hx => oneB_ok (List.all_eq_true.mp b1 x hx)
  have ix : ∀ c, c < L.errs.length + 1 → ∃ x, L.names[c]? = some x ∧ x ∈ L.names := fun c hc => by
    have hc : c < L.names.length := by rw [len]; exact hc
    exact ⟨L.names[c], List.getElem?_eq_getElem hc, List.getElem_mem hc⟩
  have mat : ∀ c c', c < L.errs.length + 1 → c' < L.errs.length + 1 → PySem.W.kitOne K (.ref ((L.cA K).to c)) (.ref ((L.cA K).to c')) = some (L.par c c') ∧ PySem.W.exmOne K (.ref ((L.cA K).to c)) (.ref ((L.cA K).to c')) = some (L.par c c') := fun c c' h1 h2 => by
    obtain ⟨z1, z2⟩ := pb_of (List.all_eq_true.mp (List.all_eq_true.mp b4 c (List.mem_range.mpr h1)) c' (List.mem_range.mpr h2))
    exact ⟨of_decide_eq_true z1, of_decide_eq_true z2⟩
  have free : ∀ x, L.bl.contains x = true → mg x = none := fun x hx => He.free_ok X G (fact (.free x) (by
    refine List.mem_append_right _ (List.mem_append_right _ (List.mem_append_left _ (List.mem_map_of_mem ?_)))
    simpa using hx))
  have SG : SupG prog mg K := ⟨O.top, He.free_ok X G (fact (.free "super") (by simp [Lay.fa])), b5⟩
  obtain ⟨o1, o2⟩ := pb_of O.base
  obtain ⟨o2, o3⟩ := pb_of o2
  obtain ⟨qB, eB, lB⟩ := basB_ok o1
  have IB : InitFn prog K (initAt K L.base) (He.ga K L.base.name) L.base.params (baseBody qB) L.base.scope ["self", "word"] := by
    rw [← eB]
    exact ini_ok b2 (iniE L.base (by simp)) O.bindB o3 o2
  refine ⟨free, fun x i hx => He.int_ok X G (fact (.int x i) ?_), ⟨?_, fun c x q => by rw [toN q]; exact glo x (List.mem_of_getElem? q), fun c hc => ?_, fun c f hc hf => ?_, fun c hc => ?_, fun c c' h1 h2 => (mat c c' h1 h2).1, fun c hc => ?_, fun c c' h1 h2 => (mat c c' h1 h2).2, fun c hc => ?_⟩, fun i d hd => ?_, fun Xc e1 e2 e3 e4 hc hr => ?_⟩
  · refine List.mem_append_right _ (List.mem_append_right _ (List.mem_append_right _ (List.mem_append_left _ ?_)))
    exact List.mem_map.mpr ⟨(x, i), by simpa [Lay.S] using hx, rfl⟩
  · exact len
  · obtain ⟨x, q, hx⟩ := ix c hc
    rw [toN q]
    exact (one x hx).xf
  · obtain ⟨x, q, hx⟩ := ix c hc
    rw [toN q]
    exact (one x hx).no f hf
  · obtain ⟨x, q, hx⟩ := ix c hc
    rw [toN q]
    exact (one x hx).ec
  · obtain ⟨x, q, hx⟩ := ix c hc
    rw [toN q]
    exact (one x hx).kv
  · obtain ⟨x, q, hx⟩ := ix c hc
    rw [toN q]
    exact (one x hx).xv
  · obtain ⟨f, hf, hs, hbn⟩ := O.defs i d hd
    obtain ⟨s1, hs⟩ := pb_of hs
    obtain ⟨s2, hs⟩ := pb_of hs
    obtain ⟨s3, hs⟩ := pb_of hs
    obtain ⟨s4, s5⟩ := pb_of hs
    have s1 := of_decide_eq_true s1
    obtain ⟨fd, F⟩ := cD.def_ i hf
    have e1 : f.dvs K = [] := by unfold He.DefD.dvs; rw [List.isEmpty_iff.mp s2]; rfl
    have e2 : f.kws K = [] := by unfold He.DefD.kws; rw [List.isEmpty_iff.mp s3]; rfl
    rw [e1, e2] at F
    have e3 : He.fAd K f.at_ = He.ga K d.name := by rw [s1]; rfl
    refine ⟨f.name, f.qual, f.params, f.body, f.scope, He.fAd K f.at_, fd, ?_, F, F.bindsA fun kV doc pm an cdv ct us hl => hbn _ _ _ _ _ _ _ _ _ _ us hl, fnsB_ok s4, s5⟩
    rw [e3]
    exact He.glo_ok X G (fact (.glo d.name) (List.mem_append_right _ (List.mem_append_left _ (List.mem_map.mpr ⟨d, List.mem_of_getElem? hd, rfl⟩))))
  · refine mk_ok (B := He.ga K L.base.name) (fB := initAt K L.base) SG IB lB (fun c x fs wd q1 q2 q3 => ?_) (fun c x q => ?_) Xc e1 e2 e3 e4 hc hr
    · have q2 : (L.errs.map (·.fs))[c]? = some fs := q2
      have q3 : (L.errs.map (·.wd))[c]? = some wd := q3
      have q1 : L.names[c]? = some x := q1
      rw [List.getElem?_map] at q2 q3
      cases he : L.errs[c]? with
      | none => rw [he] at q2; cases q2
      | some e =>
        rw [he] at q2 q3
        have q2 : e.fs = fs := Option.some.inj q2
        have q3 : e.wd = wd := Option.some.inj q3
        have hx : x = e.name := by
          unfold Lay.names at q1
          rw [List.getElem?_append_left (by rw [List.length_map]; exact (List.getElem?_eq_some_iff.mp he).1), List.getElem?_map, he] at q1
          exact (Option.some.inj q1).symm
        have hm : e ∈ L.errs := List.mem_of_getElem? he
        obtain ⟨z1, hz⟩ := pb_of (List.all_eq_true.mp O.errs e hm)
        obtain ⟨z2, hz⟩ := pb_of hz
        obtain ⟨z3, hz⟩ := pb_of hz
        obtain ⟨z4, hz⟩ := pb_of hz
        obtain ⟨z5, z6⟩ := pb_of hz
        obtain ⟨q, k, st, eb, sx, hl⟩ := subBd_ok z1
        obtain ⟨y1, hy⟩ := pb_of (List.all_eq_true.mp b3 e hm)
        obtain ⟨y2, hy⟩ := pb_of hy
        obtain ⟨y3, y4⟩ := pb_of hy
        have hn : e.name ∈ L.names := List.mem_append_left _ (List.mem_map_of_mem hm)
        have I := ini_ok y2 (iniE e (List.mem_append_left _ hm)) (O.bindE c e he) z3 z2
        rw [eb] at I
        obtain ⟨_, hI⟩ := pb_of y2
        obtain ⟨tI, _⟩ := pb_of hI
        rw [toN q1]
        subst hx q2 q3
        refine ⟨glo _ hn, ⟨(one _ hn).e, of_decide_eq_true y3, of_decide_eq_true y4⟩, ⟨_, _, q, k, st, _, of_decide_eq_true y1, of_decide_eq_true tI, I, sx, hl⟩, of_decide_eq_true z4, fun g hg => ?_, of_decide_eq_true z5⟩
        obtain ⟨v1, v2⟩ := pb_of (List.all_eq_true.mp z6 g hg)
        exact ⟨(one _ hn).no g (by simpa using v2), not_eq v1⟩
    · have q : L.names[c]? = some x := q
      rw [toN q]
      exact ⟨glo x (List.mem_of_getElem? q), (one x (List.mem_of_getElem? q)).e.kC⟩
/-- what never lets anything out -/
theorem FnOk.shut {P : Program} {w : World} {K : PySem.W.Frag} {mg : Str → Option Value} {base : Heap} {k : Nat} {f : Addr} {fd : FuncData} {ps : List Str} {sp sp' : Sp} (F : FnOk P w K mg base (L2.CX P w) k f fd ps sp) (h : ∀ vs H Q E, sp' vs H Q E → sp vs H Q fun _ _ _ => False) : FnOk P w K mg base L2.CX0 k f fd ps sp' :=
  ⟨fun vs H Q E q => F.len vs H Q _ (h _ _ _ _ q), fun A outer s H args us vs Q E hr he hb hv hs => codeAny_mono (F.run A outer s H args us vs Q _ hr he hb hv (h _ _ _ _ hs)) fun r s' z => by
    cases r with
    | ok fl => cases fl <;> exact z
    | error e =>
      obtain ⟨a, B, H', cls, d, _, _, _, _, _, _, _, q⟩ := (show L2.CX P w outer H s (fun _ _ _ => False) e s' from z)
      exact q.elim⟩
/-- the law's promise -/
def spLaw (K : PySem.W.Frag) (cA : CA) (g : List D → Mem → R D) : Sp := fun vs H Q _ => ∃ (a : Addr) (ns : List Int), vs = [.ref a] ∧ ns.length ≤ 63 ∧ RoL K H a (ns.map V.int) ∧ (∃ μ, g [.loc 0] [.ro (ns.map D.int)] = .ok (.bl true) μ) ∧ ∀ H', Q (.bl true) H'
theorem law_fn {P : Program} {w : World} {K : PySem.W.Frag} {mg : Str → Option Value} {base : Heap} {cA : CA} {k : Nat} {f : Addr} {fd : FuncData} {ps : List Str} {g : List D → Mem → R D} (F : FnOk P w K mg base (L2.CX P w) k f fd ps (spM K cA 1 g)) : FnOk P w K mg base L2.CX0 k f fd ps (spLaw K cA g) := by
  refine FnOk.shut F fun vs H Q E h => ?_
  obtain ⟨a, ns, rfl, _, hS, ⟨μ, e⟩, hQ⟩ := h
  refine ⟨rfl, [a], [.ro (ns.map D.int)], [.loc 0], ⟨rfl, fun i j b o u h1 h2 m1 m2 g1 g2 => ?_, fun i o b h1 h2 => ?_⟩, .cons (.loc rfl) .nil, ?_⟩
  · cases i with
    | zero => simp at h1; subst h1; cases m1
    | succ i => simp at h1
  · cases i with
    | zero =>
      simp at h1 h2
      subst h1 h2
      exact ⟨_, hS, Rvs.of_ints ns⟩
    | succ i => simp at h1
  · rw [e]
    intro ρ' H' x _ _ _ rv
    cases rv
    exact hQ H'
theorem ro_of {K : PySem.W.Frag} {H : Hp} {a : Addr} {xs : List V} (hO : Only H) (h : SqL K H a xs) : RoL K H a xs := by
  rcases h with (h | h) | h
  · rcases hO a with e | ⟨o, ys, e⟩ <;> rw [e] at h <;> cases h
  · exact .inl h
  · exact .inr h
theorem law_end {L : Lay} {prog : Program} {w : World} {K : PySem.W.Frag} {h : Heap} {mg : Str → Option Value} {i n fa : Nat} {d : MDef} {x : Str} (O : TxtOk L.S (L.cA K) L.par prog w K mg 1) (X : K.In h) (hd : L.S.T i = some d) (hx : d.params = [x]) (hn : d.name = "law") (hmg : mg ("law" : Str) = some (.ref fa))
    (math : ∀ ns : List Int, ns.length ≤ 63 → ∃ μ, callN L.par (mkX L.S) L.S.T n i [.loc 0] [.ro (ns.map D.int)] = .ok (.bl true) μ) :
    ∃ (K : PySem.W.Frag) (fd : FuncData) (sp : Sp), K.In h ∧ (∀ (s : Shared) (u : Value), BindsTo s fd ⟨[u], []⟩ [(x, u)]) ∧
        (∀ (H : Hp) (a : Addr) (ns : List Int), ns.length ≤ 63 → Only H → SqL K H a (ns.map V.int) → sp [.ref a] H (fun v _ => v = .bl true) fun _ _ _ => False) ∧
        ∀ base : Heap, K.In base → base.Ns mainGlobals mg → FnOk prog w K mg base L2.CX0 (n + 1) fa fd [x] sp := by
  obtain ⟨x', qual', pa', bd', sc', f, fd, g, F, B, Sc, ag⟩ := (O.defs i d hd).ex
  rw [hn] at g
  cases (hmg.symm.trans g)
  rw [hx] at B
  refine ⟨K, fd, spLaw K (L.cA K) (callN L.par (mkX L.S) L.S.T n i), X, fun s u => B s [u] rfl, fun H a ns hl hO hS => ⟨a, ns, rfl, hl, ro_of hO hS, math ns hl, fun _ => rfl⟩, fun base _ _ => ?_⟩
  have z := def_run O base n i d hd F Sc ag
  rw [hx] at z
  exact law_fn z
end
end Mn

/-! # Mini: reasoning about the interpreter, plainly -/
namespace Mn
open PySem

def R.wp {α : Type} (r : R α) (Q : α → Mem → Prop) (E : Exn → Mem → Prop) : Prop := match r with
  | .ok a μ => Q a μ
  | .exc x μ => E x μ
  | .stuck => False
structure Post where
  nx : Env' → Mem → Prop
  rt : D → Mem → Prop
  ex : Exn → Env' → Mem → Prop
  br : Env' → Mem → Prop
  ct : Env' → Mem → Prop
def SR.wp (r : SR) (P : Post) : Prop := match r with
  | .nx env μ => P.nx env μ
  | .rt d μ => P.rt d μ
  | .ex x env μ => P.ex x env μ
  | .br env μ => P.br env μ
  | .ct env μ => P.ct env μ
  | .stuck => False
section
variable {α β : Type} {Q Q' : α → Mem → Prop} {E E' : Exn → Mem → Prop} {P P' : Post}
theorem wp_ok (a : α) (μ : Mem) : (R.ok a μ).wp Q E = Q a μ := rfl
theorem wp_exc (x : Exn) (μ : Mem) : (R.exc x μ : R α).wp Q E = E x μ := rfl
theorem wp_bind (r : R β) (f : β → Mem → R α) : (r.bind f).wp Q E = r.wp (fun b μ => (f b μ).wp Q E) E := by cases r <;> rfl
theorem wp_st (r : R D) (env : Env') (k : D → Mem → SR) : (r.st env k).wp P = r.wp (fun d μ => (k d μ).wp P) (fun x μ => P.ex x env μ) := by cases r <;> rfl
theorem wp_sts (r : R (List D)) (env : Env') (k : List D → Mem → SR) : (r.sts env k).wp P = r.wp (fun d μ => (k d μ).wp P) (fun x μ => P.ex x env μ) := by cases r <;> rfl
theorem wp_stI (r : R It) (env : Env') (k : It → Mem → SR) : (r.stI env k).wp P = r.wp (fun d μ => (k d μ).wp P) (fun x μ => P.ex x env μ) := by cases r <;> rfl
theorem wp_nx (env : Env') (μ : Mem) : (SR.nx env μ).wp P = P.nx env μ := rfl
theorem wp_rt (d : D) (μ : Mem) : (SR.rt d μ).wp P = P.rt d μ := rfl
theorem wp_br (env : Env') (μ : Mem) : (SR.br env μ).wp P = P.br env μ := rfl
theorem wp_ct (env : Env') (μ : Mem) : (SR.ct env μ).wp P = P.ct env μ := rfl
theorem wp_ex (x : Exn) (env : Env') (μ : Mem) : (SR.ex x env μ).wp P = P.ex x env μ := rfl
theorem R.wp_mono {r : R α} (h : r.wp Q E) (q : ∀ a μ, Q a μ → Q' a μ) (e : ∀ x μ, E x μ → E' x μ) : r.wp Q' E' := by
  cases r with
  | ok a μ => exact q a μ h
  | exc x μ => exact e x μ h
  | stuck => exact h
theorem R.of_wp {r : R α} (h : r.wp Q fun _ _ => False) : ∃ a μ, r = .ok a μ ∧ Q a μ := by
  cases r with
  | ok a μ => exact ⟨a, μ, rfl, h⟩
  | exc x μ => exact h.elim
  | stuck => exact (show False from h).elim
end
section
variable {par : Nat → Nat → Bool} {mk : Nat → List D → Option Exn} {call : Nat → List D → Mem → R D} {cx : Option Exn}
/-- one statement after another -/
theorem wp_cons (s : MS) (r : MSs) (env : Env') (μ : Mem) (P : Post) : (execSs par mk call cx (.cons s r) env μ).wp P = (execS par mk call cx s env μ).wp { P with nx := fun env μ => (execSs par mk call cx r env μ).wp P } := by
  rw [execSs]
  cases execS par mk call cx s env μ <;> rfl
theorem wp_nil (env : Env') (μ : Mem) (P : Post) : (execSs par mk call cx .nil env μ).wp P = P.nx env μ := rfl
theorem wp_asg (t : Tgt) (e : ME) (env : Env') (μ : Mem) (P : Post) : (execS par mk call cx (.asg t e) env μ).wp P = (evalE par call cx e env μ).wp (fun d μ => ∃ env', setT t d env = some env' ∧ P.nx env' μ) (fun x μ => P.ex x env μ) := by
  rw [execS, wp_st]
  congr 1
  funext d μ
  cases setT t d env with
  | none => simp [SR.wp]
  | some e => simp [SR.wp]
theorem wp_ite (t : ME) (a b : MSs) (env : Env') (μ : Mem) (P : Post) : (execS par mk call cx (.ite t a b) env μ).wp P = (evalE par call cx t env μ).wp (fun d μ => ∃ k, truM μ d = some k ∧ (if k = true then (execSs par mk call cx a env μ).wp P else (execSs par mk call cx b env μ).wp P)) (fun x μ => P.ex x env μ) := by
  rw [execS, wp_st]
  congr 1
  funext d μ
  cases truM μ d with
  | none => simp [SR.wp]
  | some k => cases k <;> simp
theorem wp_ret (e : ME) (env : Env') (μ : Mem) (P : Post) : (execS par mk call cx (.ret e) env μ).wp P = (evalE par call cx e env μ).wp P.rt (fun x μ => P.ex x env μ) := by rw [execS, wp_st]; rfl
theorem wp_expr (e : ME) (env : Env') (μ : Mem) (P : Post) : (execS par mk call cx (.expr e) env μ).wp P = (evalE par call cx e env μ).wp (fun _ μ => P.nx env μ) (fun x μ => P.ex x env μ) := by rw [execS, wp_st]; rfl
theorem wp_raise (c : Nat) (es : MEs) (env : Env') (μ : Mem) (P : Post) : (execS par mk call cx (.raise c es) env μ).wp P = (evalEs par call cx es env μ).wp (fun ds μ => ∃ x, mk c ds = some x ∧ P.ex x env μ) (fun x μ => P.ex x env μ) := by
  rw [execS, wp_sts]
  congr 1
  funext d μ
  cases mk c d with
  | none => simp [SR.wp]
  | some k => simp [SR.wp]
/-- a loop's turn -/
def forF (par : Nat → Nat → Bool) (mk : Nat → List D → Option Exn) (call : Nat → List D → Mem → R D) (cx : Option Exn) (t : Tgt) (b : MSs) : D → Env' → Mem → SR := fun d env μ => match setT t d env with
  | some env => execSs par mk call cx b env μ
  | none => .stuck
theorem wp_forF (t : Tgt) (b : MSs) (d : D) (env : Env') (μ : Mem) (P : Post) : (forF par mk call cx t b d env μ).wp P = ∃ env', setT t d env = some env' ∧ (execSs par mk call cx b env' μ).wp P := by
  unfold forF
  cases setT t d env with
  | none => simp [SR.wp]
  | some e => simp
theorem wp_for (t : Tgt) (it : MI) (b : MSs) (env : Env') (μ : Mem) (P : Post) : (execS par mk call cx (.for t it b) env μ).wp P = (evalI par call cx it env μ).wp (fun w μ => (forGo w (forF par mk call cx t b) w.fuel 0 env μ).wp P) (fun x μ => P.ex x env μ) := by
  rw [execS, wp_stI]
  rfl
theorem wp_test (r : R D) (k : Bool → Mem → R D) (Q : D → Mem → Prop) (E : Exn → Mem → Prop) : (r.test k).wp Q E = r.wp (fun d μ => ∃ b, truM μ d = some b ∧ (k b μ).wp Q E) E := by
  unfold R.test
  rw [wp_bind]
  congr 1
  funext d μ
  cases truM μ d with
  | none => simp [R.wp]
  | some b => simp
/-- a loop over what is known -/
theorem wp_for_items {xs : List D} {f : D → Env' → Mem → SR} {P : Post} (I : Nat → Env' → Mem → Prop) {env : Env'} {μ : Mem} (h0 : I 0 env μ)
    (hs : ∀ i d env μ, xs[i]? = some d → I i env μ → (f d env μ).wp { P with nx := I (i + 1), ct := I (i + 1), br := P.nx }) (he : ∀ env μ, I xs.length env μ → P.nx env μ) : (forGo (.items xs) f xs.length 0 env μ).wp P := by
  have key : ∀ n i env μ, n + i = xs.length → I i env μ → (forGo (.items xs) f n i env μ).wp P := by
    intro n
    induction n with
    | zero =>
      intro i env μ hi hI
      have : xs[i]? = none := List.getElem?_eq_none (by omega)
      simp only [forGo, It.at, this]
      have hi : i = xs.length := by omega
      subst hi
      exact he _ _ hI
    | succ n ih =>
      intro i env μ hi hI
      have hl : i < xs.length := by omega
      have e : xs[i]? = some xs[i] := List.getElem?_eq_getElem hl
      have z := hs i _ env μ e hI
      simp only [forGo, It.at, e]
      cases hf : f xs[i] env μ with
      | nx env μ => rw [hf] at z; exact ih _ _ _ (by omega) z
      | ct env μ => rw [hf] at z; exact ih _ _ _ (by omega) z
      | br env μ => rw [hf] at z; exact z
      | rt d μ => rw [hf] at z; exact z
      | ex x env μ => rw [hf] at z; exact z
      | stuck => rw [hf] at z; exact z
  exact key _ 0 env μ rfl h0
end
section
variable {par : Nat → Nat → Bool} {mk : Nat → List D → Option Exn} {T : Nat → Option MDef}
/-- a call whose garbage goes -/
theorem call_eq {n f : Nat} {d : MDef} {ds : List D} {μ μ1 : Mem} {v : D} (hT : T f = some d) (hl : ds.length = d.params.length) (hm : Mem.under μ.length μ1 = true) (hv : v.under μ.length = true)
    (h : (execSs par mk (callN par mk T n) none d.body (startD d ds) μ).wp ⟨fun _ μ' => v = .non ∧ μ'.take μ.length = μ1, fun u μ' => u = v ∧ μ'.take μ.length = μ1, fun _ _ _ => False, fun _ _ => False, fun _ _ => False⟩) :
    callN par mk T (n + 1) f ds μ = .ok v μ1 := by
  unfold callN
  rw [hT]
  dsimp only
  rw [if_pos hl]
  cases hr : execSs par mk (callN par mk T n) none d.body (startD d ds) μ with
  | nx env μ' =>
    rw [hr] at h
    obtain ⟨h1, h2⟩ := h
    subst h1
    show (if Mem.under μ.length (μ'.take μ.length) = true then R.ok D.non (μ'.take μ.length) else R.ok D.non μ') = _
    rw [h2, if_pos hm]
  | rt u μ' =>
    rw [hr] at h
    obtain ⟨h1, h2⟩ := h
    subst h1
    show (if (u.under μ.length && Mem.under μ.length (μ'.take μ.length)) = true then R.ok u (μ'.take μ.length) else R.ok u μ') = _
    rw [h2, if_pos (by rw [hm, hv]; rfl)]
  | ex x env μ' => rw [hr] at h; exact (show False from h).elim
  | br env μ' => rw [hr] at h; exact (show False from h).elim
  | ct env μ' => rw [hr] at h; exact (show False from h).elim
  | stuck => rw [hr] at h; exact (show False from h).elim
/-- a call that ends by an error -/
theorem call_exc {n f : Nat} {d : MDef} {ds : List D} {μ μ1 : Mem} {x : Exn} (hT : T f = some d) (hl : ds.length = d.params.length) (hm : Mem.under μ.length μ1 = true) (hv : x.under μ.length = true)
    (h : (execSs par mk (callN par mk T n) none d.body (startD d ds) μ).wp ⟨fun _ _ => False, fun _ _ => False, fun y _ μ' => y = x ∧ μ'.take μ.length = μ1, fun _ _ => False, fun _ _ => False⟩) :
    callN par mk T (n + 1) f ds μ = .exc x μ1 := by
  unfold callN
  rw [hT]
  dsimp only
  rw [if_pos hl]
  cases hr : execSs par mk (callN par mk T n) none d.body (startD d ds) μ with
  | ex y env μ' =>
    rw [hr] at h
    obtain ⟨h1, h2⟩ := h
    subst h1
    show (if (y.under μ.length && Mem.under μ.length (μ'.take μ.length)) = true then R.exc y (μ'.take μ.length) else R.exc y μ') = _
    rw [h2, if_pos (by rw [hm, hv]; rfl)]
  | nx env μ' => rw [hr] at h; exact (show False from h).elim
  | rt u μ' => rw [hr] at h; exact (show False from h).elim
  | br env μ' => rw [hr] at h; exact (show False from h).elim
  | ct env μ' => rw [hr] at h; exact (show False from h).elim
  | stuck => rw [hr] at h; exact (show False from h).elim
end
end Mn

/-! # Mini: memories of plain values -/
namespace Mn
open PySem

def MO.pl : MO → Bool
  | .lst xs => D.pures xs
  | .ro xs => D.pures xs
  | .dic _ => false
/-- nothing in the memory names a place -/
def Pu (μ : Mem) : Prop := ∀ o ∈ μ, o.pl = true
mutual
theorem under_pure {n : Nat} : ∀ {d : D}, d.pure = true → d.under n = true
  | .non, _ => rfl
  | .bl _, _ => rfl
  | .int _, _ => rfl
  | .str _, _ => rfl
  | .tup xs, h => unders_pures (xs := xs) h
  | .loc _, h => by cases h
theorem unders_pures {n : Nat} : ∀ {xs : List D}, D.pures xs = true → D.unders n xs = true
  | [], _ => rfl
  | d :: ds, h => by
    rw [D.pures, Bool.and_eq_true] at h
    rw [D.unders, under_pure h.1, unders_pures h.2]
    rfl
end
theorem Pu.under {μ : Mem} (h : Pu μ) (n : Nat) : Mem.under n μ = true := List.all_eq_true.mpr fun o ho => by
  have z := h o ho
  cases o with
  | lst xs => exact unders_pures z
  | ro xs => exact unders_pures z
  | dic _ => cases z
theorem Pu.push {μ : Mem} {xs : List D} (h : Pu μ) (hx : D.pures xs = true) : Pu (μ ++ [.lst xs]) := fun o ho => by
  rcases List.mem_append.mp ho with ho | ho
  · exact h o ho
  · simp at ho; subst ho; exact hx
theorem Pu.set {μ : Mem} {xs : List D} {l : Nat} (h : Pu μ) (hx : D.pures xs = true) : Pu (μ.set l (.lst xs)) := fun o ho => by
  rcases List.mem_or_eq_of_mem_set ho with ho | ho
  · exact h o ho
  · subst ho; exact hx
theorem pures_append {xs ys : List D} : D.pures (xs ++ ys) = (D.pures xs && D.pures ys) := by
  induction xs with
  | nil => simp [D.pures]
  | cons x xs ih => simp [D.pures, ih, Bool.and_assoc]
theorem pures_all {xs : List D} : D.pures xs = xs.all D.pure := by
  induction xs with
  | nil => rfl
  | cons x xs ih => rw [D.pures, ih]; rfl
section
variable {par : Nat → Nat → Bool} {mk : Nat → List D → Option Exn} {T : Nat → Option MDef}
theorem call_pu {n f : Nat} {d : MDef} {ds : List D} {μ μ1 : Mem} {v : D} (hT : T f = some d) (hl : ds.length = d.params.length) (hm : Pu μ1) (hv : v.pure = true)
    (h : (execSs par mk (callN par mk T n) none d.body (startD d ds) μ).wp ⟨fun _ μ' => v = .non ∧ μ'.take μ.length = μ1, fun u μ' => u = v ∧ μ'.take μ.length = μ1, fun _ _ _ => False, fun _ _ => False, fun _ _ => False⟩) :
    callN par mk T (n + 1) f ds μ = .ok v μ1 := call_eq hT hl (hm.under _) (under_pure hv) h
theorem under_exn {n : Nat} {x : Exn} (h : x.fs.all (fun p => p.2.pure) = true) : x.under n = true := List.all_eq_true.mpr fun p hp => under_pure (List.all_eq_true.mp h p hp)
/-- a call that gives a new list -/
theorem call_loc {n f : Nat} {d : MDef} {ds : List D} {μ μ1 : Mem} {l : Nat} (hT : T f = some d) (hl : ds.length = d.params.length) (hv : μ.length ≤ l)
    (h : (execSs par mk (callN par mk T n) none d.body (startD d ds) μ).wp ⟨fun _ _ => False, fun u μ' => u = .loc l ∧ μ' = μ1, fun _ _ _ => False, fun _ _ => False, fun _ _ => False⟩) :
    callN par mk T (n + 1) f ds μ = .ok (.loc l) μ1 := by
  unfold callN
  rw [hT]
  dsimp only
  rw [if_pos hl]
  cases hr : execSs par mk (callN par mk T n) none d.body (startD d ds) μ with
  | rt u μ' =>
    rw [hr] at h
    obtain ⟨h1, h2⟩ := h
    subst h1 h2
    show (if (D.under μ.length (D.loc l) && Mem.under μ.length (μ'.take μ.length)) = true then R.ok (D.loc l) (μ'.take μ.length) else R.ok (D.loc l) μ') = _
    have : D.under μ.length (D.loc l) = false := by simp [D.under]; omega
    rw [this, Bool.false_and, if_neg Bool.false_ne_true]
  | nx env μ' => rw [hr] at h; exact (show False from h).elim
  | ex x env μ' => rw [hr] at h; exact (show False from h).elim
  | br env μ' => rw [hr] at h; exact (show False from h).elim
  | ct env μ' => rw [hr] at h; exact (show False from h).elim
  | stuck => rw [hr] at h; exact (show False from h).elim
end
end Mn

/-! # Mini: == over plain values -/
namespace Mn
open PySem

mutual
/-- plain, its texts short, no deeper than k -/
def D.shp : Nat → D → Bool
  | _, .non => true
  | _, .bl _ => true
  | _, .int _ => true
  | _, .str s => PyData.canLay0 (.str s)
  | k + 1, .tup xs => D.shps k xs
  | 0, .tup _ => false
  | _, .loc _ => false
def D.shps : Nat → List D → Bool
  | _, [] => true
  | k, d :: ds => d.shp k && D.shps k ds
end
mutual
theorem shp_pure : ∀ {k : Nat} {d : D}, d.shp k = true → d.pure = true
  | _, .non, _ => rfl
  | _, .bl _, _ => rfl
  | _, .int _, _ => rfl
  | _, .str _, _ => rfl
  | k + 1, .tup xs, h => shps_pures (k := k) (xs := xs) h
  | 0, .tup _, h => by cases h
  | _, .loc _, h => by cases h
theorem shps_pures : ∀ {k : Nat} {xs : List D}, D.shps k xs = true → D.pures xs = true
  | _, [], _ => rfl
  | k, d :: ds, h => by
    rw [D.shps, Bool.and_eq_true] at h
    rw [D.pures, shp_pure h.1, shps_pures h.2]
    rfl
end
mutual
theorem shp_lay : ∀ {k : Nat} {d : D}, d.shp k = true → d.py.canLay0 = true ∧ d.py.depth ≤ k
  | _, .non, _ => ⟨rfl, Nat.zero_le _⟩
  | _, .bl _, _ => ⟨rfl, Nat.zero_le _⟩
  | _, .int _, _ => ⟨rfl, Nat.zero_le _⟩
  | _, .str _, h => ⟨h, Nat.zero_le _⟩
  | k + 1, .tup xs, h => by
    obtain ⟨h1, h2⟩ := shps_lay (k := k) (xs := xs) h
    refine ⟨h1, ?_⟩
    show (PyData.tuple (D.pys xs)).depth ≤ k + 1
    rw [PyData.depth]
    omega
  | 0, .tup _, h => by cases h
  | _, .loc _, h => by cases h
theorem shps_lay : ∀ {k : Nat} {xs : List D}, D.shps k xs = true → PyData.canLayAll0 (D.pys xs) = true ∧ PyData.depthAll (D.pys xs) ≤ k
  | _, [], _ => ⟨rfl, Nat.zero_le _⟩
  | k, d :: ds, h => by
    rw [D.shps, Bool.and_eq_true] at h
    obtain ⟨a1, a2⟩ := shp_lay h.1
    obtain ⟨b1, b2⟩ := shps_lay h.2
    rw [D.pys, PyData.canLayAll0, PyData.depthAll, a1, b1]
    exact ⟨rfl, Nat.max_le.mpr ⟨a2, b2⟩⟩
end
theorem shp_shaped {d : D} (h : d.shp 63 = true) : SeqAt.shaped d.py = true := by
  obtain ⟨h1, h2⟩ := shp_lay h
  unfold SeqAt.shaped
  rw [h1, Bool.true_and]
  exact decide_eq_true (by omega)
theorem shps_shaped {xs : List D} (h : D.shps 63 xs = true) : SeqAt.shaped (.list (D.pys xs)) = true := by
  obtain ⟨h1, h2⟩ := shps_lay h
  unfold SeqAt.shaped
  rw [show (PyData.list (D.pys xs)).canLay0 = PyData.canLayAll0 (D.pys xs) from rfl, h1, Bool.true_and]
  refine decide_eq_true ?_
  rw [PyData.depth]
  omega
/-- == of two plain values -/
def D.eqv (x y : D) : Bool := PyData.eqv x.py y.py
theorem eqArg_shp {x : D} {μ : Mem} (h : x.shp 63 = true) : eqArg μ x = some x.py := by
  have hp := shp_pure h
  cases x with
  | loc l => cases h
  | _ =>
    unfold eqArg
    dsimp only
    rw [if_pos hp]
theorem eqM_shp {x y : D} {μ : Mem} (hx : x.shp 63 = true) (hy : y.shp 63 = true) : eqM x y μ = some (x.eqv y) := by
  unfold eqM
  rw [eqArg_shp hx, eqArg_shp hy]
  exact if_pos ⟨shp_shaped hx, shp_shaped hy⟩
theorem eqM_lst {l m : Nat} {xs ys : List D} {μ : Mem} (hl : μ[l]? = some (.lst xs)) (hm : μ[m]? = some (.lst ys)) (hx : D.shps 63 xs = true) (hy : D.shps 63 ys = true) : eqM (.loc l) (.loc m) μ = some ((D.tup xs).eqv (.tup ys)) := by
  have e1 : eqArg μ (.loc l) = some (.list (D.pys xs)) := by
    unfold eqArg
    dsimp only
    rw [hl]
    dsimp only
    rw [if_pos (shps_pures hx)]
  have e2 : eqArg μ (.loc m) = some (.list (D.pys ys)) := by
    unfold eqArg
    dsimp only
    rw [hm]
    dsimp only
    rw [if_pos (shps_pures hy)]
  unfold eqM
  rw [e1, e2]
  exact if_pos ⟨shps_shaped hx, shps_shaped hy⟩
mutual
theorem eqv_refl : ∀ d : D, d.eqv d = true
  | .non => rfl
  | .bl b => by show (b == b) = true; simp
  | .int i => by show (i == i) = true; simp
  | .str s => by show (s == s) = true; simp
  | .tup xs => eqvs_refl xs
  | .loc _ => rfl
theorem eqvs_refl : ∀ xs : List D, PyData.eqvAll (D.pys xs) (D.pys xs) = true
  | [] => rfl
  | x :: xs => by
    rw [D.pys, PyData.eqvAll, show PyData.eqv x.py x.py = true from eqv_refl x, eqvs_refl xs]
    rfl
end
theorem eqv_int (i j : Int) : (D.int i).eqv (.int j) = (i == j) := rfl
theorem lim0 : 0 ≤ LIM := by decide
theorem lim1 : 1 ≤ LIM := by decide
theorem lim2 : 2 ≤ LIM := by decide
theorem lim3 : 3 ≤ LIM := by decide
theorem lim4 : 4 ≤ LIM := by decide
theorem lim5 : 5 ≤ LIM := by decide
theorem lim6 : 6 ≤ LIM := by decide
theorem lim {n : Nat} (h : n ≤ 16000000) : n ≤ LIM := h
theorem limlt {n : Nat} (h : n < 16000000) : n < LIM := h
theorem shp_int (k : Nat) (i : Int) : D.shp k (.int i) = true := by cases k <;> rfl
theorem shp_bl (k : Nat) (b : Bool) : D.shp k (.bl b) = true := by cases k <;> rfl
theorem shp_non (k : Nat) : D.shp k .non = true := by cases k <;> rfl
theorem shp_str (k : Nat) (s : Str) : D.shp k (.str s) = PyData.canLay0 (.str s) := by cases k <;> rfl
theorem shp_tup63 (xs : List D) : D.shp 63 (.tup xs) = D.shps 62 xs := rfl
theorem shp_tup62 (xs : List D) : D.shp 62 (.tup xs) = D.shps 61 xs := rfl
theorem shp_tup61 (xs : List D) : D.shp 61 (.tup xs) = D.shps 60 xs := rfl
theorem shp_tup60 (xs : List D) : D.shp 60 (.tup xs) = D.shps 59 xs := rfl
theorem shps_nil (k : Nat) : D.shps k [] = true := by cases k <;> rfl
theorem shps_cons (k : Nat) (x : D) (xs : List D) : D.shps k (x :: xs) = (x.shp k && D.shps k xs) := by cases k <;> rfl
theorem shps_ints {k : Nat} : ∀ ns : List Int, D.shps k (ns.map D.int) = true
  | [] => rfl
  | n :: ns => by rw [List.map_cons, D.shps, shps_ints ns]; rfl
theorem shps_all {k : Nat} : ∀ {xs : List D}, (∀ x ∈ xs, x.shp k = true) → D.shps k xs = true
  | [], _ => rfl
  | x :: xs, h => by rw [D.shps, h x List.mem_cons_self, shps_all fun y hy => h y (List.mem_cons_of_mem _ hy)]; rfl
/-! ### the operations, one by one (for simp) -/
section
variable {μ : Mem} {xs ys : List D} {l : Nat} {i j : Int} {b c : Bool} {s t : Str} {d : D}
theorem seq_tup : seqM μ (.tup xs) = some xs := rfl
theorem seq_lst (h : μ[l]? = some (.lst xs)) : seqM μ (.loc l) = some xs := by unfold seqM; dsimp only; rw [h]
theorem seq_ro (h : μ[l]? = some (.ro xs)) : seqM μ (.loc l) = some xs := by unfold seqM; dsimp only; rw [h]
theorem ty_ii : isTy μ (.int i) .int = some true := rfl
theorem ty_ib : isTy μ (.int i) .bool = some false := rfl
theorem ty_it : isTy μ (.int i) .tuple = some false := rfl
theorem ty_bi : isTy μ (.bl b) .int = some true := rfl
theorem ty_bb : isTy μ (.bl b) .bool = some true := rfl
theorem ty_bt : isTy μ (.bl b) .tuple = some false := rfl
theorem ty_tt : isTy μ (.tup xs) .tuple = some true := rfl
theorem ty_ti : isTy μ (.tup xs) .int = some false := rfl
theorem ty_tb : isTy μ (.tup xs) .bool = some false := rfl
theorem ty_n (t : Ty) : isTy μ .non t = some false := by cases t <;> rfl
theorem ty_st : isTy μ (.str s) .tuple = some false := rfl
theorem ty_si : isTy μ (.str s) .int = some false := rfl
theorem tr_bl : truM μ (.bl b) = some b := rfl
theorem tr_int : truM μ (.int i) = some (i != 0) := rfl
theorem tr_non : truM μ .non = some false := rfl
theorem ok_some {α : Type} (a : α) : okO (some a) μ = .ok a μ := rfl
theorem bi_len_tup : biD .len [.tup xs] μ = .ok (.int xs.length) μ := rfl
theorem bi_len_loc : biD .len [.loc l] μ = okO ((seqM μ (.loc l)).map fun xs => D.int xs.length) μ := rfl
theorem bi_tuple : biD .tuple [d] μ = okO ((seqM μ d).map D.tup) μ := rfl
theorem bi_int_i : biD .int [.int i] μ = .ok (.int i) μ := rfl
theorem bi_int_b : biD .int [.bl b] μ = .ok (.int (if b then 1 else 0)) μ := rfl
theorem bi_sum : biD .sum [.loc l] μ = okO (((seqM μ (.loc l)).bind isInts).map fun ns => D.int ns.sum) μ := rfl
theorem bo_add : bopD .add (.int i) (.int j) μ = .ok (.int (i + j)) μ := rfl
theorem bo_sub : bopD .sub (.int i) (.int j) μ = .ok (.int (i - j)) μ := rfl
theorem bo_mul : bopD .mul (.int i) (.int j) μ = if (i.natAbs < 18446744073709551616 ∨ j.natAbs < 18446744073709551616) ∨ i.natAbs.log2 + j.natAbs.log2 < 1000000 then .ok (.int (i * j)) μ else .stuck := rfl
theorem bo_div : bopD .fdiv (.int i) (.int j) μ = if 0 < j ∧ (j < 1073741824 ∨ j.natAbs.log2 < 9000) then .ok (.int (i / j)) μ else .stuck := rfl
theorem bo_mod : bopD .mod (.int i) (.int j) μ = if 0 < j then .ok (.int (i % j)) μ else .stuck := rfl
theorem bo_pow : bopD .pow (.int i) (.int j) μ = if 0 ≤ j ∧ j ≤ 1000000 ∧ i.natAbs < 18446744073709551616 then .ok (.int (i ^ j.toNat)) μ else .stuck := rfl
theorem bo_tup : bopD .add (.tup xs) (.tup ys) μ = if xs.length + ys.length ≤ LIM then .ok (.tup (xs ++ ys)) μ else .stuck := rfl
theorem co_eq {x y : D} : copD .eq x y μ = okO ((eqM x y μ).map D.bl) μ := by cases x <;> cases y <;> rfl
theorem co_ne {x y : D} : copD .ne x y μ = okO ((eqM x y μ).map fun b => D.bl (!b)) μ := by cases x <;> cases y <;> rfl
theorem co_lt : copD .lt (.int i) (.int j) μ = .ok (.bl (decide (i < j))) μ := rfl
theorem co_le : copD .le (.int i) (.int j) μ = .ok (.bl (decide (i ≤ j))) μ := rfl
theorem co_gt : copD .gt (.int i) (.int j) μ = .ok (.bl (decide (j < i))) μ := rfl
theorem co_ge : copD .ge (.int i) (.int j) μ = .ok (.bl (decide (j ≤ i))) μ := rfl
theorem co_is_b : copD .is (.bl b) (.bl c) μ = .ok (.bl (decide (b = c))) μ := rfl
theorem co_is_n : copD .is .non .non μ = .ok (.bl true) μ := rfl
theorem co_is_i : copD .is (.int i) .non μ = .ok (.bl false) μ := rfl
theorem co_is_t : copD .is (.tup xs) .non μ = .ok (.bl false) μ := rfl
theorem co_no_n : copD .isNot .non .non μ = .ok (.bl false) μ := rfl
theorem co_no_i : copD .isNot (.int i) .non μ = .ok (.bl true) μ := rfl
theorem co_no_t : copD .isNot (.tup xs) .non μ = .ok (.bl true) μ := rfl
theorem co_no_b : copD .isNot (.bl b) (.bl c) μ = .ok (.bl (!decide (b = c))) μ := rfl
theorem sl_tup (lo hi : Option Int) : sliceD (.tup xs) lo hi μ = .ok (.tup (cutD xs lo hi)) μ := rfl
theorem mt_app : mtD .append (.loc l) [d] μ = match μ[l]? with
    | some (.lst xs) => if xs.length < LIM then .ok .non (μ.set l (.lst (xs ++ [d]))) else .stuck
    | _ => .stuck := rfl
theorem mr_app : mtRecv .append (.loc l) μ = (seqM μ (.loc l)).isSome := rfl
theorem mt_ext {m : Nat} : mtD .extend (.loc l) [.loc m] μ = match μ[l]?, μ[m]? with
    | some (.lst xs), some (.lst ys) => if xs.length + ys.length ≤ LIM then .ok .non (μ.set l (.lst (xs ++ ys))) else .stuck
    | _, _ => .stuck := rfl
theorem mr_ext : mtRecv .extend (.loc l) μ = (seqM μ (.loc l)).isSome := rfl
theorem mr_pop : mtRecv .pop (.loc l) μ = (seqM μ (.loc l)).isSome := rfl
end
end Mn

/-! # Mini: more rules for reasoning: comprehensions, try, live loops -/
namespace Mn
open PySem

section
variable {par : Nat → Nat → Bool} {mk : Nat → List D → Option Exn} {call : Nat → List D → Mem → R D} {cx : Option Exn}
theorem wp_okO {α : Type} {Q : α → Mem → Prop} {E : Exn → Mem → Prop} (o : Option α) (μ : Mem) : (okO o μ).wp Q E = ∃ a, o = some a ∧ Q a μ := by
  cases o with
  | none => simp [okO, R.wp]
  | some a => simp [okO, R.wp]
theorem SR.wp_mono {r : SR} {P P' : Post} (h : r.wp P) (h1 : ∀ e μ, P.nx e μ → P'.nx e μ) (h2 : ∀ d μ, P.rt d μ → P'.rt d μ) (h3 : ∀ x e μ, P.ex x e μ → P'.ex x e μ) (h4 : ∀ e μ, P.br e μ → P'.br e μ) (h5 : ∀ e μ, P.ct e μ → P'.ct e μ) : r.wp P' := by
  cases r with
  | nx e μ => exact h1 _ _ h
  | rt d μ => exact h2 _ _ h
  | ex x e μ => exact h3 _ _ _ h
  | br e μ => exact h4 _ _ h
  | ct e μ => exact h5 _ _ h
  | stuck => exact h
theorem wp_asgS (o i e : ME) (env : Env') (μ : Mem) (P : Post) : (execS par mk call cx (.asgS o i e) env μ).wp P =
    (evalE par call cx e env μ).wp (fun v μ => (evalE par call cx o env μ).wp (fun x μ => (evalE par call cx i env μ).wp (fun y μ => ∃ l k xs ys, x = .loc l ∧ y = .int k ∧ μ[l]? = some (.lst xs) ∧ setD xs k v = some ys ∧ P.nx env (μ.set l (.lst ys))) (fun x μ => P.ex x env μ)) (fun x μ => P.ex x env μ)) (fun x μ => P.ex x env μ) := by
  rw [execS, wp_st]
  congr 1
  funext v μ
  rw [wp_st]
  congr 1
  funext x μ
  rw [wp_st]
  congr 1
  funext y μ
  cases x with
  | loc l =>
    cases y with
    | int k =>
      cases h : μ[l]? with
      | none => simp [SR.wp, h]
      | some o =>
        cases o with
        | lst xs =>
          dsimp only
          cases hs : setD xs k v with
          | none => simp [SR.wp, h, hs]
          | some ys => simp [SR.wp, h, hs]
        | ro xs => simp [SR.wp, h]
        | dic kvs => simp [SR.wp, h]
    | _ => simp [SR.wp]
  | _ => simp [SR.wp]
theorem wp_par (i j : Nat) (a b : ME) (env : Env') (μ : Mem) (P : Post) : (execS par mk call cx (.par i j a b) env μ).wp P =
    (evalE par call cx a env μ).wp (fun x μ => (evalE par call cx b env μ).wp (fun y μ => P.nx ((env.set i (some x)).set j (some y)) μ) (fun x μ => P.ex x env μ)) (fun x μ => P.ex x env μ) := by
  rw [execS, wp_st]
  congr 1
  funext v μ
  rw [wp_st]
  rfl
theorem wp_aug (i : Nat) (op : Bop) (e : ME) (env : Env') (μ : Mem) (P : Post) : (execS par mk call cx (.aug i op e) env μ).wp P =
    ∃ x, env[i]? = some (some x) ∧ (evalE par call cx e env μ).wp (fun y μ => (augD op x y μ).wp (fun z μ => P.nx (env.set i (some z)) μ) (fun x μ => P.ex x env μ)) (fun x μ => P.ex x env μ) := by
  rw [execS]
  rcases h : env[i]? with _ | _ | x
  · simp [SR.wp]
  · simp [SR.wp]
  · dsimp only
    rw [wp_st]
    simp only [wp_st]
    simp [wp_nx]
theorem wp_try0 (b : MSs) (c : XC) (s : MSs) (env : Env') (μ : Mem) (P : Post) : (execS par mk call cx (.try b c none s) env μ).wp P =
    (execSs par mk call cx b env μ).wp { P with ex := fun x env μ => if isXC par x c = true then (execSs par mk call none s env μ).wp { P with ex := fun _ _ _ => False } else P.ex x env μ } := by
  rw [execS]
  cases execSs par mk call cx b env μ with
  | ex x env μ =>
    dsimp only
    by_cases h : isXC par x c = true
    · rw [if_pos h]
      show _ = if isXC par x c = true then _ else _
      rw [if_pos h]
      cases execSs par mk call none s env μ <;> rfl
    · rw [if_neg h]
      show _ = if isXC par x c = true then _ else _
      rw [if_neg h]
      rfl
  | _ => rfl
theorem wp_try1 (b : MSs) (c : XC) (i : Nat) (s : MSs) (env : Env') (μ : Mem) (P : Post) : (execS par mk call cx (.try b c (some i) s) env μ).wp P =
    (execSs par mk call cx b env μ).wp { P with ex := fun x env μ => if isXC par x c = true then (execSs par mk call (some x) s (env.set i none) μ).wp ⟨fun env μ => P.nx (env.set i none) μ, P.rt, fun _ _ _ => False, fun env μ => P.br (env.set i none) μ, fun env μ => P.ct (env.set i none) μ⟩ else P.ex x env μ } := by
  rw [execS]
  cases execSs par mk call cx b env μ with
  | ex x env μ =>
    dsimp only
    by_cases h : isXC par x c = true
    · rw [if_pos h]
      show _ = if isXC par x c = true then _ else _
      rw [if_pos h]
      cases execSs par mk call (some x) s (env.set i none) μ <;> rfl
    · rw [if_neg h]
      show _ = if isXC par x c = true then _ else _
      rw [if_neg h]
      rfl
  | _ => rfl
/-- a comprehension's turn -/
def lcF (par : Nat → Nat → Bool) (call : Nat → List D → Mem → R D) (cx : Option Exn) (elt : ME) (tg : Tgt) (tests : MEs) (env : Env') : D → Mem → R (Option D) := fun d μ => match setT tg d env with
  | none => .stuck
  | some env' => (evalTs par call cx tests env' μ).bind fun b μ => if b = true then (evalE par call cx elt env' μ).bind fun y μ => .ok (some y) μ else .ok none μ
theorem wp_lcF (elt : ME) (tg : Tgt) (tests : MEs) (env : Env') (d : D) (μ : Mem) (Q : Option D → Mem → Prop) (E : Exn → Mem → Prop) : (lcF par call cx elt tg tests env d μ).wp Q E =
    ∃ env', setT tg d env = some env' ∧ (evalTs par call cx tests env' μ).wp (fun b μ => if b = true then (evalE par call cx elt env' μ).wp (fun y μ => Q (some y) μ) E else Q none μ) E := by
  unfold lcF
  cases setT tg d env with
  | none => simp [R.wp]
  | some e =>
    simp only [Option.some.injEq, exists_eq_left', wp_bind]
    congr 1
    funext b μ
    cases b <;> simp [wp_ok, wp_bind]
theorem wp_lc (elt : ME) (tg : Tgt) (it : MI) (tests : MEs) (own : List Nat) (env : Env') (μ : Mem) (Q : D → Mem → Prop) (E : Exn → Mem → Prop) : (evalE par call cx (.lc elt tg it tests own) env μ).wp Q E =
    (evalI par call cx it env μ).wp (fun w μ => (lcGo w μ.length (lcF par call cx elt tg tests (wipeD env own)) w.fuel 0 (μ ++ [.lst []])).wp Q E) E := by
  rw [evalE, wp_bind]
  rfl
theorem wp_tests_nil (env : Env') (μ : Mem) (Q : Bool → Mem → Prop) (E : Exn → Mem → Prop) : (evalTs par call cx .nil env μ).wp Q E = Q true μ := rfl
theorem wp_tests_cons (e : ME) (r : MEs) (env : Env') (μ : Mem) (Q : Bool → Mem → Prop) (E : Exn → Mem → Prop) : (evalTs par call cx (.cons e r) env μ).wp Q E =
    (evalE par call cx e env μ).wp (fun d μ => ∃ b, truM μ d = some b ∧ if b = true then (evalTs par call cx r env μ).wp Q E else Q false μ) E := by
  rw [evalTs, wp_bind]
  congr 1
  funext d μ
  rcases truM μ d with _ | _ | _ <;> simp [R.wp]
theorem lc_rule {it : It} {xs : List D} {n : Nat} {L : Nat} {f : D → Mem → R (Option D)} {Q : D → Mem → Prop} {E : Exn → Mem → Prop} (I : Nat → Mem → Prop) {μ : Mem}
    (hat : ∀ i μ, I i μ → it.at i μ = some xs[i]?) (hn : n = xs.length) (h0 : I 0 μ)
    (hs : ∀ i d μ, xs[i]? = some d → I i μ → (f d μ).wp (fun o μ => match o with
      | none => I (i + 1) μ
      | some y => ∃ acc, μ[L]? = some (.lst acc) ∧ acc.length < LIM ∧ I (i + 1) (μ.set L (.lst (acc ++ [y])))) fun _ _ => False)
    (he : ∀ μ, I xs.length μ → Q (.loc L) μ) : (lcGo it L f n 0 μ).wp Q E := by
  have key : ∀ n i μ, n + i = xs.length → I i μ → (lcGo it L f n i μ).wp Q E := by
    intro n
    induction n with
    | zero =>
      intro i μ hi hI
      have hx : xs[i]? = none := List.getElem?_eq_none (by omega)
      have ha := hat _ _ hI
      rw [hx] at ha
      have hi : i = xs.length := by omega
      subst hi
      simp only [lcGo, ha]
      exact he _ hI
    | succ n ih =>
      intro i μ hi hI
      have hl : i < xs.length := by omega
      have e : xs[i]? = some xs[i] := List.getElem?_eq_getElem hl
      have ha := hat _ _ hI
      rw [e] at ha
      have z := hs i _ μ e hI
      simp only [lcGo, ha]
      cases hf : f xs[i] μ with
      | ok o μ' =>
        rw [hf] at z
        cases o with
        | none => exact ih _ _ (by omega) z
        | some y =>
          obtain ⟨acc, h1, h2, h3⟩ := z
          dsimp only
          rw [h1]
          dsimp only
          rw [if_pos h2]
          exact ih _ _ (by omega) h3
      | exc x μ' => rw [hf] at z; exact (show False from z).elim
      | stuck => rw [hf] at z; exact (show False from z).elim
  subst hn
  exact key _ 0 μ rfl h0
theorem for_rule {it : It} {xs : List D} {n : Nat} {f : D → Env' → Mem → SR} {P : Post} (I : Nat → Env' → Mem → Prop) {env : Env'} {μ : Mem}
    (hat : ∀ i env μ, I i env μ → it.at i μ = some xs[i]?) (hn : n = xs.length) (h0 : I 0 env μ)
    (hs : ∀ i d env μ, xs[i]? = some d → I i env μ → (f d env μ).wp { P with nx := I (i + 1), ct := I (i + 1), br := P.nx }) (he : ∀ env μ, I xs.length env μ → P.nx env μ) : (forGo it f n 0 env μ).wp P := by
  have key : ∀ n i env μ, n + i = xs.length → I i env μ → (forGo it f n i env μ).wp P := by
    intro n
    induction n with
    | zero =>
      intro i env μ hi hI
      have hx : xs[i]? = none := List.getElem?_eq_none (by omega)
      have ha := hat _ _ _ hI
      rw [hx] at ha
      simp only [forGo, ha]
      have hi : i = xs.length := by omega
      subst hi
      exact he _ _ hI
    | succ n ih =>
      intro i env μ hi hI
      have hl : i < xs.length := by omega
      have e : xs[i]? = some xs[i] := List.getElem?_eq_getElem hl
      have ha := hat _ _ _ hI
      rw [e] at ha
      have z := hs i _ env μ e hI
      simp only [forGo, ha]
      cases hf : f xs[i] env μ with
      | nx env μ => rw [hf] at z; exact ih _ _ _ (by omega) z
      | ct env μ => rw [hf] at z; exact ih _ _ _ (by omega) z
      | br env μ => rw [hf] at z; exact z
      | rt d μ => rw [hf] at z; exact z
      | ex x env μ => rw [hf] at z; exact z
      | stuck => rw [hf] at z; exact z
  subst hn
  exact key _ 0 env μ rfl h0
/-- a plain comprehension: each turn gives g and leaves the memory be -/
theorem lc_plain {xs : List D} {f : D → Mem → R (Option D)} {Q : D → Mem → Prop} {E : Exn → Mem → Prop} {μ : Mem} (g : D → D) (hl : xs.length ≤ LIM)
    (hs : ∀ (i : Nat) (x : D) (acc : List D), xs[i]? = some x → (f x (μ ++ [.lst acc])).wp (fun o μ' => o = some (g x) ∧ μ' = μ ++ [.lst acc]) fun _ _ => False)
    (he : Q (.loc μ.length) (μ ++ [.lst (xs.map g)])) : (lcGo (.items xs) μ.length f (It.items xs).fuel 0 (μ ++ [.lst []])).wp Q E := by
  refine lc_rule (xs := xs) (fun i μ1 => μ1 = μ ++ [.lst ((xs.take i).map g)] ∧ i ≤ xs.length) (fun _ _ _ => rfl) rfl ⟨by simp, Nat.zero_le _⟩ ?_ ?_
  · rintro i d μ1 hd ⟨rfl, hi⟩
    refine R.wp_mono (hs i d ((xs.take i).map g) hd) ?_ fun _ _ h => h
    rintro o μ1 ⟨rfl, rfl⟩
    have hlt : i < xs.length := (List.getElem?_eq_some_iff.mp hd).1
    refine ⟨(xs.take i).map g, by simp, ?_, ?_, hlt⟩
    · rw [List.length_map, List.length_take]; omega
    · rw [List.take_add_one, hd]; simp
  · rintro μ1 ⟨rfl, _⟩
    simpa using he
/-- the same over a list that stands in the memory -/
theorem lc_live {xs : List D} {l : Nat} {f : D → Mem → R (Option D)} {Q : D → Mem → Prop} {E : Exn → Mem → Prop} {μ : Mem} (g : D → D) (hl : xs.length ≤ LIM) (hm : seqM μ (.loc l) = some xs)
    (hs : ∀ (i : Nat) (x : D) (acc : List D), xs[i]? = some x → (f x (μ ++ [.lst acc])).wp (fun o μ' => o = some (g x) ∧ μ' = μ ++ [.lst acc]) fun _ _ => False)
    (he : Q (.loc μ.length) (μ ++ [.lst (xs.map g)])) : (lcGo (.live l xs.length) μ.length f xs.length 0 (μ ++ [.lst []])).wp Q E := by
  have hb : ∀ o, seqM (μ ++ [o]) (.loc l) = some xs := by
    intro o
    have : l < μ.length := by
      rcases Nat.lt_or_ge l μ.length with h | h
      · exact h
      · unfold seqM at hm
        dsimp only at hm
        rw [List.getElem?_eq_none h] at hm
        cases hm
    unfold seqM at hm ⊢
    dsimp only at hm ⊢
    rw [List.getElem?_append_left this]
    exact hm
  refine lc_rule (it := .live l xs.length) (xs := xs) (fun i μ1 => μ1 = μ ++ [.lst ((xs.take i).map g)] ∧ i ≤ xs.length) ?_ rfl ⟨by simp, Nat.zero_le _⟩ ?_ ?_
  · rintro i μ1 ⟨rfl, _⟩
    show (seqM _ (.loc l)).map _ = _
    rw [hb]
    rfl
  · rintro i d μ1 hd ⟨rfl, hi⟩
    refine R.wp_mono (hs i d ((xs.take i).map g) hd) ?_ fun _ _ h => h
    rintro o μ1 ⟨rfl, rfl⟩
    have hlt : i < xs.length := (List.getElem?_eq_some_iff.mp hd).1
    refine ⟨(xs.take i).map g, by simp, ?_, ?_, hlt⟩
    · rw [List.length_map, List.length_take]; omega
    · rw [List.take_add_one, hd]; simp
  · rintro μ1 ⟨rfl, _⟩
    simpa using he
end
section
variable {par : Nat → Nat → Bool} {mk : Nat → List D → Option Exn} {T : Nat → Option MDef}
/-- a call, its ends by a predicate -/
theorem call_wp {n f : Nat} {d : MDef} {ds : List D} {μ : Mem} {Q : D → Mem → Prop} {E : Exn → Mem → Prop} (hT : T f = some d) (hl : ds.length = d.params.length)
    (h : (execSs par mk (callN par mk T n) none d.body (startD d ds) μ).wp ⟨fun _ μ' => Pu μ' ∧ Q .non (μ'.take μ.length), fun u μ' => u.pure = true ∧ Pu μ' ∧ Q u (μ'.take μ.length), fun x _ μ' => x.fs.all (fun p => p.2.pure) = true ∧ Pu μ' ∧ E x (μ'.take μ.length), fun _ _ => False, fun _ _ => False⟩) :
    (callN par mk T (n + 1) f ds μ).wp Q E := by
  have pt : ∀ {m : Mem} (k : Nat), Pu m → Pu (m.take k) := fun k hm o ho => hm o (List.mem_of_mem_take ho)
  unfold callN
  rw [hT]
  dsimp only
  rw [if_pos hl]
  cases hr : execSs par mk (callN par mk T n) none d.body (startD d ds) μ with
  | nx env μ' =>
    rw [hr] at h
    obtain ⟨h1, h2⟩ := h
    show (if Mem.under μ.length (μ'.take μ.length) = true then R.ok D.non (μ'.take μ.length) else R.ok D.non μ').wp Q E
    rw [if_pos ((pt _ h1).under _)]
    exact h2
  | rt u μ' =>
    rw [hr] at h
    obtain ⟨h0, h1, h2⟩ := h
    show (if (u.under μ.length && Mem.under μ.length (μ'.take μ.length)) = true then R.ok u (μ'.take μ.length) else R.ok u μ').wp Q E
    rw [if_pos (by rw [(pt _ h1).under, under_pure h0]; rfl)]
    exact h2
  | ex x env μ' =>
    rw [hr] at h
    obtain ⟨h0, h1, h2⟩ := h
    show (if (x.under μ.length && Mem.under μ.length (μ'.take μ.length)) = true then R.exc x (μ'.take μ.length) else R.exc x μ').wp Q E
    rw [if_pos (by rw [(pt _ h1).under, under_exn h0]; rfl)]
    exact h2
  | br env μ' => rw [hr] at h; exact (show False from h).elim
  | ct env μ' => rw [hr] at h; exact (show False from h).elim
  | stuck => rw [hr] at h; exact (show False from h).elim
/-- a call that gives a new list -/
theorem call_wpl {n f : Nat} {d : MDef} {ds : List D} {μ : Mem} {Q : D → Mem → Prop} {E : Exn → Mem → Prop} (hT : T f = some d) (hl : ds.length = d.params.length)
    (h : (execSs par mk (callN par mk T n) none d.body (startD d ds) μ).wp ⟨fun _ _ => False, fun u μ' => ∃ l, u = .loc l ∧ μ.length ≤ l ∧ Q u μ', fun x _ μ' => x.fs.all (fun p => p.2.pure) = true ∧ Pu μ' ∧ E x (μ'.take μ.length), fun _ _ => False, fun _ _ => False⟩) :
    (callN par mk T (n + 1) f ds μ).wp Q E := by
  have pt : ∀ {m : Mem} (k : Nat), Pu m → Pu (m.take k) := fun k hm o ho => hm o (List.mem_of_mem_take ho)
  unfold callN
  rw [hT]
  dsimp only
  rw [if_pos hl]
  cases hr : execSs par mk (callN par mk T n) none d.body (startD d ds) μ with
  | rt u μ' =>
    rw [hr] at h
    obtain ⟨l, rfl, h1, h2⟩ := h
    show (if (D.under μ.length (D.loc l) && Mem.under μ.length (μ'.take μ.length)) = true then R.ok (D.loc l) (μ'.take μ.length) else R.ok (D.loc l) μ').wp Q E
    have : D.under μ.length (D.loc l) = false := by simp [D.under]; omega
    rw [this, Bool.false_and, if_neg Bool.false_ne_true]
    exact h2
  | ex x env μ' =>
    rw [hr] at h
    obtain ⟨h0, h1, h2⟩ := h
    show (if (x.under μ.length && Mem.under μ.length (μ'.take μ.length)) = true then R.exc x (μ'.take μ.length) else R.exc x μ').wp Q E
    rw [if_pos (by rw [(pt _ h1).under, under_exn h0]; rfl)]
    exact h2
  | nx env μ' => rw [hr] at h; exact (show False from h).elim
  | br env μ' => rw [hr] at h; exact (show False from h).elim
  | ct env μ' => rw [hr] at h; exact (show False from h).elim
  | stuck => rw [hr] at h; exact (show False from h).elim
end
/-- what a loop over d walks -/
def itD (μ : Mem) : D → Option It
  | .tup xs => some (.items xs)
  | .loc l => (seqM μ (.loc l)).map fun xs => It.live l xs.length
  | _ => none
def zipD (μ : Mem) : D → D → Option It
  | .tup xs, .tup ys => some (.items (List.zipWith (fun x y => D.tup [x, y]) xs ys))
  | .loc l, .loc m => match seqM μ (.loc l), seqM μ (.loc m) with
    | some xs, some ys => some (.zipL l m (min xs.length ys.length))
    | _, _ => none
  | _, _ => none
/-! ### the bag of drawn numbers -/
def bagO (N g s c : Int) : MO := .lst [.int N, .int g, .int s, .int c]
theorem pures_append' {xs ys : List D} (h1 : D.pures xs = true) (h2 : D.pures ys = true) : D.pures (xs ++ ys) = true := by rw [pures_append, h1, h2]; rfl
theorem Pu.take {μ : Mem} (h : Pu μ) (n : Nat) : Pu (μ.take n) := fun o ho => h o (List.mem_of_mem_take ho)
theorem Pu.app {μ ν : Mem} (h : Pu μ) (h1 : Pu ν) : Pu (μ ++ ν) := fun o ho => (List.mem_append.mp ho).elim (h o) (h1 o)
theorem Pu.bag {μ : Mem} (h : Pu μ) (b : Nat) (N g s c : Int) : Pu (μ.set b (bagO N g s c)) := h.set rfl
theorem Pu.at {μ : Mem} (h : Pu μ) {l : Nat} {xs : List D} (hl : μ[l]? = some (.lst xs)) : D.pures xs = true := h _ (List.mem_of_getElem? hl)
/-- μ1 is μ, with other things in the bag at b, and more behind it -/
structure Fr (b : Nat) (g s C : Int) (μ μ1 : Mem) : Prop where
  len : μ.length ≤ μ1.length
  same : ∀ i, i < μ.length → i ≠ b → μ1[i]? = μ[i]?
  bag : ∃ N c, μ1[b]? = some (bagO N g s c) ∧ 0 ≤ c ∧ c ≤ C
  pu : Pu μ1
section
variable {b : Nat} {g s C : Int} {μ μ1 : Mem}
theorem Fr.refl {N c : Int} (h : Pu μ) (hb : μ[b]? = some (bagO N g s c)) (h0 : 0 ≤ c) (h1 : c ≤ C) : Fr b g s C μ μ := ⟨Nat.le_refl _, fun _ _ _ => rfl, ⟨N, c, hb, h0, h1⟩, h⟩
theorem Fr.mono {C' : Int} (h : Fr b g s C μ μ1) (hc : C ≤ C') : Fr b g s C' μ μ1 := ⟨h.len, h.same, by obtain ⟨N, c, z, h0, h1⟩ := h.bag; exact ⟨N, c, z, h0, by omega⟩, h.pu⟩
theorem Fr.lt (h : Fr b g s C μ μ1) : b < μ1.length := by obtain ⟨N, c, z, _⟩ := h.bag; exact (List.getElem?_eq_some_iff.mp z).1
theorem Fr.setb (h : Fr b g s C μ μ1) {C' N c : Int} (h0 : 0 ≤ c) (h1 : c ≤ C') : Fr b g s C' μ (μ1.set b (bagO N g s c)) :=
  ⟨by rw [List.length_set]; exact h.len, fun i hi hb => by rw [List.getElem?_set_ne (fun e => hb e.symm)]; exact h.same i hi hb, ⟨N, c, List.getElem?_set_self h.lt, h0, h1⟩, h.pu.bag _ _ _ _ _⟩
theorem Fr.push (h : Fr b g s C μ μ1) {xs : List D} (hx : D.pures xs = true) : Fr b g s C μ (μ1 ++ [.lst xs]) :=
  ⟨by rw [List.length_append]; have := h.len; omega, fun i hi hb => by rw [List.getElem?_append_left (by have := h.len; omega)]; exact h.same i hi hb, (by obtain ⟨N, c, z, h0, h1⟩ := h.bag; exact ⟨N, c, by rw [List.getElem?_append_left h.lt]; exact z, h0, h1⟩), h.pu.push hx⟩
theorem Fr.setl (h : Fr b g s C μ μ1) {l : Nat} {xs : List D} (hl : μ.length ≤ l) (hb : b < μ.length) (hx : D.pures xs = true) : Fr b g s C μ (μ1.set l (.lst xs)) :=
  ⟨by rw [List.length_set]; exact h.len, fun i hi hi' => by rw [List.getElem?_set_ne (by omega)]; exact h.same i hi hi', (by obtain ⟨N, c, z, h0, h1⟩ := h.bag; exact ⟨N, c, by rw [List.getElem?_set_ne (by omega)]; exact z, h0, h1⟩), h.pu.set hx⟩
theorem Fr.trans {μ2 : Mem} {C' : Int} (h : Fr b g s C μ μ1) (h' : Fr b g s C' μ1 μ2) : Fr b g s C' μ μ2 :=
  ⟨Nat.le_trans h.len h'.len, fun i hi hb => by rw [h'.same i (Nat.lt_of_lt_of_le hi h.len) hb]; exact h.same i hi hb, h'.bag, h'.pu⟩
/-- from here on -/
theorem Fr.re (h : Fr b g s C μ μ1) : Fr b g s C μ1 μ1 := ⟨Nat.le_refl _, fun _ _ _ => rfl, h.bag, h.pu⟩
/-- what is left when the call ends -/
theorem Fr.fin (h : Fr b g s C μ μ1) (hb : b < μ.length) : ∃ N c, μ1.take μ.length = μ.set b (bagO N g s c) ∧ 0 ≤ c ∧ c ≤ C := by
  obtain ⟨N, c, z, h0, h1⟩ := h.bag
  refine ⟨N, c, List.ext_getElem? fun i => ?_, h0, h1⟩
  rw [List.getElem?_take]
  by_cases hi : i < μ.length
  · rw [if_pos hi]
    by_cases e : b = i
    · subst e
      rw [List.getElem?_set_self hi]
      exact z
    · rw [List.getElem?_set_ne e]
      exact h.same i hi fun e' => e e'.symm
  · rw [if_neg hi, List.getElem?_eq_none (by rw [List.length_set]; omega)]
end
theorem at_end {ν j : Mem} {o : MO} {l : Nat} (h : ν.length = l) : (ν ++ o :: j)[l]? = some o := by subst h; simp
theorem set_end {ν j : Mem} {o u : MO} {l : Nat} (h : ν.length = l) : (ν ++ o :: j).set l u = ν ++ u :: j := by subst h; simp
theorem take_end {ν j : Mem} {l : Nat} (h : ν.length = l) : (ν ++ j).take l = ν := by subst h; simp
theorem at_int {xs : List D} {s : Int} {d : D} (h0 : 0 ≤ s) (h : xs[s.toNat]? = some d) : atD xs s = some d := by unfold atD; rw [if_pos h0, h]
theorem at_nat {xs : List D} {s : Nat} {d : D} (h : xs[s]? = some d) : atD xs (s : Int) = some d := at_int (Int.natCast_nonneg _) (by simpa using h)
theorem at0 (u : D) (us : List D) : atD (u :: us) 0 = some u := rfl
theorem at1 (u v : D) (us : List D) : atD (u :: v :: us) 1 = some v := rfl
theorem at2 (u v w : D) (us : List D) : atD (u :: v :: w :: us) 2 = some w := rfl
theorem at3 (u v w x : D) (us : List D) : atD (u :: v :: w :: x :: us) 3 = some x := rfl
theorem set0 (u z : D) (us : List D) : setD (u :: us) 0 z = some (z :: us) := by unfold setD; rw [if_pos ⟨Int.le_refl _, by simp⟩]; rfl
theorem set1 (u v z : D) (us : List D) : setD (u :: v :: us) 1 z = some (u :: z :: us) := by unfold setD; rw [if_pos ⟨by decide, by simp; omega⟩]; rfl
theorem set2 (u v w z : D) (us : List D) : setD (u :: v :: w :: us) 2 z = some (u :: v :: z :: us) := by unfold setD; rw [if_pos ⟨by decide, by simp; omega⟩]; rfl
theorem set3 (u v w x z : D) (us : List D) : setD (u :: v :: w :: x :: us) 3 z = some (u :: v :: w :: z :: us) := by unfold setD; rw [if_pos ⟨by decide, by simp; omega⟩]; rfl
theorem set_same {μ : Mem} {b : Nat} {o : MO} (h : μ[b]? = some o) : μ.set b o = μ := by
  have hb := (List.getElem?_eq_some_iff.mp h).1
  refine List.ext_getElem? fun i => ?_
  by_cases e : b = i
  · subst e; rw [List.getElem?_set_self hb, h]
  · rw [List.getElem?_set_ne e]
theorem set_app {μ j : Mem} {b : Nat} {o : MO} (h : b < μ.length) : (μ ++ j).set b o = μ.set b o ++ j := List.set_append_left _ _ h
theorem rngD_at {m : Int} {i : Nat} {d : D} (h : (rngD 0 m)[i]? = some d) : d = .int i ∧ (i : Int) < m := by
  have hi : i < (rngD 0 m).length := (List.getElem?_eq_some_iff.mp h).1
  have hi' : i < m.toNat := by simpa [rngD] using hi
  simp [rngD, hi'] at h
  exact ⟨h.symm, by omega⟩
end Mn

/-! # Mini: rules that run a program by rewriting, head first -/
namespace Mn
open PySem

/-- of what may be missing -/
def Ow {α : Type} (o : Option α) (k : α → Prop) : Prop := match o with
  | some a => k a
  | none => False
theorem R.wp_congr {α : Type} {r r' : R α} {Q : α → Mem → Prop} {E : Exn → Mem → Prop} (h : r = r') : r.wp Q E = r'.wp Q E := by rw [h]
theorem SR.wp_congr {r r' : SR} {P : Post} (h : r = r') : r.wp P = r'.wp P := by rw [h]
theorem Ow_congr {α : Type} {o o' : Option α} {k : α → Prop} (h : o = o') : Ow o k = Ow o' k := by rw [h]
/-! a slot of the names, looked up and set, by its number -/
def gv (env : Env') (i : Nat) : Option D := (env[i]?).getD none
def sv (env : Env') (i : Nat) (o : Option D) : Env' := env.set i o
theorem gv_0 {a0 : Option D} {r : Env'} : gv (a0 :: r) 0 = a0 := rfl
theorem sv_0 {a0 o : Option D} {r : Env'} : sv (a0 :: r) 0 o = o :: r := rfl
theorem gv_1 {a0 a1 : Option D} {r : Env'} : gv (a0 :: a1 :: r) 1 = a1 := rfl
theorem sv_1 {a0 a1 o : Option D} {r : Env'} : sv (a0 :: a1 :: r) 1 o = a0 :: o :: r := rfl
theorem gv_2 {a0 a1 a2 : Option D} {r : Env'} : gv (a0 :: a1 :: a2 :: r) 2 = a2 := rfl
theorem sv_2 {a0 a1 a2 o : Option D} {r : Env'} : sv (a0 :: a1 :: a2 :: r) 2 o = a0 :: a1 :: o :: r := rfl
theorem gv_3 {a0 a1 a2 a3 : Option D} {r : Env'} : gv (a0 :: a1 :: a2 :: a3 :: r) 3 = a3 := rfl
theorem sv_3 {a0 a1 a2 a3 o : Option D} {r : Env'} : sv (a0 :: a1 :: a2 :: a3 :: r) 3 o = a0 :: a1 :: a2 :: o :: r := rfl
theorem gv_4 {a0 a1 a2 a3 a4 : Option D} {r : Env'} : gv (a0 :: a1 :: a2 :: a3 :: a4 :: r) 4 = a4 := rfl
theorem sv_4 {a0 a1 a2 a3 a4 o : Option D} {r : Env'} : sv (a0 :: a1 :: a2 :: a3 :: a4 :: r) 4 o = a0 :: a1 :: a2 :: a3 :: o :: r := rfl
theorem gv_5 {a0 a1 a2 a3 a4 a5 : Option D} {r : Env'} : gv (a0 :: a1 :: a2 :: a3 :: a4 :: a5 :: r) 5 = a5 := rfl
theorem sv_5 {a0 a1 a2 a3 a4 a5 o : Option D} {r : Env'} : sv (a0 :: a1 :: a2 :: a3 :: a4 :: a5 :: r) 5 o = a0 :: a1 :: a2 :: a3 :: a4 :: o :: r := rfl
theorem gv_6 {a0 a1 a2 a3 a4 a5 a6 : Option D} {r : Env'} : gv (a0 :: a1 :: a2 :: a3 :: a4 :: a5 :: a6 :: r) 6 = a6 := rfl
theorem sv_6 {a0 a1 a2 a3 a4 a5 a6 o : Option D} {r : Env'} : sv (a0 :: a1 :: a2 :: a3 :: a4 :: a5 :: a6 :: r) 6 o = a0 :: a1 :: a2 :: a3 :: a4 :: a5 :: o :: r := rfl
theorem gv_7 {a0 a1 a2 a3 a4 a5 a6 a7 : Option D} {r : Env'} : gv (a0 :: a1 :: a2 :: a3 :: a4 :: a5 :: a6 :: a7 :: r) 7 = a7 := rfl
theorem sv_7 {a0 a1 a2 a3 a4 a5 a6 a7 o : Option D} {r : Env'} : sv (a0 :: a1 :: a2 :: a3 :: a4 :: a5 :: a6 :: a7 :: r) 7 o = a0 :: a1 :: a2 :: a3 :: a4 :: a5 :: a6 :: o :: r := rfl
theorem gv_8 {a0 a1 a2 a3 a4 a5 a6 a7 a8 : Option D} {r : Env'} : gv (a0 :: a1 :: a2 :: a3 :: a4 :: a5 :: a6 :: a7 :: a8 :: r) 8 = a8 := rfl
theorem sv_8 {a0 a1 a2 a3 a4 a5 a6 a7 a8 o : Option D} {r : Env'} : sv (a0 :: a1 :: a2 :: a3 :: a4 :: a5 :: a6 :: a7 :: a8 :: r) 8 o = a0 :: a1 :: a2 :: a3 :: a4 :: a5 :: a6 :: a7 :: o :: r := rfl
theorem gv_9 {a0 a1 a2 a3 a4 a5 a6 a7 a8 a9 : Option D} {r : Env'} : gv (a0 :: a1 :: a2 :: a3 :: a4 :: a5 :: a6 :: a7 :: a8 :: a9 :: r) 9 = a9 := rfl
theorem sv_9 {a0 a1 a2 a3 a4 a5 a6 a7 a8 a9 o : Option D} {r : Env'} : sv (a0 :: a1 :: a2 :: a3 :: a4 :: a5 :: a6 :: a7 :: a8 :: a9 :: r) 9 o = a0 :: a1 :: a2 :: a3 :: a4 :: a5 :: a6 :: a7 :: a8 :: o :: r := rfl
theorem gv_10 {a0 a1 a2 a3 a4 a5 a6 a7 a8 a9 a10 : Option D} {r : Env'} : gv (a0 :: a1 :: a2 :: a3 :: a4 :: a5 :: a6 :: a7 :: a8 :: a9 :: a10 :: r) 10 = a10 := rfl
theorem sv_10 {a0 a1 a2 a3 a4 a5 a6 a7 a8 a9 a10 o : Option D} {r : Env'} : sv (a0 :: a1 :: a2 :: a3 :: a4 :: a5 :: a6 :: a7 :: a8 :: a9 :: a10 :: r) 10 o = a0 :: a1 :: a2 :: a3 :: a4 :: a5 :: a6 :: a7 :: a8 :: a9 :: o :: r := rfl
theorem gv_11 {a0 a1 a2 a3 a4 a5 a6 a7 a8 a9 a10 a11 : Option D} {r : Env'} : gv (a0 :: a1 :: a2 :: a3 :: a4 :: a5 :: a6 :: a7 :: a8 :: a9 :: a10 :: a11 :: r) 11 = a11 := rfl
theorem sv_11 {a0 a1 a2 a3 a4 a5 a6 a7 a8 a9 a10 a11 o : Option D} {r : Env'} : sv (a0 :: a1 :: a2 :: a3 :: a4 :: a5 :: a6 :: a7 :: a8 :: a9 :: a10 :: a11 :: r) 11 o = a0 :: a1 :: a2 :: a3 :: a4 :: a5 :: a6 :: a7 :: a8 :: a9 :: a10 :: o :: r := rfl
theorem gv_12 {a0 a1 a2 a3 a4 a5 a6 a7 a8 a9 a10 a11 a12 : Option D} {r : Env'} : gv (a0 :: a1 :: a2 :: a3 :: a4 :: a5 :: a6 :: a7 :: a8 :: a9 :: a10 :: a11 :: a12 :: r) 12 = a12 := rfl
theorem sv_12 {a0 a1 a2 a3 a4 a5 a6 a7 a8 a9 a10 a11 a12 o : Option D} {r : Env'} : sv (a0 :: a1 :: a2 :: a3 :: a4 :: a5 :: a6 :: a7 :: a8 :: a9 :: a10 :: a11 :: a12 :: r) 12 o = a0 :: a1 :: a2 :: a3 :: a4 :: a5 :: a6 :: a7 :: a8 :: a9 :: a10 :: a11 :: o :: r := rfl
theorem gv_13 {a0 a1 a2 a3 a4 a5 a6 a7 a8 a9 a10 a11 a12 a13 : Option D} {r : Env'} : gv (a0 :: a1 :: a2 :: a3 :: a4 :: a5 :: a6 :: a7 :: a8 :: a9 :: a10 :: a11 :: a12 :: a13 :: r) 13 = a13 := rfl
theorem sv_13 {a0 a1 a2 a3 a4 a5 a6 a7 a8 a9 a10 a11 a12 a13 o : Option D} {r : Env'} : sv (a0 :: a1 :: a2 :: a3 :: a4 :: a5 :: a6 :: a7 :: a8 :: a9 :: a10 :: a11 :: a12 :: a13 :: r) 13 o = a0 :: a1 :: a2 :: a3 :: a4 :: a5 :: a6 :: a7 :: a8 :: a9 :: a10 :: a11 :: a12 :: o :: r := rfl
theorem gv_14 {a0 a1 a2 a3 a4 a5 a6 a7 a8 a9 a10 a11 a12 a13 a14 : Option D} {r : Env'} : gv (a0 :: a1 :: a2 :: a3 :: a4 :: a5 :: a6 :: a7 :: a8 :: a9 :: a10 :: a11 :: a12 :: a13 :: a14 :: r) 14 = a14 := rfl
theorem sv_14 {a0 a1 a2 a3 a4 a5 a6 a7 a8 a9 a10 a11 a12 a13 a14 o : Option D} {r : Env'} : sv (a0 :: a1 :: a2 :: a3 :: a4 :: a5 :: a6 :: a7 :: a8 :: a9 :: a10 :: a11 :: a12 :: a13 :: a14 :: r) 14 o = a0 :: a1 :: a2 :: a3 :: a4 :: a5 :: a6 :: a7 :: a8 :: a9 :: a10 :: a11 :: a12 :: a13 :: o :: r := rfl
theorem gv_15 {a0 a1 a2 a3 a4 a5 a6 a7 a8 a9 a10 a11 a12 a13 a14 a15 : Option D} {r : Env'} : gv (a0 :: a1 :: a2 :: a3 :: a4 :: a5 :: a6 :: a7 :: a8 :: a9 :: a10 :: a11 :: a12 :: a13 :: a14 :: a15 :: r) 15 = a15 := rfl
theorem sv_15 {a0 a1 a2 a3 a4 a5 a6 a7 a8 a9 a10 a11 a12 a13 a14 a15 o : Option D} {r : Env'} : sv (a0 :: a1 :: a2 :: a3 :: a4 :: a5 :: a6 :: a7 :: a8 :: a9 :: a10 :: a11 :: a12 :: a13 :: a14 :: a15 :: r) 15 o = a0 :: a1 :: a2 :: a3 :: a4 :: a5 :: a6 :: a7 :: a8 :: a9 :: a10 :: a11 :: a12 :: a13 :: a14 :: o :: r := rfl
theorem gv_16 {a0 a1 a2 a3 a4 a5 a6 a7 a8 a9 a10 a11 a12 a13 a14 a15 a16 : Option D} {r : Env'} : gv (a0 :: a1 :: a2 :: a3 :: a4 :: a5 :: a6 :: a7 :: a8 :: a9 :: a10 :: a11 :: a12 :: a13 :: a14 :: a15 :: a16 :: r) 16 = a16 := rfl
theorem sv_16 {a0 a1 a2 a3 a4 a5 a6 a7 a8 a9 a10 a11 a12 a13 a14 a15 a16 o : Option D} {r : Env'} : sv (a0 :: a1 :: a2 :: a3 :: a4 :: a5 :: a6 :: a7 :: a8 :: a9 :: a10 :: a11 :: a12 :: a13 :: a14 :: a15 :: a16 :: r) 16 o = a0 :: a1 :: a2 :: a3 :: a4 :: a5 :: a6 :: a7 :: a8 :: a9 :: a10 :: a11 :: a12 :: a13 :: a14 :: a15 :: o :: r := rfl
theorem gv_17 {a0 a1 a2 a3 a4 a5 a6 a7 a8 a9 a10 a11 a12 a13 a14 a15 a16 a17 : Option D} {r : Env'} : gv (a0 :: a1 :: a2 :: a3 :: a4 :: a5 :: a6 :: a7 :: a8 :: a9 :: a10 :: a11 :: a12 :: a13 :: a14 :: a15 :: a16 :: a17 :: r) 17 = a17 := rfl
theorem sv_17 {a0 a1 a2 a3 a4 a5 a6 a7 a8 a9 a10 a11 a12 a13 a14 a15 a16 a17 o : Option D} {r : Env'} : sv (a0 :: a1 :: a2 :: a3 :: a4 :: a5 :: a6 :: a7 :: a8 :: a9 :: a10 :: a11 :: a12 :: a13 :: a14 :: a15 :: a16 :: a17 :: r) 17 o = a0 :: a1 :: a2 :: a3 :: a4 :: a5 :: a6 :: a7 :: a8 :: a9 :: a10 :: a11 :: a12 :: a13 :: a14 :: a15 :: a16 :: o :: r := rfl
theorem gv_18 {a0 a1 a2 a3 a4 a5 a6 a7 a8 a9 a10 a11 a12 a13 a14 a15 a16 a17 a18 : Option D} {r : Env'} : gv (a0 :: a1 :: a2 :: a3 :: a4 :: a5 :: a6 :: a7 :: a8 :: a9 :: a10 :: a11 :: a12 :: a13 :: a14 :: a15 :: a16 :: a17 :: a18 :: r) 18 = a18 := rfl
theorem sv_18 {a0 a1 a2 a3 a4 a5 a6 a7 a8 a9 a10 a11 a12 a13 a14 a15 a16 a17 a18 o : Option D} {r : Env'} : sv (a0 :: a1 :: a2 :: a3 :: a4 :: a5 :: a6 :: a7 :: a8 :: a9 :: a10 :: a11 :: a12 :: a13 :: a14 :: a15 :: a16 :: a17 :: a18 :: r) 18 o = a0 :: a1 :: a2 :: a3 :: a4 :: a5 :: a6 :: a7 :: a8 :: a9 :: a10 :: a11 :: a12 :: a13 :: a14 :: a15 :: a16 :: a17 :: o :: r := rfl
theorem gv_19 {a0 a1 a2 a3 a4 a5 a6 a7 a8 a9 a10 a11 a12 a13 a14 a15 a16 a17 a18 a19 : Option D} {r : Env'} : gv (a0 :: a1 :: a2 :: a3 :: a4 :: a5 :: a6 :: a7 :: a8 :: a9 :: a10 :: a11 :: a12 :: a13 :: a14 :: a15 :: a16 :: a17 :: a18 :: a19 :: r) 19 = a19 := rfl
theorem sv_19 {a0 a1 a2 a3 a4 a5 a6 a7 a8 a9 a10 a11 a12 a13 a14 a15 a16 a17 a18 a19 o : Option D} {r : Env'} : sv (a0 :: a1 :: a2 :: a3 :: a4 :: a5 :: a6 :: a7 :: a8 :: a9 :: a10 :: a11 :: a12 :: a13 :: a14 :: a15 :: a16 :: a17 :: a18 :: a19 :: r) 19 o = a0 :: a1 :: a2 :: a3 :: a4 :: a5 :: a6 :: a7 :: a8 :: a9 :: a10 :: a11 :: a12 :: a13 :: a14 :: a15 :: a16 :: a17 :: a18 :: o :: r := rfl
theorem gv_20 {a0 a1 a2 a3 a4 a5 a6 a7 a8 a9 a10 a11 a12 a13 a14 a15 a16 a17 a18 a19 a20 : Option D} {r : Env'} : gv (a0 :: a1 :: a2 :: a3 :: a4 :: a5 :: a6 :: a7 :: a8 :: a9 :: a10 :: a11 :: a12 :: a13 :: a14 :: a15 :: a16 :: a17 :: a18 :: a19 :: a20 :: r) 20 = a20 := rfl
theorem sv_20 {a0 a1 a2 a3 a4 a5 a6 a7 a8 a9 a10 a11 a12 a13 a14 a15 a16 a17 a18 a19 a20 o : Option D} {r : Env'} : sv (a0 :: a1 :: a2 :: a3 :: a4 :: a5 :: a6 :: a7 :: a8 :: a9 :: a10 :: a11 :: a12 :: a13 :: a14 :: a15 :: a16 :: a17 :: a18 :: a19 :: a20 :: r) 20 o = a0 :: a1 :: a2 :: a3 :: a4 :: a5 :: a6 :: a7 :: a8 :: a9 :: a10 :: a11 :: a12 :: a13 :: a14 :: a15 :: a16 :: a17 :: a18 :: a19 :: o :: r := rfl
theorem gv_21 {a0 a1 a2 a3 a4 a5 a6 a7 a8 a9 a10 a11 a12 a13 a14 a15 a16 a17 a18 a19 a20 a21 : Option D} {r : Env'} : gv (a0 :: a1 :: a2 :: a3 :: a4 :: a5 :: a6 :: a7 :: a8 :: a9 :: a10 :: a11 :: a12 :: a13 :: a14 :: a15 :: a16 :: a17 :: a18 :: a19 :: a20 :: a21 :: r) 21 = a21 := rfl
theorem sv_21 {a0 a1 a2 a3 a4 a5 a6 a7 a8 a9 a10 a11 a12 a13 a14 a15 a16 a17 a18 a19 a20 a21 o : Option D} {r : Env'} : sv (a0 :: a1 :: a2 :: a3 :: a4 :: a5 :: a6 :: a7 :: a8 :: a9 :: a10 :: a11 :: a12 :: a13 :: a14 :: a15 :: a16 :: a17 :: a18 :: a19 :: a20 :: a21 :: r) 21 o = a0 :: a1 :: a2 :: a3 :: a4 :: a5 :: a6 :: a7 :: a8 :: a9 :: a10 :: a11 :: a12 :: a13 :: a14 :: a15 :: a16 :: a17 :: a18 :: a19 :: a20 :: o :: r := rfl
theorem gv_22 {a0 a1 a2 a3 a4 a5 a6 a7 a8 a9 a10 a11 a12 a13 a14 a15 a16 a17 a18 a19 a20 a21 a22 : Option D} {r : Env'} : gv (a0 :: a1 :: a2 :: a3 :: a4 :: a5 :: a6 :: a7 :: a8 :: a9 :: a10 :: a11 :: a12 :: a13 :: a14 :: a15 :: a16 :: a17 :: a18 :: a19 :: a20 :: a21 :: a22 :: r) 22 = a22 := rfl
theorem sv_22 {a0 a1 a2 a3 a4 a5 a6 a7 a8 a9 a10 a11 a12 a13 a14 a15 a16 a17 a18 a19 a20 a21 a22 o : Option D} {r : Env'} : sv (a0 :: a1 :: a2 :: a3 :: a4 :: a5 :: a6 :: a7 :: a8 :: a9 :: a10 :: a11 :: a12 :: a13 :: a14 :: a15 :: a16 :: a17 :: a18 :: a19 :: a20 :: a21 :: a22 :: r) 22 o = a0 :: a1 :: a2 :: a3 :: a4 :: a5 :: a6 :: a7 :: a8 :: a9 :: a10 :: a11 :: a12 :: a13 :: a14 :: a15 :: a16 :: a17 :: a18 :: a19 :: a20 :: a21 :: o :: r := rfl
theorem gv_23 {a0 a1 a2 a3 a4 a5 a6 a7 a8 a9 a10 a11 a12 a13 a14 a15 a16 a17 a18 a19 a20 a21 a22 a23 : Option D} {r : Env'} : gv (a0 :: a1 :: a2 :: a3 :: a4 :: a5 :: a6 :: a7 :: a8 :: a9 :: a10 :: a11 :: a12 :: a13 :: a14 :: a15 :: a16 :: a17 :: a18 :: a19 :: a20 :: a21 :: a22 :: a23 :: r) 23 = a23 := rfl
theorem sv_23 {a0 a1 a2 a3 a4 a5 a6 a7 a8 a9 a10 a11 a12 a13 a14 a15 a16 a17 a18 a19 a20 a21 a22 a23 o : Option D} {r : Env'} : sv (a0 :: a1 :: a2 :: a3 :: a4 :: a5 :: a6 :: a7 :: a8 :: a9 :: a10 :: a11 :: a12 :: a13 :: a14 :: a15 :: a16 :: a17 :: a18 :: a19 :: a20 :: a21 :: a22 :: a23 :: r) 23 o = a0 :: a1 :: a2 :: a3 :: a4 :: a5 :: a6 :: a7 :: a8 :: a9 :: a10 :: a11 :: a12 :: a13 :: a14 :: a15 :: a16 :: a17 :: a18 :: a19 :: a20 :: a21 :: a22 :: o :: r := rfl
theorem set_slot (i : Nat) (d : D) (env : Env') : setT (.slot i) d env = some (sv env i (some d)) := rfl
theorem set_nil (env : Env') : setT .nil (.tup []) env = some env := rfl
theorem set_cons (a r : Tgt) (d : D) (ds : List D) (env : Env') : setT (.cons a r) (.tup (d :: ds)) env = (setT a d env).bind fun e => setTs r ds e := rfl
theorem sets_nil (env : Env') : setTs .nil [] env = some env := rfl
theorem sets_cons (a r : Tgt) (d : D) (ds : List D) (env : Env') : setTs (.cons a r) (d :: ds) env = (setT a d env).bind fun e => setTs r ds e := rfl
theorem wipe_nil (env : Env') : wipeD env [] = env := rfl
theorem wipe_cons (env : Env') (v : Nat) (vs : List Nat) : wipeD env (v :: vs) = sv (wipeD env vs) v none := rfl
theorem pure_int (i : Int) : (D.int i).pure = true := rfl
theorem pure_bl (b : Bool) : (D.bl b).pure = true := rfl
theorem pure_non : D.non.pure = true := rfl
theorem pure_str (t : Str) : (D.str t).pure = true := rfl
theorem pure_tup (xs : List D) : (D.tup xs).pure = D.pures xs := rfl
theorem pures_nil : D.pures [] = true := rfl
theorem pures_cons (x : D) (xs : List D) : D.pures (x :: xs) = (x.pure && D.pures xs) := rfl
theorem ow_some {α : Type} (a : α) (k : α → Prop) : Ow (some a) k = k a := rfl
section
variable {par : Nat → Nat → Bool} {mk : Nat → List D → Option Exn} {call : Nat → List D → Mem → R D} {cx : Option Exn} {env : Env'} {μ : Mem} {Q : D → Mem → Prop} {E : Exn → Mem → Prop} {P : Post}
theorem wp_ifs {c : Prop} [Decidable c] {r : R D} : (if c then r else .stuck : R D).wp Q E = (c ∧ r.wp Q E) := by
  split
  · next h => simp [h]
  · next h => simp [h, R.wp]
theorem y_var (i : Nat) : (evalE par call cx (.var i) env μ).wp Q E = Ow (gv env i) fun d => Q d μ := by
  rw [evalE]
  unfold gv
  rcases env[i]? with _ | _ | d <;> rfl
theorem y_non : (evalE par call cx .non env μ).wp Q E = Q .non μ := by rw [evalE]; rfl
theorem y_bl (b : Bool) : (evalE par call cx (.bl b) env μ).wp Q E = Q (.bl b) μ := by rw [evalE]; rfl
theorem y_int (b : Int) : (evalE par call cx (.int b) env μ).wp Q E = Q (.int b) μ := by rw [evalE]; rfl
theorem y_str (b : Str) : (evalE par call cx (.str b) env μ).wp Q E = Q (.str b) μ := by rw [evalE]; rfl
theorem y_gint (x : Str) (b : Int) : (evalE par call cx (.gint x b) env μ).wp Q E = Q (.int b) μ := by rw [evalE]; rfl
theorem y_bop (op : Bop) (a b : ME) : (evalE par call cx (.bop op a b) env μ).wp Q E = (evalE par call cx a env μ).wp (fun x μ => (evalE par call cx b env μ).wp (fun y μ => (bopD op x y μ).wp Q E) E) E := by
  rw [evalE, wp_bind]
  congr 1
  funext x μ
  rw [wp_bind]
theorem y_neg (a : ME) : (evalE par call cx (.neg a) env μ).wp Q E = (evalE par call cx a env μ).wp (fun x μ => ∃ i, x = .int i ∧ Q (.int (-i)) μ) E := by
  rw [evalE, wp_bind]
  congr 1
  funext x μ
  cases x <;> simp [R.wp]
theorem y_not (a : ME) : (evalE par call cx (.not a) env μ).wp Q E = (evalE par call cx a env μ).wp (fun x μ => Ow (truM μ x) fun b => Q (.bl (!b)) μ) E := by
  rw [evalE, wp_test]
  congr 1
  funext x μ
  cases truM μ x <;> simp [Ow, R.wp]
theorem y_cmp (op : Cop) (a b : ME) : (evalE par call cx (.cmp op a b) env μ).wp Q E = (evalE par call cx a env μ).wp (fun x μ => (evalE par call cx b env μ).wp (fun y μ => (copD op x y μ).wp Q E) E) E := by
  rw [evalE, wp_bind]
  congr 1
  funext x μ
  rw [wp_bind]
theorem y_cmp2 (op op' : Cop) (a b c : ME) : (evalE par call cx (.cmp2 op op' a b c) env μ).wp Q E = (evalE par call cx a env μ).wp (fun x μ => (evalE par call cx b env μ).wp (fun y μ => (copD op x y μ).wp (fun z μ => ∃ t, z = .bl t ∧ if t = true then (evalE par call cx c env μ).wp (fun u μ => (copD op' y u μ).wp Q E) E else Q (.bl false) μ) E) E) E := by
  rw [evalE, wp_bind]
  congr 1
  funext x μ
  rw [wp_bind]
  congr 1
  funext y μ
  rw [wp_bind]
  congr 1
  funext z μ
  cases z with
  | bl t =>
    cases t with
    | false => simp [R.wp]
    | true => simp only [D.bl.injEq, exists_eq_left', if_true, wp_bind]
  | _ => simp [R.wp]
theorem y_and (a b : ME) : (evalE par call cx (.and a b) env μ).wp Q E = (evalE par call cx a env μ).wp (fun x μ => Ow (truM μ x) fun t => if t = true then (evalE par call cx b env μ).wp Q E else Q x μ) E := by
  rw [evalE, wp_bind]
  congr 1
  funext x μ
  rcases truM μ x with _ | _ | _ <;> simp [Ow, R.wp]
theorem y_or (a b : ME) : (evalE par call cx (.or a b) env μ).wp Q E = (evalE par call cx a env μ).wp (fun x μ => Ow (truM μ x) fun t => if t = true then Q x μ else (evalE par call cx b env μ).wp Q E) E := by
  rw [evalE, wp_bind]
  congr 1
  funext x μ
  rcases truM μ x with _ | _ | _ <;> simp [Ow, R.wp]
theorem y_ite (t a b : ME) : (evalE par call cx (.ite t a b) env μ).wp Q E = (evalE par call cx t env μ).wp (fun x μ => Ow (truM μ x) fun k => if k = true then (evalE par call cx a env μ).wp Q E else (evalE par call cx b env μ).wp Q E) E := by
  rw [evalE, wp_test]
  congr 1
  funext x μ
  rcases truM μ x with _ | _ | _ <;> simp [Ow]
theorem y_tup (es : MEs) : (evalE par call cx (.tup es) env μ).wp Q E = (evalEs par call cx es env μ).wp (fun ds μ => ds.length ≤ 16000000 ∧ Q (.tup ds) μ) E := by
  rw [evalE, wp_bind]
  congr 1
  funext x μ
  exact wp_ifs (c := x.length ≤ LIM)
theorem y_lst (es : MEs) : (evalE par call cx (.lst es) env μ).wp Q E = (evalEs par call cx es env μ).wp (fun ds μ => ds.length ≤ 16000000 ∧ Q (.loc μ.length) (μ ++ [.lst ds])) E := by
  rw [evalE, wp_bind]
  congr 1
  funext x μ
  exact wp_ifs (c := x.length ≤ LIM)
theorem y_ix (a i : ME) : (evalE par call cx (.ix a i) env μ).wp Q E = (evalE par call cx a env μ).wp (fun x μ => (evalE par call cx i env μ).wp (fun y μ => Ow (seqM μ x) fun xs => ∃ k, y = .int k ∧ Ow (atD xs k) fun d => Q d μ) E) E := by
  rw [evalE, wp_bind]
  congr 1
  funext x μ
  rw [wp_bind]
  congr 1
  funext y μ
  unfold ixD
  cases seqM μ x with
  | none => simp [R.wp, Ow]
  | some xs =>
    cases y with
    | int k =>
      dsimp only
      cases h : atD xs k <;> simp [R.wp, Ow, h]
    | _ => simp [R.wp, Ow]
theorem y_slice (a : ME) (lo hi : MEs) : (evalE par call cx (.slice a lo hi) env μ).wp Q E = (evalE par call cx a env μ).wp (fun x μ => (evalO par call cx lo env μ).wp (fun l μ => (evalO par call cx hi env μ).wp (fun h μ => (sliceD x l h μ).wp Q E) E) E) E := by
  rw [evalE, wp_bind]
  congr 1
  funext x μ
  rw [wp_bind]
  congr 1
  funext y μ
  rw [wp_bind]
theorem y_o_nil {Q : Option Int → Mem → Prop} : (evalO par call cx .nil env μ).wp Q E = Q none μ := by rw [evalO]; rfl
theorem y_o_cons {Q : Option Int → Mem → Prop} (e : ME) (r : MEs) : (evalO par call cx (.cons e r) env μ).wp Q E = (evalE par call cx e env μ).wp (fun d μ => ∃ i, d = .int i ∧ Q (some i) μ) E := by
  rw [evalO, wp_bind]
  congr 1
  funext x μ
  cases x <;> simp [R.wp]
theorem y_sl_tup (xs : List D) (l h : Option Int) : (sliceD (.tup xs) l h μ).wp Q E = Q (.tup (cutD xs l h)) μ := rfl
theorem y_sl_loc (p : Nat) (l h : Option Int) : (sliceD (.loc p) l h μ).wp Q E = Ow (seqM μ (.loc p)) fun xs => Q (.loc μ.length) (μ ++ [.lst (cutD xs l h)]) := by
  unfold sliceD
  dsimp only
  cases seqM μ (.loc p) <;> rfl
theorem y_call (f : Nat) (es : MEs) : (evalE par call cx (.call f es) env μ).wp Q E = (evalEs par call cx es env μ).wp (fun ds μ => (call f ds μ).wp Q E) E := by rw [evalE, wp_bind]
theorem y_bi (f : Bi) (es : MEs) : (evalE par call cx (.bi f es) env μ).wp Q E = (evalEs par call cx es env μ).wp (fun ds μ => (biD f ds μ).wp Q E) E := by rw [evalE, wp_bind]
theorem y_meth (m : Mt) (o : ME) (es : MEs) : (evalE par call cx (.meth m o es) env μ).wp Q E = (evalE par call cx o env μ).wp (fun x μ => mtRecv m x μ = true ∧ (evalEs par call cx es env μ).wp (fun ds μ => (mtD m x ds μ).wp Q E) E) E := by
  rw [evalE, wp_bind]
  congr 1
  funext x μ
  by_cases h : mtRecv m x μ = true
  · simp [h, wp_bind]
  · simp [h, R.wp]
theorem y_isin (a : ME) (t : Ty) : (evalE par call cx (.isin a t) env μ).wp Q E = (evalE par call cx a env μ).wp (fun x μ => Ow (isTy μ x t) fun b => Q (.bl b) μ) E := by
  rw [evalE, wp_bind]
  congr 1
  funext x μ
  cases isTy μ x t <;> rfl
theorem y_xfld (f : Str) (x : Exn) : (evalE par call (some x) (.xfld f) env μ).wp Q E = Ow (x.fs.lookup f) fun d => Q d μ := by
  rw [evalE]
  cases x.fs.lookup f <;> rfl
theorem y_xis (c : XC) (x : Exn) : (evalE par call (some x) (.xis c) env μ).wp Q E = Q (.bl (isXC par x c)) μ := by rw [evalE]; rfl
theorem y_es_nil {Q : List D → Mem → Prop} : (evalEs par call cx .nil env μ).wp Q E = Q [] μ := by rw [evalEs]; rfl
theorem y_es_cons {Q : List D → Mem → Prop} (e : ME) (r : MEs) : (evalEs par call cx (.cons e r) env μ).wp Q E = (evalE par call cx e env μ).wp (fun d μ => (evalEs par call cx r env μ).wp (fun ds μ => Q (d :: ds) μ) E) E := by
  rw [evalEs, wp_bind]
  congr 1
  funext x μ
  rw [wp_bind]
  rfl
/-! what a loop walks -/
theorem y_i_seq {Q : It → Mem → Prop} (e : ME) : (evalI par call cx (.seq e) env μ).wp Q E = (evalE par call cx e env μ).wp (fun d μ => Ow (itD μ d) fun w => Q w μ) E := by
  rw [evalI, wp_bind]
  congr 1
  funext x μ
  cases x with
  | loc l =>
    show R.wp (match seqM μ (.loc l) with
      | some xs => R.ok (It.live l xs.length) μ
      | none => .stuck) _ _ = Ow (itD μ (.loc l)) _
    simp only [itD]
    cases seqM μ (.loc l) <;> rfl
  | tup xs => rfl
  | _ => rfl
theorem y_i_rng1 {Q : It → Mem → Prop} (e : ME) : (evalI par call cx (.rng1 e) env μ).wp Q E = (evalE par call cx e env μ).wp (fun d μ => ∃ i, d = .int i ∧ (i ≤ 1000000000 ∧ -1000000000 ≤ i) ∧ Q (.items (rngD 0 i)) μ) E := by
  rw [evalI, wp_bind]
  congr 1
  funext x μ
  cases x with
  | int i =>
    dsimp only
    split
    · next h => simp [h, R.wp]
    · next h => simp [h, R.wp]
  | _ => simp [R.wp]
theorem y_i_rng2 {Q : It → Mem → Prop} (a b : ME) : (evalI par call cx (.rng2 a b) env μ).wp Q E = (evalE par call cx a env μ).wp (fun d μ => (evalE par call cx b env μ).wp (fun e μ => ∃ i j, d = .int i ∧ e = .int j ∧ ((i ≤ 1000000000 ∧ -1000000000 ≤ i) ∧ j ≤ 1000000000 ∧ -1000000000 ≤ j) ∧ Q (.items (rngD i j)) μ) E) E := by
  rw [evalI, wp_bind]
  congr 1
  funext x μ
  rw [wp_bind]
  congr 1
  funext y μ
  cases x with
  | int i =>
    cases y with
    | int j =>
      dsimp only
      split
      · next h => simp [h, R.wp]
      · next h => simp [h, R.wp]
    | _ => simp [R.wp]
  | _ => simp [R.wp]
theorem y_i_zip {Q : It → Mem → Prop} (a b : ME) : (evalI par call cx (.zip a b) env μ).wp Q E = (evalE par call cx a env μ).wp (fun d μ => (evalE par call cx b env μ).wp (fun e μ => Ow (zipD μ d e) fun w => Q w μ) E) E := by
  rw [evalI, wp_bind]
  congr 1
  funext x μ
  rw [wp_bind]
  congr 1
  funext y μ
  cases x with
  | loc l =>
    cases y with
    | loc m =>
      dsimp only
      simp only [zipD]
      cases seqM μ (.loc l) <;> cases seqM μ (.loc m) <;> rfl
    | _ => rfl
  | tup xs => cases y <;> rfl
  | _ => rfl
theorem y_lc (elt : ME) (tg : Tgt) (it : MI) (tests : MEs) (own : List Nat) : (evalE par call cx (.lc elt tg it tests own) env μ).wp Q E =
    (evalI par call cx it env μ).wp (fun w μ => (lcGo w μ.length (lcF par call cx elt tg tests (wipeD env own)) w.fuel 0 (μ ++ [.lst []])).wp Q E) E := wp_lc ..
theorem y_lcF {Q : Option D → Mem → Prop} (elt : ME) (tg : Tgt) (tests : MEs) (d : D) : (lcF par call cx elt tg tests env d μ).wp Q E =
    Ow (setT tg d env) fun env' => (evalTs par call cx tests env' μ).wp (fun b μ => if b = true then (evalE par call cx elt env' μ).wp (fun y μ => Q (some y) μ) E else Q none μ) E := by
  rw [wp_lcF]
  cases setT tg d env <;> simp [Ow]
theorem y_t_cons {Q : Bool → Mem → Prop} (e : ME) (r : MEs) : (evalTs par call cx (.cons e r) env μ).wp Q E =
    (evalE par call cx e env μ).wp (fun d μ => Ow (truM μ d) fun b => if b = true then (evalTs par call cx r env μ).wp Q E else Q false μ) E := by
  rw [wp_tests_cons]
  congr 1
  funext d μ
  cases truM μ d <;> simp [Ow]
/-! statements -/
theorem y_asg (t : Tgt) (e : ME) : (execS par mk call cx (.asg t e) env μ).wp P = (evalE par call cx e env μ).wp (fun d μ => Ow (setT t d env) fun env => P.nx env μ) (fun x μ => P.ex x env μ) := by
  rw [wp_asg]
  congr 1
  funext d μ
  cases setT t d env <;> simp [Ow]
theorem y_if (t : ME) (a b : MSs) : (execS par mk call cx (.ite t a b) env μ).wp P = (evalE par call cx t env μ).wp (fun d μ => Ow (truM μ d) fun k => if k = true then (execSs par mk call cx a env μ).wp P else (execSs par mk call cx b env μ).wp P) (fun x μ => P.ex x env μ) := by
  rw [wp_ite]
  congr 1
  funext d μ
  cases truM μ d <;> simp [Ow]
theorem y_raise (c : Nat) (es : MEs) : (execS par mk call cx (.raise c es) env μ).wp P = (evalEs par call cx es env μ).wp (fun ds μ => Ow (mk c ds) fun x => P.ex x env μ) (fun x μ => P.ex x env μ) := by
  rw [wp_raise]
  congr 1
  funext d μ
  cases mk c d <;> simp [Ow]
theorem y_forF (t : Tgt) (b : MSs) (d : D) : (forF par mk call cx t b d env μ).wp P = Ow (setT t d env) fun env => (execSs par mk call cx b env μ).wp P := by
  rw [wp_forF]
  cases setT t d env <;> simp [Ow]
theorem y_aug (i : Nat) (op : Bop) (e : ME) : (execS par mk call cx (.aug i op e) env μ).wp P =
    Ow (gv env i) fun x => (evalE par call cx e env μ).wp (fun y μ => (augD op x y μ).wp (fun z μ => P.nx (sv env i (some z)) μ) (fun x μ => P.ex x env μ)) (fun x μ => P.ex x env μ) := by
  rw [wp_aug]
  unfold gv sv
  rcases env[i]? with _ | _ | x <;> simp [Ow]
theorem y_asgS (o i e : ME) : (execS par mk call cx (.asgS o i e) env μ).wp P =
    (evalE par call cx e env μ).wp (fun v μ => (evalE par call cx o env μ).wp (fun x μ => (evalE par call cx i env μ).wp (fun y μ => ∃ l k, x = .loc l ∧ y = .int k ∧ Ow (μ[l]?) fun o => ∃ xs, o = .lst xs ∧ Ow (setD xs k v) fun ys => P.nx env (μ.set l (.lst ys))) (fun x μ => P.ex x env μ)) (fun x μ => P.ex x env μ)) (fun x μ => P.ex x env μ) := by
  rw [wp_asgS]
  congr 1
  funext v μ
  congr 1
  funext x μ
  congr 1
  funext y μ
  simp only [eq_iff_iff]
  constructor
  · rintro ⟨l, k, xs, ys, h1, h2, h3, h4, h5⟩
    exact ⟨l, k, h1, h2, by rw [h3]; exact ⟨xs, rfl, by rw [h4]; exact h5⟩⟩
  · rintro ⟨l, k, h1, h2, h⟩
    cases hl : μ[l]? with
    | none => rw [hl] at h; exact h.elim
    | some o =>
      rw [hl] at h
      obtain ⟨xs, rfl, h⟩ := h
      cases hs : setD xs k v with
      | none => rw [hs] at h; exact h.elim
      | some ys => rw [hs] at h; exact ⟨l, k, xs, ys, h1, h2, hl, hs, h⟩
theorem y_brk : (execS par mk call cx .brk env μ).wp P = P.br env μ := by rw [execS]; rfl
theorem y_cnt : (execS par mk call cx .cnt env μ).wp P = P.ct env μ := by rw [execS]; rfl
theorem y_pass : (execS par mk call cx .pass env μ).wp P = P.nx env μ := by rw [execS]; rfl
theorem y_ret0 : (execS par mk call cx .ret0 env μ).wp P = P.rt .non μ := by rw [execS]; rfl
theorem y_whl (t : ME) (b : MSs) : (execS par mk call cx (.whl t b) env μ).wp P = (whlGo (evalE par call cx t) (execSs par mk call cx b) WH env μ).wp P := by rw [execS]
/-! operations -/
variable {i j : Int} {xs ys : List D} {l m : Nat} {a b : Bool} {d e : D} {s : Str}
theorem y_add : (bopD .add (.int i) (.int j) μ).wp Q E = Q (.int (i + j)) μ := rfl
theorem y_sub : (bopD .sub (.int i) (.int j) μ).wp Q E = Q (.int (i - j)) μ := rfl
def MulOk (i j : Int) : Prop := (i.natAbs < 18446744073709551616 ∨ j.natAbs < 18446744073709551616) ∨ i.natAbs.log2 + j.natAbs.log2 < 1000000
theorem mul_l (h : i.natAbs < 18446744073709551616) : MulOk i j := .inl (.inl h)
theorem mul_r (h : j.natAbs < 18446744073709551616) : MulOk i j := .inl (.inr h)
theorem mul_ln (n : Nat) (h : n < 18446744073709551616 := by decide) : MulOk (OfNat.ofNat n) j := .inl (.inl (by show n < _; exact h))
theorem mul_rn (n : Nat) (h : n < 18446744073709551616 := by decide) : MulOk i (OfNat.ofNat n) := .inl (.inr (by show n < _; exact h))
theorem y_mul : (bopD .mul (.int i) (.int j) μ).wp Q E = (MulOk i j ∧ Q (.int (i * j)) μ) := wp_ifs
theorem y_div : (bopD .fdiv (.int i) (.int j) μ).wp Q E = ((0 < j ∧ (j < 1073741824 ∨ j.natAbs.log2 < 9000)) ∧ Q (.int (i / j)) μ) := wp_ifs
theorem y_mod : (bopD .mod (.int i) (.int j) μ).wp Q E = (0 < j ∧ Q (.int (i % j)) μ) := wp_ifs
theorem y_pow : (bopD .pow (.int i) (.int j) μ).wp Q E = ((0 ≤ j ∧ j ≤ 1000000 ∧ i.natAbs < 18446744073709551616) ∧ Q (.int (i ^ j.toNat)) μ) := wp_ifs
theorem y_addt : (bopD .add (.tup xs) (.tup ys) μ).wp Q E = (xs.length + ys.length ≤ 16000000 ∧ Q (.tup (xs ++ ys)) μ) := wp_ifs
theorem y_eq : (copD .eq d e μ).wp Q E = Ow (eqM d e μ) fun b => Q (.bl b) μ := by
  rw [co_eq]
  cases eqM d e μ <;> rfl
theorem y_ne : (copD .ne d e μ).wp Q E = Ow (eqM d e μ) fun b => Q (.bl (!b)) μ := by
  rw [co_ne]
  cases eqM d e μ <;> rfl
theorem y_lt : (copD .lt (.int i) (.int j) μ).wp Q E = Q (.bl (decide (i < j))) μ := rfl
theorem y_le : (copD .le (.int i) (.int j) μ).wp Q E = Q (.bl (decide (i ≤ j))) μ := rfl
theorem y_gt : (copD .gt (.int i) (.int j) μ).wp Q E = Q (.bl (decide (j < i))) μ := rfl
theorem y_ge : (copD .ge (.int i) (.int j) μ).wp Q E = Q (.bl (decide (j ≤ i))) μ := rfl
theorem y_is_b : (copD .is (.bl a) (.bl b) μ).wp Q E = Q (.bl (decide (a = b))) μ := rfl
theorem y_is_n : (copD .is .non .non μ).wp Q E = Q (.bl true) μ := rfl
theorem y_is_i : (copD .is (.int i) .non μ).wp Q E = Q (.bl false) μ := rfl
theorem y_is_t : (copD .is (.tup xs) .non μ).wp Q E = Q (.bl false) μ := rfl
theorem y_no_b : (copD .isNot (.bl a) (.bl b) μ).wp Q E = Q (.bl (!decide (a = b))) μ := rfl
theorem y_no_n : (copD .isNot .non .non μ).wp Q E = Q (.bl false) μ := rfl
theorem y_no_i : (copD .isNot (.int i) .non μ).wp Q E = Q (.bl true) μ := rfl
theorem y_no_t : (copD .isNot (.tup xs) .non μ).wp Q E = Q (.bl true) μ := rfl
theorem y_gadd : (augD .add (.int i) (.int j) μ).wp Q E = Q (.int (i + j)) μ := rfl
theorem y_gsub : (augD .sub (.int i) (.int j) μ).wp Q E = Q (.int (i - j)) μ := rfl
theorem y_gmul : (augD .mul (.int i) (.int j) μ).wp Q E = ((i.natAbs < 18446744073709551616 ∨ j.natAbs < 18446744073709551616) ∧ Q (.int (i * j)) μ) := wp_ifs
theorem y_gdiv : (augD .fdiv (.int i) (.int j) μ).wp Q E = ((0 < j ∧ j < 1073741824) ∧ Q (.int (i / j)) μ) := wp_ifs
theorem y_gmod : (augD .mod (.int i) (.int j) μ).wp Q E = (0 < j ∧ Q (.int (i % j)) μ) := wp_ifs
theorem y_len_t : (biD .len [.tup xs] μ).wp Q E = Q (.int xs.length) μ := rfl
theorem y_len_l : (biD .len [.loc l] μ).wp Q E = Ow (seqM μ (.loc l)) fun xs => Q (.int xs.length) μ := by
  rw [bi_len_loc]
  cases seqM μ (.loc l) <;> rfl
theorem y_tuple : (biD .tuple [d] μ).wp Q E = Ow (seqM μ d) fun xs => Q (.tup xs) μ := by
  rw [bi_tuple]
  cases seqM μ d <;> rfl
theorem y_list : (biD .list [d] μ).wp Q E = Ow (seqM μ d) fun xs => Q (.loc μ.length) (μ ++ [.lst xs]) := by
  cases d <;> simp only [biD] <;> (generalize seqM μ _ = o; cases o <;> rfl)
theorem y_int_i : (biD .int [.int i] μ).wp Q E = Q (.int i) μ := rfl
theorem y_int_b : (biD .int [.bl b] μ).wp Q E = Q (.int (if b then 1 else 0)) μ := rfl
theorem y_bool_i : (biD .bool [.int i] μ).wp Q E = Q (.bl (i != 0)) μ := rfl
theorem y_bool_b : (biD .bool [.bl b] μ).wp Q E = Q (.bl b) μ := rfl
theorem y_abs : (biD .abs [.int i] μ).wp Q E = Q (.int (if i < 0 then -i else i)) μ := rfl
theorem y_min2 : (biD .min2 [.int i, .int j] μ).wp Q E = Q (.int (if j < i then j else i)) μ := rfl
theorem y_max2 : (biD .max2 [.int i, .int j] μ).wp Q E = Q (.int (if j > i then j else i)) μ := rfl
theorem y_sum : (biD .sum [.loc l] μ).wp Q E = Ow (seqM μ (.loc l)) fun xs => Ow (isInts xs) fun ns => Q (.int ns.sum) μ := by
  rw [bi_sum]
  cases seqM μ (.loc l) with
  | none => rfl
  | some xs =>
    simp only [Option.bind_some, Ow]
    cases isInts xs <;> rfl
theorem y_app : (mtD .append (.loc l) [d] μ).wp Q E = Ow (μ[l]?) fun o => ∃ xs, o = .lst xs ∧ xs.length < 16000000 ∧ Q .non (μ.set l (.lst (xs ++ [d]))) := by
  rw [mt_app]
  rcases h : μ[l]? with _ | o
  · simp [R.wp, Ow]
  · cases o with
    | lst xs => simp only [Ow]; exact (wp_ifs (c := xs.length < 16000000)).trans (by simp [wp_ok])
    | _ => simp [R.wp, Ow]
theorem y_pop : (mtD .pop (.loc l) [] μ).wp Q E = Ow (μ[l]?) fun o => ∃ xs, o = .lst xs ∧ Ow (xs[xs.length - 1]?) fun d => Q d (μ.set l (.lst xs.dropLast)) := by
  rcases h : μ[l]? with _ | o
  · simp [mtD, R.wp, Ow, h]
  · cases o with
    | lst xs =>
      simp only [mtD, h, Ow, MO.lst.injEq, exists_eq_left']
      cases xs[xs.length - 1]? <;> rfl
    | _ => simp [mtD, R.wp, Ow, h]
end
/-! ### draws in a comprehension -/
theorem lc_draw {xs : List D} {f : D → Mem → R (Option D)} {Q : D → Mem → Prop} {E : Exn → Mem → Prop} {b : Nat} {g s C w : Int} {μ : Mem} {n L : Nat} (ok : D → Prop) (F : Fr b g s C μ μ) (hw : 0 ≤ w) (hn : n = xs.length) (hL : L = μ.length) (hl : xs.length ≤ 16000000) (hp : ∀ y, ok y → y.pure = true)
    (hs : ∀ (i : Nat) d ν, xs[i]? = some d → Fr b g s (C + i * w) ν ν → ∀ S : Option D → Mem → Prop, (∀ y N c, ok y → 0 ≤ c → c ≤ C + i * w + w → S (some y) (ν.set b (bagO N g s c))) → (f d ν).wp S fun _ _ => False)
    (he : ∀ ys N c, ys.length = xs.length → (∀ y ∈ ys, ok y) → 0 ≤ c → c ≤ C + xs.length * w → Q (.loc L) (μ.set b (bagO N g s c) ++ [.lst ys])) : (lcGo (.items xs) L f n 0 (μ ++ [.lst []])).wp Q E := by
  subst hn hL
  have hb := F.lt
  obtain ⟨N0, c0, z0, h00, h01⟩ := F.bag
  refine lc_rule (it := .items xs) (xs := xs) (fun i μ1 => ∃ ys N c, μ1 = μ.set b (bagO N g s c) ++ [.lst ys] ∧ ys.length = i ∧ i ≤ xs.length ∧ (∀ y ∈ ys, ok y) ∧ 0 ≤ c ∧ c ≤ C + i * w) (fun _ _ _ => rfl) rfl ⟨[], N0, c0, ?_, rfl, Nat.zero_le _, fun _ h => absurd h List.not_mem_nil, h00, by simpa using h01⟩ ?_ ?_
  · congr 1
    refine List.ext_getElem? fun i => ?_
    by_cases e : b = i
    · subst e; rw [List.getElem?_set_self hb, z0]
    · rw [List.getElem?_set_ne e]
  · rintro i d μ1 hd ⟨ys, N, c, rfl, h1, h2, h3, h4, h5⟩
    have hi : i < xs.length := (List.getElem?_eq_some_iff.mp hd).1
    have hp' : D.pures ys = true := by rw [pures_all]; exact List.all_eq_true.mpr fun y hy => hp y (h3 y hy)
    have Fν : Fr b g s (C + i * w) (μ.set b (bagO N g s c) ++ [.lst ys]) (μ.set b (bagO N g s c) ++ [.lst ys]) :=
      Fr.refl (N := N) (c := c) ((F.pu.bag _ _ _ _ _).push hp') (by rw [List.getElem?_append_left (by rw [List.length_set]; exact hb), List.getElem?_set_self hb]) h4 h5
    refine hs i d _ hd Fν _ fun y N' c' o0 o1 o2 => ?_
    have e : (μ.set b (bagO N g s c) ++ [MO.lst ys]).set b (bagO N' g s c') = μ.set b (bagO N' g s c') ++ [MO.lst ys] := by rw [List.set_append_left _ _ (by rw [List.length_set]; exact hb), List.set_set]
    rw [e]
    refine ⟨ys, by rw [List.getElem?_append_right (by rw [List.length_set]; exact Nat.le_refl _)]; simp, ?_, ys ++ [y], N', c', ?_, by simp [h1], hi, ?_, o1, ?_⟩
    · show ys.length < 16000000
      omega
    · rw [List.set_append_right _ _ (by rw [List.length_set]; exact Nat.le_refl _)]
      simp
    · intro z hz
      rcases List.mem_append.mp hz with hz | hz
      · exact h3 z hz
      · simp at hz; subst hz; exact o0
    · have : ((i + 1 : Nat) : Int) * w = i * w + w := by rw [Int.natCast_add, Int.add_mul]; simp
      omega
  · rintro μ1 ⟨ys, N, c, rfl, h1, h2, h3, h4, h5⟩
    exact he ys N c h1 h3 h4 h5
theorem take_draw {μ j : Mem} {b : Nat} {x y : MO} : ((μ.set b x).set b y ++ j).take μ.length = μ.set b y := by
  rw [List.set_set]
  exact take_end (by simp)
theorem rng_len (i : Int) : (rngD 0 i).length = i.toNat := by simp [rngD]
theorem all_map {α : Type} {f : α → D} {p : α → Prop} : ∀ {ys : List D}, (∀ y ∈ ys, ∃ x, y = f x ∧ p x) → ∃ r : List α, ys = r.map f ∧ ∀ x ∈ r, p x
  | [], _ => ⟨[], rfl, fun _ h => absurd h List.not_mem_nil⟩
  | y :: ys, h => by
    obtain ⟨x, e, px⟩ := h y List.mem_cons_self
    obtain ⟨r, er, pr⟩ := all_map (ys := ys) fun z hz => h z (List.mem_cons_of_mem _ hz)
    refine ⟨x :: r, by rw [List.map_cons, e, er], fun z hz => ?_⟩
    rcases List.mem_cons.mp hz with hz | hz
    · subst hz; exact px
    · exact pr z hz
theorem seq_end {ν j : Mem} {xs : List D} {l : Nat} (h : ν.length = l) : seqM (ν ++ .lst xs :: j) (.loc l) = some xs := seq_lst (at_end h)
theorem pures_map {α : Type} {f : α → D} (h : ∀ a, (f a).pure = true) : ∀ l : List α, D.pures (l.map f) = true
  | [] => rfl
  | a :: l => by rw [List.map_cons, D.pures, h a, pures_map h l]; rfl
/-- what a call leaves, over a frame -/
theorem fr_call {b : Nat} {g s C : Int} {μ μ1 : Mem} (F : Fr b g s C μ μ1) (hb : b < μ.length) {Q : Mem → Prop} (h : ∀ N c, 0 ≤ c → c ≤ C → Q (μ.set b (bagO N g s c))) : Q (μ1.take μ.length) := by
  obtain ⟨N, c, e, h0, h1⟩ := F.fin hb
  rw [e]
  exact h N c h0 h1
theorem isInts_map : ∀ ns : List Int, isInts (ns.map D.int) = some ns
  | [] => rfl
  | n :: ns => by rw [List.map_cons, isInts, isInts_map ns]; rfl
theorem Pu.ints {μ : Mem} (h : Pu μ) (r : List Int) : Pu (μ ++ [.lst (r.map D.int)]) := h.push (shps_pures (shps_ints (k := 0) r))
theorem seq_app {μ j : Mem} {l : Nat} {xs : List D} (h : seqM μ (.loc l) = some xs) : seqM (μ ++ j) (.loc l) = some xs := by
  have : l < μ.length := by
    rcases Nat.lt_or_ge l μ.length with z | z
    · exact z
    · unfold seqM at h
      dsimp only at h
      rw [List.getElem?_eq_none z] at h
      cases h
  unfold seqM at h ⊢
  dsimp only at h ⊢
  rw [List.getElem?_append_left this]
  exact h
theorem cut_take (xs : List D) (k : Nat) : cutD xs none (some (k : Int)) = xs.take k := by
  unfold cutD cutIx
  dsimp only
  rw [if_neg (by omega), List.drop_zero]
  simp
theorem lc_liveE {xs : List D} {l m n L : Nat} {f : D → Mem → R (Option D)} {Q : D → Mem → Prop} {E : Exn → Mem → Prop} {μ ν : Mem} (g : D → D) (hm : seqM μ (.loc l) = some xs) (hl : xs.length ≤ 16000000) (h1 : m = xs.length) (h2 : n = xs.length) (h3 : L = μ.length) (h4 : ν = μ ++ [.lst []])
    (hs : ∀ (i : Nat) (x : D) (acc : List D), xs[i]? = some x → (f x (μ ++ [.lst acc])).wp (fun o μ' => o = some (g x) ∧ μ' = μ ++ [.lst acc]) fun _ _ => False)
    (he : Q (.loc μ.length) (μ ++ [.lst (xs.map g)])) : (lcGo (.live l m) L f n 0 ν).wp Q E := by
  subst h1 h2 h3 h4
  exact lc_live g hl hm hs he
theorem lc_plainE {xs : List D} {n L : Nat} {f : D → Mem → R (Option D)} {Q : D → Mem → Prop} {E : Exn → Mem → Prop} {μ ν : Mem} (g : D → D) (hl : xs.length ≤ 16000000) (h2 : n = xs.length) (h3 : L = μ.length) (h4 : ν = μ ++ [.lst []])
    (hs : ∀ (i : Nat) (x : D) (acc : List D), xs[i]? = some x → (f x (μ ++ [.lst acc])).wp (fun o μ' => o = some (g x) ∧ μ' = μ ++ [.lst acc]) fun _ _ => False)
    (he : Q (.loc μ.length) (μ ++ [.lst (xs.map g)])) : (lcGo (.items xs) L f n 0 ν).wp Q E := by
  subst h2 h3 h4
  exact lc_plain g hl hs he
theorem cut_lo {xs : List D} {i : Int} (h : 0 ≤ i) : cutD xs none (some i) = xs.take i.toNat := by
  unfold cutD cutIx
  dsimp only
  rw [if_neg (by omega), List.drop_zero]
  simp
theorem cut_hi {xs : List D} {i : Int} (h : 0 ≤ i) : cutD xs (some i) none = xs.drop i.toNat := by
  unfold cutD cutIx
  dsimp only
  rw [if_neg (by omega), List.take_of_length_le (by simp)]
  rcases Nat.le_total i.toNat xs.length with z | z
  · rw [Nat.min_eq_left z]
  · rw [Nat.min_eq_right z, List.drop_length, List.drop_of_length_le z]
theorem cut_set {α : Type} {f : α → D} {xs : List α} {i : Int} {v : α} (h : 0 ≤ i) (hi : i < xs.length) : cutD (xs.map f) none (some i) ++ f v :: cutD (xs.map f) (some (i + 1)) none = (xs.set i.toNat v).map f := by
  rw [cut_lo h, cut_hi (by omega), List.set_eq_take_append_cons_drop, if_pos (by omega), List.map_append, List.map_cons, List.map_take, List.map_drop, show (i + 1).toNat = i.toNat + 1 by omega]
theorem cut_len {xs : List D} {l h : Option Int} : (cutD xs l h).length ≤ xs.length := by
  unfold cutD
  rw [List.length_take, List.length_drop]
  omega
/-- a plain comprehension over the images of things -/
theorem lc_mapE {α : Type} {ls : List α} {e : α → D} {n L : Nat} {f : D → Mem → R (Option D)} {Q : D → Mem → Prop} {E : Exn → Mem → Prop} {μ ν : Mem} (G : α → D) (hl : ls.length ≤ 16000000) (h2 : n = ls.length) (h3 : L = μ.length) (h4 : ν = μ ++ [.lst []]) (hG : ∀ a ∈ ls, (G a).pure = true)
    (hs : ∀ (i : Nat) (a : α) (acc : List D), ls[i]? = some a → a ∈ ls → D.pures acc = true → (f (e a) (μ ++ [.lst acc])).wp (fun o μ' => o = some (G a) ∧ μ' = μ ++ [.lst acc]) fun _ _ => False)
    (he : Q (.loc μ.length) (μ ++ [.lst (ls.map G)])) : (lcGo (.items (ls.map e)) L f n 0 ν).wp Q E := by
  subst h2 h3 h4
  refine lc_rule (it := .items (ls.map e)) (xs := ls.map e) (fun i μ1 => μ1 = μ ++ [.lst ((ls.take i).map G)] ∧ i ≤ ls.length) (fun _ _ _ => rfl) (by simp) ⟨by simp, Nat.zero_le _⟩ ?_ ?_
  · rintro i d μ1 hd ⟨rfl, hi⟩
    rw [List.getElem?_map] at hd
    obtain ⟨a, ha, rfl⟩ := Option.map_eq_some_iff.mp hd
    have hpp : D.pures ((ls.take i).map G) = true := by
      rw [pures_all]
      refine List.all_eq_true.mpr fun y hy => ?_
      obtain ⟨z, hz, rfl⟩ := List.mem_map.mp hy
      exact hG z (List.mem_of_mem_take hz)
    refine R.wp_mono (hs i a ((ls.take i).map G) ha (List.mem_of_getElem? ha) hpp) ?_ fun _ _ h => h
    rintro o μ1 ⟨rfl, rfl⟩
    have hlt : i < ls.length := (List.getElem?_eq_some_iff.mp ha).1
    refine ⟨(ls.take i).map G, by simp, ?_, ?_, hlt⟩
    · show ((ls.take i).map G).length < 16000000
      rw [List.length_map, List.length_take]; omega
    · rw [List.take_add_one, ha]; simp
  · rintro μ1 ⟨rfl, _⟩
    simpa using he
theorem eqvs_ints : ∀ a b : List Int, PyData.eqvAll (D.pys (a.map D.int)) (D.pys (b.map D.int)) = decide (a = b)
  | [], [] => rfl
  | [], _ :: _ => rfl
  | _ :: _, [] => rfl
  | x :: a, y :: b => by
    rw [List.map_cons, List.map_cons, D.pys, D.pys, PyData.eqvAll, eqvs_ints a b]
    show ((x == y) && decide (a = b)) = _
    by_cases h : x = y
    · subst h; simp
    · simp [h]
theorem lk_hd (k : Str) (v : D) (r : List (Str × D)) : List.lookup k ((k, v) :: r) = some v := by simp [List.lookup]
theorem xc_own {par : Nat → Nat → Bool} (x : Exn) (c : Nat) : isXC par x (.own c) = par x.cls c := rfl
theorem xc_ve {par : Nat → Nat → Bool} (x : Exn) : isXC par x .ve = true := rfl
theorem it_tup (xs : List D) (μ : Mem) : itD μ (.tup xs) = some (.items xs) := rfl
theorem it_loc {μ : Mem} {l : Nat} {xs : List D} (h : seqM μ (.loc l) = some xs) : itD μ (.loc l) = some (.live l xs.length) := by
  show (seqM μ (.loc l)).map _ = _
  rw [h]
  rfl
theorem zip_tup (xs ys : List D) (μ : Mem) : zipD μ (.tup xs) (.tup ys) = some (.items (List.zipWith (fun x y => D.tup [x, y]) xs ys)) := rfl
theorem fu_items (xs : List D) : (It.items xs).fuel = xs.length := rfl
theorem fu_live (l n : Nat) : (It.live l n).fuel = n := rfl
theorem fu_zip (l m n : Nat) : (It.zipL l m n).fuel = n := rfl
theorem rng_map (n : Nat) : rngD 0 n = (List.range n).map fun (i : Nat) => D.int i := by simp [rngD]
theorem map_getD {α β : Type} {f : α → β} {d : α} (l : List α) : (List.range l.length).map (fun i => f (l.getD i d)) = l.map f := by
  refine List.ext_getElem (by simp) fun i h1 h2 => ?_
  have hi : i < l.length := by simpa using h1
  simp [hi]
theorem at_e1 {ν j : Mem} {o0 o : MO} {l : Nat} (h : ν.length = l) : (ν ++ o0 :: o :: j)[l + 1]? = some o := by subst h; rw [List.getElem?_append_right (by omega)]; simp
theorem set_e1 {ν j : Mem} {o0 o u : MO} {l : Nat} (h : ν.length = l) : (ν ++ o0 :: o :: j).set (l + 1) u = ν ++ o0 :: u :: j := by subst h; rw [List.set_append_right _ _ (by omega)]; simp
theorem seq_e1 {ν j : Mem} {o0 : MO} {xs : List D} {l : Nat} (h : ν.length = l) : seqM (ν ++ o0 :: .lst xs :: j) (.loc (l + 1)) = some xs := seq_lst (at_e1 h)
theorem at_e2 {ν j : Mem} {o0 o1 o : MO} {l : Nat} (h : ν.length = l) : (ν ++ o0 :: o1 :: o :: j)[l + 2]? = some o := by subst h; rw [List.getElem?_append_right (by omega)]; simp
theorem set_e2 {ν j : Mem} {o0 o1 o u : MO} {l : Nat} (h : ν.length = l) : (ν ++ o0 :: o1 :: o :: j).set (l + 2) u = ν ++ o0 :: o1 :: u :: j := by subst h; rw [List.set_append_right _ _ (by omega)]; simp
theorem seq_e2 {ν j : Mem} {o0 o1 : MO} {xs : List D} {l : Nat} (h : ν.length = l) : seqM (ν ++ o0 :: o1 :: .lst xs :: j) (.loc (l + 2)) = some xs := seq_lst (at_e2 h)
theorem at_e3 {ν j : Mem} {o0 o1 o2 o : MO} {l : Nat} (h : ν.length = l) : (ν ++ o0 :: o1 :: o2 :: o :: j)[l + 3]? = some o := by subst h; rw [List.getElem?_append_right (by omega)]; simp
theorem set_e3 {ν j : Mem} {o0 o1 o2 o u : MO} {l : Nat} (h : ν.length = l) : (ν ++ o0 :: o1 :: o2 :: o :: j).set (l + 3) u = ν ++ o0 :: o1 :: o2 :: u :: j := by subst h; rw [List.set_append_right _ _ (by omega)]; simp
theorem seq_e3 {ν j : Mem} {o0 o1 o2 : MO} {xs : List D} {l : Nat} (h : ν.length = l) : seqM (ν ++ o0 :: o1 :: o2 :: .lst xs :: j) (.loc (l + 3)) = some xs := seq_lst (at_e3 h)
theorem at_e4 {ν j : Mem} {o0 o1 o2 o3 o : MO} {l : Nat} (h : ν.length = l) : (ν ++ o0 :: o1 :: o2 :: o3 :: o :: j)[l + 4]? = some o := by subst h; rw [List.getElem?_append_right (by omega)]; simp
theorem set_e4 {ν j : Mem} {o0 o1 o2 o3 o u : MO} {l : Nat} (h : ν.length = l) : (ν ++ o0 :: o1 :: o2 :: o3 :: o :: j).set (l + 4) u = ν ++ o0 :: o1 :: o2 :: o3 :: u :: j := by subst h; rw [List.set_append_right _ _ (by omega)]; simp
theorem seq_e4 {ν j : Mem} {o0 o1 o2 o3 : MO} {xs : List D} {l : Nat} (h : ν.length = l) : seqM (ν ++ o0 :: o1 :: o2 :: o3 :: .lst xs :: j) (.loc (l + 4)) = some xs := seq_lst (at_e4 h)
/-- what holds between two statements -/
theorem wp_cut {r : SR} {P : Post} (I : Env' → Mem → Prop) (h : r.wp { P with nx := I }) (k : ∀ env μ, I env μ → P.nx env μ) : r.wp P := SR.wp_mono h k (fun _ _ z => z) (fun _ _ _ z => z) (fun _ _ z => z) (fun _ _ z => z)
end Mn

/-! # Mini: the rules again, in a form whose ends simp does not enter -/
namespace Mn
open PySem
/-- an R, told with what follows on it: so simp leaves Q and E be -/
abbrev RR {α : Type} (_ : α → Mem → Prop) (_ : Exn → Mem → Prop) : Type := R α
abbrev SS (_ : Post) : Type := SR
abbrev OO {α : Type} (_ : α → Prop) : Type := Option α
def WR {α : Type} (Q : α → Mem → Prop) (E : Exn → Mem → Prop) (r : RR Q E) : Prop := R.wp r Q E
def WS (P : Post) (r : SS P) : Prop := SR.wp r P
def OW {α : Type} (k : α → Prop) (o : OO k) : Prop := Ow o k
section
variable {α β : Type} {Q : α → Mem → Prop} {E : Exn → Mem → Prop} {P : Post}
theorem z_some (k : α → Prop) (a : α) : OW k (some a : Option α) = k a := rfl
theorem z_none (k : α → Prop) : OW k (none : Option α) = False := rfl
theorem z_ok (a : α) (μ : Mem) : WR Q E (R.ok a μ : R α) = Q a μ := rfl
theorem z_exc (x : Exn) (μ : Mem) : WR Q E (R.exc x μ : R α) = E x μ := rfl
theorem z_bind (r : R β) (f : β → Mem → R α) : WR Q E (r.bind f) = WR (fun b μ => WR Q E (f b μ)) E r := wp_bind r f
theorem z_wr (r : R α) : r.wp Q E = WR Q E r := rfl
theorem z_ws (r : SR) : r.wp P = WS P r := rfl
theorem z_ow (o : Option α) (k : α → Prop) : Ow o k = OW k o := rfl
theorem z_nx (env : Env') (μ : Mem) : WS P (SR.nx env μ) = P.nx env μ := rfl
theorem z_rt (d : D) (μ : Mem) : WS P (SR.rt d μ) = P.rt d μ := rfl
theorem z_br (env : Env') (μ : Mem) : WS P (SR.br env μ) = P.br env μ := rfl
theorem z_ct (env : Env') (μ : Mem) : WS P (SR.ct env μ) = P.ct env μ := rfl
theorem z_ex (x : Exn) (env : Env') (μ : Mem) : WS P (SR.ex x env μ) = P.ex x env μ := rfl
end
section
variable {par : Nat → Nat → Bool} {mk : Nat → List D → Option Exn} {call : Nat → List D → Mem → R D} {cx : Option Exn}
theorem z_cons (s : MS) (r : MSs) (env : Env') (μ : Mem) (P : Post) : WS P (execSs par mk call cx (.cons s r) env μ) = WS { P with nx := fun env μ => WS P (execSs par mk call cx r env μ) } (execS par mk call cx s env μ) := wp_cons s r env μ P
theorem z_nil (env : Env') (μ : Mem) (P : Post) : WS P (execSs par mk call cx .nil env μ) = P.nx env μ := rfl
theorem z_ret (e : ME) (env : Env') (μ : Mem) (P : Post) : WS P (execS par mk call cx (.ret e) env μ) = WR P.rt (fun x μ => P.ex x env μ) (evalE par call cx e env μ) := wp_ret e env μ P
theorem z_expr (e : ME) (env : Env') (μ : Mem) (P : Post) : WS P (execS par mk call cx (.expr e) env μ) = WR (fun _ μ => P.nx env μ) (fun x μ => P.ex x env μ) (evalE par call cx e env μ) := wp_expr e env μ P
theorem z_for (t : Tgt) (it : MI) (b : MSs) (env : Env') (μ : Mem) (P : Post) : WS P (execS par mk call cx (.for t it b) env μ) = WR (fun w μ => WS P (forGo w (forF par mk call cx t b) w.fuel 0 env μ)) (fun x μ => P.ex x env μ) (evalI par call cx it env μ) := wp_for t it b env μ P
theorem z_par (i j : Nat) (a b : ME) (env : Env') (μ : Mem) (P : Post) : WS P (execS par mk call cx (.par i j a b) env μ) =
    WR (fun x μ => WR (fun y μ => P.nx (sv (sv env i (some x)) j (some y)) μ) (fun x μ => P.ex x env μ) (evalE par call cx b env μ)) (fun x μ => P.ex x env μ) (evalE par call cx a env μ) := wp_par i j a b env μ P
theorem z_try0 (b : MSs) (c : XC) (s : MSs) (env : Env') (μ : Mem) (P : Post) : WS P (execS par mk call cx (.try b c none s) env μ) =
    WS { P with ex := fun x env μ => if isXC par x c = true then WS { P with ex := fun _ _ _ => False } (execSs par mk call none s env μ) else P.ex x env μ } (execSs par mk call cx b env μ) := wp_try0 b c s env μ P
theorem z_try1 (b : MSs) (c : XC) (i : Nat) (s : MSs) (env : Env') (μ : Mem) (P : Post) : WS P (execS par mk call cx (.try b c (some i) s) env μ) =
    WS { P with ex := fun x env μ => if isXC par x c = true then WS ⟨fun env μ => P.nx (sv env i none) μ, P.rt, fun _ _ _ => False, fun env μ => P.br (sv env i none) μ, fun env μ => P.ct (sv env i none) μ⟩ (execSs par mk call (some x) s (sv env i none) μ) else P.ex x env μ } (execSs par mk call cx b env μ) := wp_try1 b c i s env μ P
theorem z_tests_nil (env : Env') (μ : Mem) (Q : Bool → Mem → Prop) (E : Exn → Mem → Prop) : WR Q E (evalTs par call cx .nil env μ) = Q true μ := rfl
end
section
variable {par : Nat → Nat → Bool} {mk : Nat → List D → Option Exn} {call : Nat → List D → Mem → R D} {cx : Option Exn} {env : Env'} {μ : Mem} {Q : D → Mem → Prop} {E : Exn → Mem → Prop} {P : Post}
variable {i j : Int} {xs ys : List D} {l m : Nat} {a b : Bool} {d e : D} {s : Str}
theorem z_var (i : Nat) : WR Q E (evalE par call cx (.var i) env μ) = OW (fun d => Q d μ) (gv env i) := y_var i
theorem z_non : WR Q E (evalE par call cx .non env μ) = Q .non μ := y_non 
theorem z_bl (b : Bool) : WR Q E (evalE par call cx (.bl b) env μ) = Q (.bl b) μ := y_bl b
theorem z_int (b : Int) : WR Q E (evalE par call cx (.int b) env μ) = Q (.int b) μ := y_int b
theorem z_str (b : Str) : WR Q E (evalE par call cx (.str b) env μ) = Q (.str b) μ := y_str b
theorem z_gint (x : Str) (b : Int) : WR Q E (evalE par call cx (.gint x b) env μ) = Q (.int b) μ := y_gint x b
theorem z_bop (op : Bop) (a b : ME) : WR Q E (evalE par call cx (.bop op a b) env μ) = WR (fun x μ => WR (fun y μ => WR Q E (bopD op x y μ)) E (evalE par call cx b env μ)) E (evalE par call cx a env μ) := y_bop op a b
theorem z_neg (a : ME) : WR Q E (evalE par call cx (.neg a) env μ) = WR (fun x μ => ∃ i, x = .int i ∧ Q (.int (-i)) μ) E (evalE par call cx a env μ) := y_neg a
theorem z_not (a : ME) : WR Q E (evalE par call cx (.not a) env μ) = WR (fun x μ => OW (fun b => Q (.bl (!b)) μ) (truM μ x)) E (evalE par call cx a env μ) := y_not a
theorem z_cmp (op : Cop) (a b : ME) : WR Q E (evalE par call cx (.cmp op a b) env μ) = WR (fun x μ => WR (fun y μ => WR Q E (copD op x y μ)) E (evalE par call cx b env μ)) E (evalE par call cx a env μ) := y_cmp op a b
theorem z_cmp2 (op op' : Cop) (a b c : ME) : WR Q E (evalE par call cx (.cmp2 op op' a b c) env μ) = WR (fun x μ => WR (fun y μ => WR (fun z μ => ∃ t, z = .bl t ∧ if t = true then WR (fun u μ => WR Q E (copD op' y u μ)) E (evalE par call cx c env μ) else Q (.bl false) μ) E (copD op x y μ)) E (evalE par call cx b env μ)) E (evalE par call cx a env μ) := y_cmp2 op op' a b c
theorem z_and (a b : ME) : WR Q E (evalE par call cx (.and a b) env μ) = WR (fun x μ => OW (fun t => if t = true then WR Q E (evalE par call cx b env μ) else Q x μ) (truM μ x)) E (evalE par call cx a env μ) := y_and a b
theorem z_or (a b : ME) : WR Q E (evalE par call cx (.or a b) env μ) = WR (fun x μ => OW (fun t => if t = true then Q x μ else WR Q E (evalE par call cx b env μ)) (truM μ x)) E (evalE par call cx a env μ) := y_or a b
theorem z_ite (t a b : ME) : WR Q E (evalE par call cx (.ite t a b) env μ) = WR (fun x μ => OW (fun k => if k = true then WR Q E (evalE par call cx a env μ) else WR Q E (evalE par call cx b env μ)) (truM μ x)) E (evalE par call cx t env μ) := y_ite t a b
theorem z_tup (es : MEs) : WR Q E (evalE par call cx (.tup es) env μ) = WR (fun ds μ => ds.length ≤ 16000000 ∧ Q (.tup ds) μ) E (evalEs par call cx es env μ) := y_tup es
theorem z_lst (es : MEs) : WR Q E (evalE par call cx (.lst es) env μ) = WR (fun ds μ => ds.length ≤ 16000000 ∧ Q (.loc μ.length) (μ ++ [.lst ds])) E (evalEs par call cx es env μ) := y_lst es
theorem z_ix (a i : ME) : WR Q E (evalE par call cx (.ix a i) env μ) = WR (fun x μ => WR (fun y μ => OW (fun xs => ∃ k, y = .int k ∧ OW (fun d => Q d μ) (atD xs k)) (seqM μ x)) E (evalE par call cx i env μ)) E (evalE par call cx a env μ) := y_ix a i
theorem z_slice (a : ME) (lo hi : MEs) : WR Q E (evalE par call cx (.slice a lo hi) env μ) = WR (fun x μ => WR (fun l μ => WR (fun h μ => WR Q E (sliceD x l h μ)) E (evalO par call cx hi env μ)) E (evalO par call cx lo env μ)) E (evalE par call cx a env μ) := y_slice a lo hi
theorem z_o_nil {Q : Option Int → Mem → Prop} : WR Q E (evalO par call cx .nil env μ) = Q none μ := y_o_nil 
theorem z_o_cons {Q : Option Int → Mem → Prop} (e : ME) (r : MEs) : WR Q E (evalO par call cx (.cons e r) env μ) = WR (fun d μ => ∃ i, d = .int i ∧ Q (some i) μ) E (evalE par call cx e env μ) := y_o_cons e r
theorem z_sl_tup (xs : List D) (l h : Option Int) : WR Q E (sliceD (.tup xs) l h μ) = Q (.tup (cutD xs l h)) μ := y_sl_tup xs l h
theorem z_sl_loc (p : Nat) (l h : Option Int) : WR Q E (sliceD (.loc p) l h μ) = OW (fun xs => Q (.loc μ.length) (μ ++ [.lst (cutD xs l h)])) (seqM μ (.loc p)) := y_sl_loc p l h
theorem z_call (f : Nat) (es : MEs) : WR Q E (evalE par call cx (.call f es) env μ) = WR (fun ds μ => WR Q E (call f ds μ)) E (evalEs par call cx es env μ) := y_call f es
theorem z_bi (f : Bi) (es : MEs) : WR Q E (evalE par call cx (.bi f es) env μ) = WR (fun ds μ => WR Q E (biD f ds μ)) E (evalEs par call cx es env μ) := y_bi f es
theorem z_meth (m : Mt) (o : ME) (es : MEs) : WR Q E (evalE par call cx (.meth m o es) env μ) = WR (fun x μ => mtRecv m x μ = true ∧ WR (fun ds μ => WR Q E (mtD m x ds μ)) E (evalEs par call cx es env μ)) E (evalE par call cx o env μ) := y_meth m o es
theorem z_isin (a : ME) (t : Ty) : WR Q E (evalE par call cx (.isin a t) env μ) = WR (fun x μ => OW (fun b => Q (.bl b) μ) (isTy μ x t)) E (evalE par call cx a env μ) := y_isin a t
theorem z_xfld (f : Str) (x : Exn) : WR Q E (evalE par call (some x) (.xfld f) env μ) = OW (fun d => Q d μ) (x.fs.lookup f) := y_xfld f x
theorem z_xis (c : XC) (x : Exn) : WR Q E (evalE par call (some x) (.xis c) env μ) = Q (.bl (isXC par x c)) μ := y_xis c x
theorem z_es_nil {Q : List D → Mem → Prop} : WR Q E (evalEs par call cx .nil env μ) = Q [] μ := y_es_nil 
theorem z_es_cons {Q : List D → Mem → Prop} (e : ME) (r : MEs) : WR Q E (evalEs par call cx (.cons e r) env μ) = WR (fun d μ => WR (fun ds μ => Q (d :: ds) μ) E (evalEs par call cx r env μ)) E (evalE par call cx e env μ) := y_es_cons e r
theorem z_i_seq {Q : It → Mem → Prop} (e : ME) : WR Q E (evalI par call cx (.seq e) env μ) = WR (fun d μ => OW (fun w => Q w μ) (itD μ d)) E (evalE par call cx e env μ) := y_i_seq e
theorem z_i_rng1 {Q : It → Mem → Prop} (e : ME) : WR Q E (evalI par call cx (.rng1 e) env μ) = WR (fun d μ => ∃ i, d = .int i ∧ (i ≤ 1000000000 ∧ -1000000000 ≤ i) ∧ Q (.items (rngD 0 i)) μ) E (evalE par call cx e env μ) := y_i_rng1 e
theorem z_i_rng2 {Q : It → Mem → Prop} (a b : ME) : WR Q E (evalI par call cx (.rng2 a b) env μ) = WR (fun d μ => WR (fun e μ => ∃ i j, d = .int i ∧ e = .int j ∧ ((i ≤ 1000000000 ∧ -1000000000 ≤ i) ∧ j ≤ 1000000000 ∧ -1000000000 ≤ j) ∧ Q (.items (rngD i j)) μ) E (evalE par call cx b env μ)) E (evalE par call cx a env μ) := y_i_rng2 a b
theorem z_i_zip {Q : It → Mem → Prop} (a b : ME) : WR Q E (evalI par call cx (.zip a b) env μ) = WR (fun d μ => WR (fun e μ => OW (fun w => Q w μ) (zipD μ d e)) E (evalE par call cx b env μ)) E (evalE par call cx a env μ) := y_i_zip a b
theorem z_lc (elt : ME) (tg : Tgt) (it : MI) (tests : MEs) (own : List Nat) : WR Q E (evalE par call cx (.lc elt tg it tests own) env μ) =
    WR (fun w μ => WR Q E (lcGo w μ.length (lcF par call cx elt tg tests (wipeD env own)) w.fuel 0 (μ ++ [.lst []]))) E (evalI par call cx it env μ) := y_lc elt tg it tests own
theorem z_lcF {Q : Option D → Mem → Prop} (elt : ME) (tg : Tgt) (tests : MEs) (d : D) : WR Q E (lcF par call cx elt tg tests env d μ) =
    OW (fun env' => WR (fun b μ => if b = true then WR (fun y μ => Q (some y) μ) E (evalE par call cx elt env' μ) else Q none μ) E (evalTs par call cx tests env' μ)) (setT tg d env) := y_lcF elt tg tests d
theorem z_t_cons {Q : Bool → Mem → Prop} (e : ME) (r : MEs) : WR Q E (evalTs par call cx (.cons e r) env μ) =
    WR (fun d μ => OW (fun b => if b = true then WR Q E (evalTs par call cx r env μ) else Q false μ) (truM μ d)) E (evalE par call cx e env μ) := y_t_cons e r
theorem z_asg (t : Tgt) (e : ME) : WS P (execS par mk call cx (.asg t e) env μ) = WR (fun d μ => OW (fun env => P.nx env μ) (setT t d env)) (fun x μ => P.ex x env μ) (evalE par call cx e env μ) := y_asg t e
theorem z_if (t : ME) (a b : MSs) : WS P (execS par mk call cx (.ite t a b) env μ) = WR (fun d μ => OW (fun k => if k = true then WS P (execSs par mk call cx a env μ) else WS P (execSs par mk call cx b env μ)) (truM μ d)) (fun x μ => P.ex x env μ) (evalE par call cx t env μ) := y_if t a b
theorem z_raise (c : Nat) (es : MEs) : WS P (execS par mk call cx (.raise c es) env μ) = WR (fun ds μ => OW (fun x => P.ex x env μ) (mk c ds)) (fun x μ => P.ex x env μ) (evalEs par call cx es env μ) := y_raise c es
theorem z_forF (t : Tgt) (b : MSs) (d : D) : WS P (forF par mk call cx t b d env μ) = OW (fun env => WS P (execSs par mk call cx b env μ)) (setT t d env) := y_forF t b d
theorem z_aug (i : Nat) (op : Bop) (e : ME) : WS P (execS par mk call cx (.aug i op e) env μ) =
    OW (fun x => WR (fun y μ => WR (fun z μ => P.nx (sv env i (some z)) μ) (fun x μ => P.ex x env μ) (augD op x y μ)) (fun x μ => P.ex x env μ) (evalE par call cx e env μ)) (gv env i) := y_aug i op e
theorem z_asgS (o i e : ME) : WS P (execS par mk call cx (.asgS o i e) env μ) =
    WR (fun v μ => WR (fun x μ => WR (fun y μ => ∃ l k, x = .loc l ∧ y = .int k ∧ OW (fun o => ∃ xs, o = .lst xs ∧ OW (fun ys => P.nx env (μ.set l (.lst ys))) (setD xs k v)) (μ[l]?)) (fun x μ => P.ex x env μ) (evalE par call cx i env μ)) (fun x μ => P.ex x env μ) (evalE par call cx o env μ)) (fun x μ => P.ex x env μ) (evalE par call cx e env μ) := y_asgS o i e
theorem z_brk : WS P (execS par mk call cx .brk env μ) = P.br env μ := y_brk 
theorem z_cnt : WS P (execS par mk call cx .cnt env μ) = P.ct env μ := y_cnt 
theorem z_pass : WS P (execS par mk call cx .pass env μ) = P.nx env μ := y_pass 
theorem z_ret0 : WS P (execS par mk call cx .ret0 env μ) = P.rt .non μ := y_ret0 
theorem z_whl (t : ME) (b : MSs) : WS P (execS par mk call cx (.whl t b) env μ) = WS P (whlGo (evalE par call cx t) (execSs par mk call cx b) WH env μ) := y_whl t b
theorem z_add : WR Q E (bopD .add (.int i) (.int j) μ) = Q (.int (i + j)) μ := y_add 
theorem z_sub : WR Q E (bopD .sub (.int i) (.int j) μ) = Q (.int (i - j)) μ := y_sub 
theorem z_mul : WR Q E (bopD .mul (.int i) (.int j) μ) = (MulOk i j ∧ Q (.int (i * j)) μ) := y_mul 
theorem z_div : WR Q E (bopD .fdiv (.int i) (.int j) μ) = ((0 < j ∧ (j < 1073741824 ∨ j.natAbs.log2 < 9000)) ∧ Q (.int (i / j)) μ) := y_div 
theorem z_mod : WR Q E (bopD .mod (.int i) (.int j) μ) = (0 < j ∧ Q (.int (i % j)) μ) := y_mod 
theorem z_pow : WR Q E (bopD .pow (.int i) (.int j) μ) = ((0 ≤ j ∧ j ≤ 1000000 ∧ i.natAbs < 18446744073709551616) ∧ Q (.int (i ^ j.toNat)) μ) := y_pow 
theorem z_addt : WR Q E (bopD .add (.tup xs) (.tup ys) μ) = (xs.length + ys.length ≤ 16000000 ∧ Q (.tup (xs ++ ys)) μ) := y_addt 
theorem z_eq : WR Q E (copD .eq d e μ) = OW (fun b => Q (.bl b) μ) (eqM d e μ) := y_eq 
theorem z_ne : WR Q E (copD .ne d e μ) = OW (fun b => Q (.bl (!b)) μ) (eqM d e μ) := y_ne 
theorem z_lt : WR Q E (copD .lt (.int i) (.int j) μ) = Q (.bl (decide (i < j))) μ := y_lt 
theorem z_le : WR Q E (copD .le (.int i) (.int j) μ) = Q (.bl (decide (i ≤ j))) μ := y_le 
theorem z_gt : WR Q E (copD .gt (.int i) (.int j) μ) = Q (.bl (decide (j < i))) μ := y_gt 
theorem z_ge : WR Q E (copD .ge (.int i) (.int j) μ) = Q (.bl (decide (j ≤ i))) μ := y_ge 
theorem z_is_b : WR Q E (copD .is (.bl a) (.bl b) μ) = Q (.bl (decide (a = b))) μ := y_is_b 
theorem z_is_n : WR Q E (copD .is .non .non μ) = Q (.bl true) μ := y_is_n 
theorem z_is_i : WR Q E (copD .is (.int i) .non μ) = Q (.bl false) μ := y_is_i 
theorem z_is_t : WR Q E (copD .is (.tup xs) .non μ) = Q (.bl false) μ := y_is_t 
theorem z_no_b : WR Q E (copD .isNot (.bl a) (.bl b) μ) = Q (.bl (!decide (a = b))) μ := y_no_b 
theorem z_no_n : WR Q E (copD .isNot .non .non μ) = Q (.bl false) μ := y_no_n 
theorem z_no_i : WR Q E (copD .isNot (.int i) .non μ) = Q (.bl true) μ := y_no_i 
theorem z_no_t : WR Q E (copD .isNot (.tup xs) .non μ) = Q (.bl true) μ := y_no_t 
theorem z_gadd : WR Q E (augD .add (.int i) (.int j) μ) = Q (.int (i + j)) μ := y_gadd 
theorem z_gsub : WR Q E (augD .sub (.int i) (.int j) μ) = Q (.int (i - j)) μ := y_gsub 
theorem z_gmul : WR Q E (augD .mul (.int i) (.int j) μ) = ((i.natAbs < 18446744073709551616 ∨ j.natAbs < 18446744073709551616) ∧ Q (.int (i * j)) μ) := y_gmul 
theorem z_gdiv : WR Q E (augD .fdiv (.int i) (.int j) μ) = ((0 < j ∧ j < 1073741824) ∧ Q (.int (i / j)) μ) := y_gdiv 
theorem z_gmod : WR Q E (augD .mod (.int i) (.int j) μ) = (0 < j ∧ Q (.int (i % j)) μ) := y_gmod 
theorem z_len_t : WR Q E (biD .len [.tup xs] μ) = Q (.int xs.length) μ := y_len_t 
theorem z_len_l : WR Q E (biD .len [.loc l] μ) = OW (fun xs => Q (.int xs.length) μ) (seqM μ (.loc l)) := y_len_l 
theorem z_tuple : WR Q E (biD .tuple [d] μ) = OW (fun xs => Q (.tup xs) μ) (seqM μ d) := y_tuple 
theorem z_list : WR Q E (biD .list [d] μ) = OW (fun xs => Q (.loc μ.length) (μ ++ [.lst xs])) (seqM μ d) := y_list 
theorem z_int_i : WR Q E (biD .int [.int i] μ) = Q (.int i) μ := y_int_i 
theorem z_int_b : WR Q E (biD .int [.bl b] μ) = Q (.int (if b then 1 else 0)) μ := y_int_b 
theorem z_bool_i : WR Q E (biD .bool [.int i] μ) = Q (.bl (i != 0)) μ := y_bool_i 
theorem z_bool_b : WR Q E (biD .bool [.bl b] μ) = Q (.bl b) μ := y_bool_b 
theorem z_abs : WR Q E (biD .abs [.int i] μ) = Q (.int (if i < 0 then -i else i)) μ := y_abs 
theorem z_min2 : WR Q E (biD .min2 [.int i, .int j] μ) = Q (.int (if j < i then j else i)) μ := y_min2 
theorem z_max2 : WR Q E (biD .max2 [.int i, .int j] μ) = Q (.int (if j > i then j else i)) μ := y_max2 
theorem z_sum : WR Q E (biD .sum [.loc l] μ) = OW (fun xs => OW (fun ns => Q (.int ns.sum) μ) (isInts xs)) (seqM μ (.loc l)) := y_sum 
theorem z_app : WR Q E (mtD .append (.loc l) [d] μ) = OW (fun o => ∃ xs, o = .lst xs ∧ xs.length < 16000000 ∧ Q .non (μ.set l (.lst (xs ++ [d])))) (μ[l]?) := y_app 
theorem z_pop : WR Q E (mtD .pop (.loc l) [] μ) = OW (fun o => ∃ xs, o = .lst xs ∧ OW (fun d => Q d (μ.set l (.lst xs.dropLast))) (xs[xs.length - 1]?)) (μ[l]?) := y_pop 
end
end Mn

namespace K01
open PySem PySem.Spec PyProof.Rows L2 Mn
abbrev P : Program := PySem.Challenge.pw_foldsclose_k01_rows_run
abbrev top (i : Nat) : Stmt := P.main.body.getD i (.Pass ⟨0, 0, 0, 0⟩)
/-- 0: (value) slots 0:value -/
def m_is_number : MDef := ⟨"is_number", ["value"], ["value"], (.cons (.ret (.and (.isin (.var 0) .int) (.not (.isin (.var 0) .bool)))) <|
  .nil)⟩
/-- 1: (value, least, most) slots 0:value 1:least 2:most -/
def m_is_between : MDef := ⟨"is_between", ["value", "least", "most"], ["value", "least", "most"], (.cons (.ret (.and (.call 0 (.cons (.var 0) .nil)) (.cmp2 .le .le (.var 1) (.var 0) (.var 2)))) <|
  .nil)⟩
/-- 2: (value, least, most) slots 0:value 1:least 2:most -/
def m_check_number : MDef := ⟨"check_number", ["value", "least", "most"], ["value", "least", "most"], (.cons (.ite (.not (.call 1 (.cons (.var 0) (.cons (.var 1) (.cons (.var 2) .nil)))))
   (.cons (.raise 0 (.cons (.var 0) .nil)) <|
   .nil)
   (.nil)) <|
  .nil)⟩
/-- 3: (value, letters) slots 0:value 1:letters 2:one -/
def m_are_letters : MDef := ⟨"are_letters", ["value", "letters"], ["value", "letters", "one"], (.cons (.ite (.not (.isin (.var 0) .tuple))
   (.cons (.ret (.bl false)) <|
   .nil)
   (.nil)) <|
  .cons (.for (.slot 2) (.seq (.var 0))
   (.cons (.ite (.not (.call 1 (.cons (.var 2) (.cons (.int 0) (.cons (.bop .sub (.var 1) (.int 1)) .nil)))))
    (.cons (.ret (.bl false)) <|
    .nil)
    (.nil)) <|
   .nil)) <|
  .cons (.ret (.bl true)) <|
  .nil)⟩
/-- 4: (value, letters) slots 0:value 1:letters -/
def m_is_row : MDef := ⟨"is_row", ["value", "letters"], ["value", "letters"], (.cons (.ret (.and (.call 3 (.cons (.var 0) (.cons (.var 1) .nil))) (.cmp .le (.bi .len (.cons (.var 0) .nil)) (.gint "ROW_LENGTH" 300)))) <|
  .nil)⟩
/-- 5: (value) slots 0:value -/
def m_is_pair : MDef := ⟨"is_pair", ["value"], ["value"], (.cons (.ret (.and (.isin (.var 0) .tuple) (.cmp .eq (.bi .len (.cons (.var 0) .nil)) (.int 2)))) <|
  .nil)⟩
/-- 6: (machine) slots 0:machine 1:s 2:standing 3:x -/
def m_check_machine : MDef := ⟨"check_machine", ["machine"], ["machine", "s", "standing", "x"], (.cons (.ite (.or (.not (.isin (.var 0) .tuple)) (.not (.cmp2 .le .le (.int 1) (.bi .len (.cons (.var 0) .nil)) (.gint "STANDINGS" 64))))
   (.cons (.raise 1 (.cons (.str "machine") (.cons (.tup .nil) .nil))) <|
   .nil)
   (.nil)) <|
  .cons (.for (.slot 1) (.rng1 (.bi .len (.cons (.var 0) .nil)))
   (.cons (.asg (.slot 2) (.ix (.var 0) (.var 1))) <|
   .cons (.ite (.or (.not (.isin (.var 2) .tuple)) (.not (.cmp2 .le .le (.int 1) (.bi .len (.cons (.var 2) .nil)) (.gint "LETTERS" 6))))
    (.cons (.raise 1 (.cons (.str "standing") (.cons (.tup (.cons (.var 1) .nil)) .nil))) <|
    .nil)
    (.nil)) <|
   .cons (.ite (.cmp .ne (.bi .len (.cons (.var 2) .nil)) (.bi .len (.cons (.ix (.var 0) (.int 0)) .nil)))
    (.cons (.raise 1 (.cons (.str "standing") (.cons (.tup (.cons (.var 1) .nil)) .nil))) <|
    .nil)
    (.nil)) <|
   .cons (.for (.slot 3) (.rng1 (.bi .len (.cons (.var 2) .nil)))
    (.cons (.ite (.not (.call 7 (.cons (.ix (.var 2) (.var 3)) (.cons (.bi .len (.cons (.var 0) .nil)) .nil))))
     (.cons (.raise 1 (.cons (.str "cell") (.cons (.tup (.cons (.var 1) (.cons (.var 3) .nil))) .nil))) <|
     .nil)
     (.nil)) <|
    .nil)) <|
   .nil)) <|
  .nil)⟩
/-- 7: (cell, standings) slots 0:cell 1:standings -/
def m_is_cell : MDef := ⟨"is_cell", ["cell", "standings"], ["cell", "standings"], (.cons (.ret (.and (.call 5 (.cons (.var 0) .nil)) (.and (.call 1 (.cons (.ix (.var 0) (.int 0)) (.cons (.int 0) (.cons (.gint "ANSWERS" 99) .nil)))) (.call 1 (.cons (.ix (.var 0) (.int 1)) (.cons (.int 0) (.cons (.bop .sub (.var 1) (.int 1)) .nil))))))) <|
  .nil)⟩
/-- 8: (row, letters) slots 0:row 1:letters -/
def m_check_row : MDef := ⟨"check_row", ["row", "letters"], ["row", "letters"], (.cons (.expr (.call 2 (.cons (.var 1) (.cons (.int 1) (.cons (.gint "LETTERS" 6) .nil))))) <|
  .cons (.ite (.not (.call 4 (.cons (.var 0) (.cons (.var 1) .nil))))
   (.cons (.raise 2 (.cons (.var 0) .nil)) <|
   .nil)
   (.nil)) <|
  .nil)⟩
/-- 9: (lot, letters) slots 0:lot 1:letters 2:place -/
def m_check_lot : MDef := ⟨"check_lot", ["lot", "letters"], ["lot", "letters", "place"], (.cons (.expr (.call 2 (.cons (.var 1) (.cons (.int 1) (.cons (.gint "LETTERS" 6) .nil))))) <|
  .cons (.ite (.or (.not (.isin (.var 0) .tuple)) (.cmp .gt (.bi .len (.cons (.var 0) .nil)) (.gint "LOT_SIZE" 128)))
   (.cons (.raise 3 (.cons (.neg (.int 1)) .nil)) <|
   .nil)
   (.nil)) <|
  .cons (.for (.slot 2) (.rng1 (.bi .len (.cons (.var 0) .nil)))
   (.cons (.ite (.not (.call 4 (.cons (.ix (.var 0) (.var 2)) (.cons (.var 1) .nil))))
    (.cons (.raise 3 (.cons (.var 2) .nil)) <|
    .nil)
    (.nil)) <|
   .nil)) <|
  .nil)⟩
/-- 10: (machine, start, row) slots 0:machine 1:start 2:row 3:now 4:told 5:x 6:answer 7:goal -/
def m_run : MDef := ⟨"run", ["machine", "start", "row"], ["machine", "start", "row", "now", "told", "x", "answer", "goal"], (.cons (.asg (.slot 3) (.var 1)) <|
  .cons (.asg (.slot 4) (.lst .nil)) <|
  .cons (.for (.slot 5) (.seq (.var 2))
   (.cons (.asg (.cons (.slot 6) (.cons (.slot 7) .nil)) (.ix (.ix (.var 0) (.var 3)) (.var 5))) <|
   .cons (.expr (.meth .append (.var 4) (.cons (.var 6) .nil))) <|
   .cons (.asg (.slot 3) (.var 7)) <|
   .nil)) <|
  .cons (.ret (.tup (.cons (.bi .tuple (.cons (.var 4) .nil)) (.cons (.var 3) .nil)))) <|
  .nil)⟩
/-- 11: (machine, row) slots 0:machine 1:row -/
def m_answers : MDef := ⟨"answers", ["machine", "row"], ["machine", "row"], (.cons (.expr (.call 6 (.cons (.var 0) .nil))) <|
  .cons (.expr (.call 8 (.cons (.var 1) (.cons (.bi .len (.cons (.ix (.var 0) (.int 0)) .nil)) .nil)))) <|
  .cons (.ret (.ix (.call 10 (.cons (.var 0) (.cons (.int 0) (.cons (.var 1) .nil)))) (.int 0))) <|
  .nil)⟩
/-- 12: (machine, row) slots 0:machine 1:row -/
def m_end : MDef := ⟨"end", ["machine", "row"], ["machine", "row"], (.cons (.expr (.call 6 (.cons (.var 0) .nil))) <|
  .cons (.expr (.call 8 (.cons (.var 1) (.cons (.bi .len (.cons (.ix (.var 0) (.int 0)) .nil)) .nil)))) <|
  .cons (.ret (.ix (.call 10 (.cons (.var 0) (.cons (.int 0) (.cons (.var 1) .nil)))) (.int 1))) <|
  .nil)⟩
/-- 13: (machine, s, row) slots 0:machine 1:s 2:row -/
def m_answers_from : MDef := ⟨"answers_from", ["machine", "s", "row"], ["machine", "s", "row"], (.cons (.expr (.call 6 (.cons (.var 0) .nil))) <|
  .cons (.expr (.call 2 (.cons (.var 1) (.cons (.int 0) (.cons (.bop .sub (.bi .len (.cons (.var 0) .nil)) (.int 1)) .nil))))) <|
  .cons (.expr (.call 8 (.cons (.var 2) (.cons (.bi .len (.cons (.ix (.var 0) (.int 0)) .nil)) .nil)))) <|
  .cons (.ret (.ix (.call 10 (.cons (.var 0) (.cons (.var 1) (.cons (.var 2) .nil)))) (.int 0))) <|
  .nil)⟩
/-- 14: (machine, lot) slots 0:machine 1:lot 2:row -/
def m_due : MDef := ⟨"due", ["machine", "lot"], ["machine", "lot", "row"], (.cons (.expr (.call 6 (.cons (.var 0) .nil))) <|
  .cons (.expr (.call 9 (.cons (.var 1) (.cons (.bi .len (.cons (.ix (.var 0) (.int 0)) .nil)) .nil)))) <|
  .cons (.ret (.bi .tuple (.cons (.lc (.ix (.call 10 (.cons (.var 0) (.cons (.int 0) (.cons (.var 2) .nil)))) (.int 0)) (.slot 2) (.seq (.var 1)) .nil [2]) .nil))) <|
  .nil)⟩
/-- 15: (design, machine, lot) slots 0:design 1:machine 2:lot 3:place -/
def m_first_failure : MDef := ⟨"first_failure", ["design", "machine", "lot"], ["design", "machine", "lot", "place"], (.cons (.expr (.call 6 (.cons (.var 0) .nil))) <|
  .cons (.expr (.call 6 (.cons (.var 1) .nil))) <|
  .cons (.expr (.call 9 (.cons (.var 2) (.cons (.bi .len (.cons (.ix (.var 0) (.int 0)) .nil)) .nil)))) <|
  .cons (.ite (.cmp .ne (.bi .len (.cons (.ix (.var 1) (.int 0)) .nil)) (.bi .len (.cons (.ix (.var 0) (.int 0)) .nil)))
   (.cons (.raise 4 .nil) <|
   .nil)
   (.nil)) <|
  .cons (.for (.slot 3) (.rng1 (.bi .len (.cons (.var 2) .nil)))
   (.cons (.ite (.cmp .ne (.ix (.call 10 (.cons (.var 0) (.cons (.int 0) (.cons (.ix (.var 2) (.var 3)) .nil)))) (.int 0)) (.ix (.call 10 (.cons (.var 1) (.cons (.int 0) (.cons (.ix (.var 2) (.var 3)) .nil)))) (.int 0)))
    (.cons (.ret (.var 3)) <|
    .nil)
    (.nil)) <|
   .nil)) <|
  .cons (.ret .non) <|
  .nil)⟩
/-- 16: (design, machine, lot) slots 0:design 1:machine 2:lot -/
def m_passes : MDef := ⟨"passes", ["design", "machine", "lot"], ["design", "machine", "lot"], (.cons (.ret (.cmp .is (.call 15 (.cons (.var 0) (.cons (.var 1) (.cons (.var 2) .nil)))) .non)) <|
  .nil)⟩
/-- 17: (machine, lot) slots 0:machine 1:lot 2:told 3:row 4:given -/
def m_log_of : MDef := ⟨"log_of", ["machine", "lot"], ["machine", "lot", "told", "row", "given"], (.cons (.asg (.slot 2) (.call 14 (.cons (.var 0) (.cons (.var 1) .nil)))) <|
  .cons (.ret (.bi .tuple (.cons (.lc (.tup (.cons (.var 3) (.cons (.var 4) .nil))) (.cons (.slot 3) (.cons (.slot 4) .nil)) (.zip (.var 1) (.var 2)) .nil [3, 4]) .nil))) <|
  .nil)⟩
/-- 18: (value) slots 0:value -/
def m__law_is_int : MDef := ⟨"_law_is_int", ["value"], ["value"], (.cons (.ret (.and (.isin (.var 0) .int) (.not (.isin (.var 0) .bool)))) <|
  .nil)⟩
/-- 19: (value, wanted) slots 0:value 1:wanted -/
def m__law_tells : MDef := ⟨"_law_tells", ["value", "wanted"], ["value", "wanted"], (.cons (.ite (.var 1)
   (.cons (.ret (.cmp .is (.var 0) (.bl true))) <|
   .nil)
   (.nil)) <|
  .cons (.ret (.cmp .is (.var 0) (.bl false))) <|
  .nil)⟩
/-- 20: (script, k) slots 0:script 1:k 2:number 3:sign 4:great 5:seed 6:cell -/
def m__law_bag : MDef := ⟨"_law_bag", ["script", "k"], ["script", "k", "number", "sign", "great", "seed", "cell"], (.cons (.asg (.slot 2) (.bop .add (.bop .add (.bop .mod (.bi .int (.cons (.bi .sum (.cons (.lc (.bi .int (.cons (.var 6) .nil)) (.slot 6) (.seq (.slice (.var 0) .nil (.cons (.int 63) .nil))) .nil [6]) .nil)) .nil)) (.int 1000003)) (.bop .mul (.int 7919) (.var 1))) (.int 1))) <|
  .cons (.ite (.and (.cmp .lt (.var 1) (.bi .len (.cons (.var 0) .nil))) (.cmp .lt (.var 1) (.int 63)))
   (.cons (.asg (.slot 2) (.bi .int (.cons (.ix (.var 0) (.var 1)) .nil))) <|
   .nil)
   (.nil)) <|
  .cons (.asg (.slot 3) (.int 0)) <|
  .cons (.ite (.cmp .lt (.var 2) (.int 0))
   (.cons (.asg (.slot 2) (.neg (.var 2))) <|
   .cons (.asg (.slot 3) (.int 1)) <|
   .nil)
   (.nil)) <|
  .cons (.asg (.slot 4) (.int 0)) <|
  .cons (.ite (.cmp .ge (.var 2) (.bop .pow (.int 10) (.int 18)))
   (.cons (.asg (.slot 4) (.int 1)) <|
   .nil)
   (.nil)) <|
  .cons (.asg (.slot 5) (.bop .add (.bop .mod (.bi .int (.cons (.bop .add (.bop .mul (.var 2) (.int 2)) (.var 3)) .nil)) (.int 2147483629)) (.bop .mul (.int 31) (.var 1)))) <|
  .cons (.ret (.lst (.cons (.var 2) (.cons (.var 4) (.cons (.var 5) (.cons (.int 0) .nil)))))) <|
  .nil)⟩
/-- 21: (bag, many) slots 0:bag 1:many 2:one 3:two 4:digit -/
def m__law_take : MDef := ⟨"_law_take", ["bag", "many"], ["bag", "many", "one", "two", "digit"], (.cons (.ite (.and (.cmp .eq (.ix (.var 0) (.int 1)) (.int 1)) (.cmp .gt (.ix (.var 0) (.int 0)) (.int 0)))
   (.cons (.asg (.slot 4) (.bop .mod (.bi .int (.cons (.ix (.var 0) (.int 0)) .nil)) (.var 1))) <|
   .cons (.asgS (.var 0) (.int 0) (.bop .fdiv (.bi .int (.cons (.ix (.var 0) (.int 0)) .nil)) (.var 1))) <|
   .cons (.ret (.var 4)) <|
   .nil)
   (.nil)) <|
  .cons (.asgS (.var 0) (.int 3) (.bop .add (.ix (.var 0) (.int 3)) (.int 1))) <|
  .cons (.asg (.slot 2) (.bop .mod (.bi .int (.cons (.bop .add (.bop .add (.bop .mul (.bop .add (.ix (.var 0) (.int 2)) (.bop .mul (.int 7919) (.ix (.var 0) (.int 3)))) (.int 48271)) (.bop .mul (.bop .mul (.ix (.var 0) (.int 3)) (.ix (.var 0) (.int 3))) (.int 69621))) (.int 11)) .nil)) (.int 2147483647))) <|
  .cons (.asg (.slot 3) (.bop .mod (.bi .int (.cons (.bop .add (.bop .add (.bop .mul (.var 2) (.int 40692)) (.bop .mul (.bop .fdiv (.var 2) (.int 65536)) (.int 13))) (.bop .mul (.ix (.var 0) (.int 3)) (.int 8191))) .nil)) (.int 2147483399))) <|
  .cons (.ret (.bop .mod (.bi .int (.cons (.bop .fdiv (.var 3) (.int 7)) .nil)) (.var 1))) <|
  .nil)⟩
/-- 22: (bag, standings, letters, given) slots 0:bag 1:standings 2:letters 3:given 4:found 5:s 6:cells 7:x -/
def m__law_machine : MDef := ⟨"_law_machine", ["bag", "standings", "letters", "given"], ["bag", "standings", "letters", "given", "found", "s", "cells", "x"], (.cons (.asg (.slot 4) (.lst .nil)) <|
  .cons (.for (.slot 5) (.rng1 (.var 1))
   (.cons (.asg (.slot 6) (.lst .nil)) <|
   .cons (.for (.slot 7) (.rng1 (.var 2))
    (.cons (.expr (.meth .append (.var 6) (.cons (.tup (.cons (.call 21 (.cons (.var 0) (.cons (.var 3) .nil))) (.cons (.call 21 (.cons (.var 0) (.cons (.var 1) .nil))) .nil))) .nil))) <|
    .nil)) <|
   .cons (.expr (.meth .append (.var 4) (.cons (.bi .tuple (.cons (.var 6) .nil)) .nil))) <|
   .nil)) <|
  .cons (.ret (.bi .tuple (.cons (.var 4) .nil))) <|
  .nil)⟩
/-- 23: (bag, letters, longest) slots 0:bag 1:letters 2:longest 3:step -/
def m__law_row : MDef := ⟨"_law_row", ["bag", "letters", "longest"], ["bag", "letters", "longest", "step"], (.cons (.ret (.bi .tuple (.cons (.lc (.call 21 (.cons (.var 0) (.cons (.var 1) .nil))) (.slot 3) (.rng1 (.call 21 (.cons (.var 0) (.cons (.bop .add (.var 2) (.int 1)) .nil)))) .nil [3]) .nil))) <|
  .nil)⟩
/-- 24: (bag, letters, many, longest) slots 0:bag 1:letters 2:many 3:longest 4:step -/
def m__law_lot : MDef := ⟨"_law_lot", ["bag", "letters", "many", "longest"], ["bag", "letters", "many", "longest", "step"], (.cons (.ret (.bi .tuple (.cons (.lc (.call 23 (.cons (.var 0) (.cons (.var 1) (.cons (.var 3) .nil)))) (.slot 4) (.rng1 (.var 2)) .nil [4]) .nil))) <|
  .nil)⟩
/-- 25: (machine, start, row) slots 0:machine 1:start 2:row 3:now 4:told 5:x -/
def m__law_run : MDef := ⟨"_law_run", ["machine", "start", "row"], ["machine", "start", "row", "now", "told", "x"], (.cons (.asg (.slot 3) (.var 1)) <|
  .cons (.asg (.slot 4) (.lst .nil)) <|
  .cons (.for (.slot 5) (.seq (.var 2))
   (.cons (.expr (.meth .append (.var 4) (.cons (.ix (.ix (.ix (.var 0) (.var 3)) (.var 5)) (.int 0)) .nil))) <|
   .cons (.asg (.slot 3) (.ix (.ix (.ix (.var 0) (.var 3)) (.var 5)) (.int 1))) <|
   .nil)) <|
  .cons (.ret (.tup (.cons (.bi .tuple (.cons (.var 4) .nil)) (.cons (.var 3) .nil)))) <|
  .nil)⟩
/-- 26: (machine, row) slots 0:machine 1:row -/
def m__law_answers : MDef := ⟨"_law_answers", ["machine", "row"], ["machine", "row"], (.cons (.ret (.ix (.call 25 (.cons (.var 0) (.cons (.int 0) (.cons (.var 1) .nil)))) (.int 0))) <|
  .nil)⟩
/-- 27: (value) slots 0:value 1:one -/
def m__law_numbers : MDef := ⟨"_law_numbers", ["value"], ["value", "one"], (.cons (.ite (.not (.isin (.var 0) .tuple))
   (.cons (.ret (.bl false)) <|
   .nil)
   (.nil)) <|
  .cons (.for (.slot 1) (.seq (.var 0))
   (.cons (.ite (.not (.call 18 (.cons (.var 1) .nil)))
    (.cons (.ret (.bl false)) <|
    .nil)
    (.nil)) <|
   .nil)) <|
  .cons (.ret (.bl true)) <|
  .nil)⟩
/-- 28: (machine, row, lot, s) slots 0:machine 1:row 2:lot 3:s 4:told 5:e -/
def m__law_refused : MDef := ⟨"_law_refused", ["machine", "row", "lot", "s"], ["machine", "row", "lot", "s", "told", "e"], (.cons (.asg (.slot 4) (.lst .nil)) <|
  .cons (.try
   (.cons (.expr (.call 11 (.cons (.var 0) (.cons (.var 1) .nil)))) <|
   .cons (.expr (.meth .append (.var 4) (.cons (.str "none") .nil))) <|
   .nil)
   (.own 5) (some 5)
   (.cons (.expr (.meth .append (.var 4) (.cons (.tup (.cons (.str "row") (.cons (.and (.xis (.own 2)) (.xis .ve)) (.cons (.xis (.own 3)) .nil)))) .nil))) <|
   .nil)) <|
  .cons (.try
   (.cons (.expr (.call 14 (.cons (.var 0) (.cons (.var 2) .nil)))) <|
   .cons (.expr (.meth .append (.var 4) (.cons (.str "none") .nil))) <|
   .nil)
   (.own 3) (some 5)
   (.cons (.expr (.meth .append (.var 4) (.cons (.tup (.cons (.str "lot") (.cons (.xfld "place") (.cons (.xis (.own 5)) (.cons (.xis (.own 2)) .nil))))) .nil))) <|
   .nil)) <|
  .cons (.try
   (.cons (.expr (.call 13 (.cons (.var 0) (.cons (.var 3) (.cons (.var 1) .nil))))) <|
   .cons (.expr (.meth .append (.var 4) (.cons (.str "none") .nil))) <|
   .nil)
   (.own 0) (some 5)
   (.cons (.expr (.meth .append (.var 4) (.cons (.tup (.cons (.str "number") (.cons (.xfld "value") (.cons (.xis .ve) .nil)))) .nil))) <|
   .nil)) <|
  .cons (.try
   (.cons (.expr (.call 12 (.cons (.bop .add (.var 0) (.tup (.cons (.tup .nil) .nil))) (.cons (.var 1) .nil)))) <|
   .cons (.expr (.meth .append (.var 4) (.cons (.str "none") .nil))) <|
   .nil)
   (.own 1) (some 5)
   (.cons (.expr (.meth .append (.var 4) (.cons (.tup (.cons (.str "machine") (.cons (.xfld "reason") (.cons (.xfld "place") (.cons (.xis (.own 5)) .nil))))) .nil))) <|
   .nil)) <|
  .cons (.ret (.var 4)) <|
  .nil)⟩
/-- 29: (bag, machine) slots 0:bag 1:machine 2:s 3:x 4:cell 5:standing -/
def m__law_changed : MDef := ⟨"_law_changed", ["bag", "machine"], ["bag", "machine", "s", "x", "cell", "standing"], (.cons (.asg (.slot 2) (.call 21 (.cons (.var 0) (.cons (.bi .len (.cons (.var 1) .nil)) .nil)))) <|
  .cons (.asg (.slot 3) (.call 21 (.cons (.var 0) (.cons (.bi .len (.cons (.ix (.var 1) (.int 0)) .nil)) .nil)))) <|
  .cons (.asg (.slot 4) (.tup (.cons (.call 21 (.cons (.var 0) (.cons (.int 3) .nil))) (.cons (.call 21 (.cons (.var 0) (.cons (.bi .len (.cons (.var 1) .nil)) .nil))) .nil)))) <|
  .cons (.asg (.slot 5) (.bop .add (.bop .add (.slice (.ix (.var 1) (.var 2)) .nil (.cons (.var 3) .nil)) (.tup (.cons (.var 4) .nil))) (.slice (.ix (.var 1) (.var 2)) (.cons (.bop .add (.var 3) (.int 1)) .nil) .nil))) <|
  .cons (.ret (.bop .add (.bop .add (.slice (.var 1) .nil (.cons (.var 2) .nil)) (.tup (.cons (.var 5) .nil))) (.slice (.var 1) (.cons (.bop .add (.var 2) (.int 1)) .nil) .nil))) <|
  .nil)⟩
/-- 30: (design, machine, lot) slots 0:design 1:machine 2:lot 3:place -/
def m__law_failure : MDef := ⟨"_law_failure", ["design", "machine", "lot"], ["design", "machine", "lot", "place"], (.cons (.for (.slot 3) (.rng1 (.bi .len (.cons (.var 2) .nil)))
   (.cons (.ite (.cmp .ne (.call 26 (.cons (.var 0) (.cons (.ix (.var 2) (.var 3)) .nil))) (.call 26 (.cons (.var 1) (.cons (.ix (.var 2) (.var 3)) .nil))))
    (.cons (.ret (.var 3)) <|
    .nil)
    (.nil)) <|
   .nil)) <|
  .cons (.ret .non) <|
  .nil)⟩
/-- 31: (machine, lot, s) slots 0:machine 1:lot 2:s 3:row 4:whole 5:given 6:told 7:now 8:k -/
def m__law_asked : MDef := ⟨"_law_asked", ["machine", "lot", "s"], ["machine", "lot", "s", "row", "whole", "given", "told", "now", "k"], (.cons (.for (.slot 3) (.seq (.var 1))
   (.cons (.asg (.cons (.slot 6) (.cons (.slot 7) .nil)) (.call 25 (.cons (.var 0) (.cons (.int 0) (.cons (.var 3) .nil))))) <|
   .cons (.asg (.slot 5) (.call 11 (.cons (.var 0) (.cons (.var 3) .nil)))) <|
   .cons (.ite (.or (.cmp .ne (.var 5) (.var 6)) (.or (.not (.call 27 (.cons (.var 5) .nil))) (.cmp .ne (.call 12 (.cons (.var 0) (.cons (.var 3) .nil))) (.var 7))))
    (.cons (.ret (.bl false)) <|
    .nil)
    (.nil)) <|
   .cons (.ite (.cmp .ne (.call 13 (.cons (.var 0) (.cons (.var 2) (.cons (.var 3) .nil)))) (.ix (.call 25 (.cons (.var 0) (.cons (.var 2) (.cons (.var 3) .nil)))) (.int 0)))
    (.cons (.ret (.bl false)) <|
    .nil)
    (.nil)) <|
   .nil)) <|
  .cons (.asg (.slot 4) (.bi .tuple (.cons (.lc (.call 26 (.cons (.var 0) (.cons (.var 3) .nil))) (.slot 3) (.seq (.var 1)) .nil [3]) .nil))) <|
  .cons (.ite (.cmp .ne (.call 14 (.cons (.var 0) (.cons (.var 1) .nil))) (.var 4))
   (.cons (.ret (.bl false)) <|
   .nil)
   (.nil)) <|
  .cons (.ret (.cmp .eq (.call 17 (.cons (.var 0) (.cons (.var 1) .nil))) (.bi .tuple (.cons (.lc (.tup (.cons (.ix (.var 1) (.var 8)) (.cons (.ix (.var 4) (.var 8)) .nil))) (.slot 8) (.rng1 (.bi .len (.cons (.var 1) .nil))) .nil [8]) .nil)))) <|
  .nil)⟩
/-- 32: (script) slots 0:script 1:bag 2:letters 3:machine 4:lot 5:s 6:other 7:place 8:bad 9:at 10:told 11:expected 12:e 13:first 14:standing -/
def m_law : MDef := ⟨"law", ["script"], ["script", "bag", "letters", "machine", "lot", "s", "other", "place", "bad", "at", "told", "expected", "e", "first", "standing"], (.cons (.asg (.slot 1) (.call 20 (.cons (.var 0) (.cons (.int 0) .nil)))) <|
  .cons (.asg (.slot 2) (.bop .add (.int 1) (.call 21 (.cons (.var 1) (.cons (.int 4) .nil))))) <|
  .cons (.asg (.slot 3) (.call 22 (.cons (.var 1) (.cons (.bop .add (.int 1) (.call 21 (.cons (.var 1) (.cons (.int 5) .nil)))) (.cons (.var 2) (.cons (.int 3) .nil)))))) <|
  .cons (.ite (.cmp .eq (.call 21 (.cons (.var 1) (.cons (.int 6) .nil))) (.int 0))
   (.cons (.asg (.slot 13) (.bop .add (.tup (.cons (.tup (.cons (.int 99) (.cons (.ix (.ix (.ix (.var 3) (.int 0)) (.int 0)) (.int 1)) .nil))) .nil)) (.slice (.ix (.var 3) (.int 0)) (.cons (.int 1) .nil) .nil))) <|
   .cons (.asg (.slot 3) (.bop .add (.tup (.cons (.var 13) .nil)) (.slice (.var 3) (.cons (.int 1) .nil) .nil))) <|
   .nil)
   (.nil)) <|
  .cons (.asg (.slot 1) (.call 20 (.cons (.var 0) (.cons (.int 1) .nil)))) <|
  .cons (.asg (.slot 4) (.call 24 (.cons (.var 1) (.cons (.var 2) (.cons (.call 21 (.cons (.var 1) (.cons (.int 6) .nil))) (.cons (.int 7) .nil)))))) <|
  .cons (.asg (.slot 5) (.call 21 (.cons (.var 1) (.cons (.bi .len (.cons (.var 3) .nil)) .nil)))) <|
  .cons (.ite (.not (.call 31 (.cons (.var 3) (.cons (.var 4) (.cons (.var 5) .nil)))))
   (.cons (.ret (.bl false)) <|
   .nil)
   (.nil)) <|
  .cons (.asg (.slot 1) (.call 20 (.cons (.var 0) (.cons (.int 2) .nil)))) <|
  .cons (.asg (.slot 6) (.call 29 (.cons (.var 1) (.cons (.var 3) .nil)))) <|
  .cons (.asg (.slot 7) (.call 30 (.cons (.var 3) (.cons (.var 6) (.cons (.var 4) .nil))))) <|
  .cons (.ite (.or (.cmp .ne (.call 15 (.cons (.var 3) (.cons (.var 6) (.cons (.var 4) .nil)))) (.var 7)) (.not (.call 19 (.cons (.call 16 (.cons (.var 3) (.cons (.var 6) (.cons (.var 4) .nil)))) (.cons (.cmp .is (.var 7) .non) .nil)))))
   (.cons (.ret (.bl false)) <|
   .nil)
   (.nil)) <|
  .cons (.ite (.and (.cmp .isNot (.var 7) .non) (.not (.call 18 (.cons (.call 15 (.cons (.var 3) (.cons (.var 6) (.cons (.var 4) .nil)))) .nil))))
   (.cons (.ret (.bl false)) <|
   .nil)
   (.nil)) <|
  .cons (.asg (.slot 8) (.bop .add (.bop .add (.call 23 (.cons (.var 1) (.cons (.var 2) (.cons (.int 3) .nil)))) (.tup (.cons (.var 2) .nil))) (.call 23 (.cons (.var 1) (.cons (.var 2) (.cons (.int 3) .nil)))))) <|
  .cons (.asg (.slot 9) (.call 21 (.cons (.var 1) (.cons (.bop .add (.bi .len (.cons (.var 4) .nil)) (.int 1)) .nil)))) <|
  .cons (.asg (.slot 10) (.call 28 (.cons (.var 3) (.cons (.var 8) (.cons (.bop .add (.bop .add (.slice (.var 4) .nil (.cons (.var 9) .nil)) (.tup (.cons (.var 8) .nil))) (.slice (.var 4) (.cons (.var 9) .nil) .nil)) (.cons (.bop .add (.bi .len (.cons (.var 3) .nil)) (.call 21 (.cons (.var 1) (.cons (.int 3) .nil)))) .nil)))))) <|
  .cons (.asg (.slot 11) (.lst (.cons (.tup (.cons (.str "row") (.cons (.bl true) (.cons (.bl false) .nil)))) (.cons (.tup (.cons (.str "lot") (.cons (.var 9) (.cons (.bl true) (.cons (.bl false) .nil))))) (.cons (.ix (.var 10) (.int 2)) (.cons (.tup (.cons (.str "machine") (.cons (.str "standing") (.cons (.tup (.cons (.bi .len (.cons (.var 3) .nil)) .nil)) (.cons (.bl true) .nil))))) .nil)))))) <|
  .cons (.ite (.or (.cmp .ne (.var 10) (.var 11)) (.or (.cmp .ne (.ix (.ix (.var 10) (.int 2)) (.int 0)) (.str "number")) (.or (.cmp .lt (.ix (.ix (.var 10) (.int 2)) (.int 1)) (.bi .len (.cons (.var 3) .nil))) (.not (.ix (.ix (.var 10) (.int 2)) (.int 2))))))
   (.cons (.ret (.bl false)) <|
   .nil)
   (.nil)) <|
  .cons (.try
   (.cons (.expr (.call 15 (.cons (.var 3) (.cons (.bi .tuple (.cons (.lc (.bop .add (.var 14) (.tup (.cons (.tup (.cons (.int 0) (.cons (.int 0) .nil))) .nil))) (.slot 14) (.seq (.var 6)) .nil [14]) .nil)) (.cons (.var 4) .nil))))) <|
   .cons (.ret (.bl false)) <|
   .nil)
   (.own 4) (some 12)
   (.cons (.ret (.and (.xis (.own 5)) (.xis .ve))) <|
   .nil)) <|
  .nil)⟩
def tab : List MDef := [m_is_number, m_is_between, m_check_number, m_are_letters, m_is_row, m_is_pair, m_check_machine, m_is_cell, m_check_row, m_check_lot, m_run, m_answers, m_end, m_answers_from, m_due, m_first_failure, m_passes, m_log_of, m__law_is_int, m__law_tells, m__law_bag, m__law_take, m__law_machine, m__law_row, m__law_lot, m__law_run, m__law_answers, m__law_numbers, m__law_refused, m__law_changed, m__law_failure, m__law_asked, m_law]
def dd (i : Nat) (n : Str) : He.DefD := ⟨(n, none), n, n, defArgs (top i), defBody (top i), defScope (top i), [], []⟩
def fn : List He.DefD := [dd 13 "is_number", dd 14 "is_between", dd 15 "check_number", dd 16 "are_letters", dd 17 "is_row", dd 18 "is_pair", dd 20 "check_machine", dd 21 "is_cell", dd 23 "check_row", dd 24 "check_lot", dd 26 "run", dd 27 "answers", dd 28 "end", dd 29 "answers_from", dd 30 "due", dd 31 "first_failure", dd 32 "passes", dd 33 "log_of", dd 35 "_law_is_int", dd 36 "_law_tells", dd 37 "_law_bag", dd 38 "_law_take", dd 39 "_law_machine", dd 40 "_law_row", dd 41 "_law_lot", dd 42 "_law_run", dd 43 "_law_answers", dd 44 "_law_numbers", dd 45 "_law_refused", dd 46 "_law_changed", dd 47 "_law_failure", dd 48 "_law_asked", dd 49 "law"]
def clsFn : Stmt → Stmt
  | .ClassDef (body := b) .. => b.getD 0 (.Pass ⟨0, 0, 0, 0⟩)
  | s => s
def ee (i : Nat) (n : Str) (fs : List Str) (wd : Str) : ErrD := ⟨n, fs, wd, defArgs (clsFn (top i)), defBody (clsFn (top i)), defScope (clsFn (top i))⟩
def errs : List ErrD := [ee 2 "BadNumber" ["value"] "badnumber", ee 3 "BadMachine" ["reason", "place"] "badmachine", ee 4 "BadRow" ["value"] "badrow", ee 5 "BadLot" ["place"] "badlot", ee 6 "Unfit" [] "unfit"]
def base : ErrD := ee 1 "FoldsError" ["word"] ""
def L : Lay := ⟨errs, base, ["place", "reason", "value", "word"], tab, fn, [("ANSWERS", 99), ("LETTERS", 6), ("LOT_SIZE", 128), ("ROW_LENGTH", 300), ("STANDINGS", 64)], ["ValueError", "bool", "int", "isinstance", "len", "range", "sum", "tuple", "zip"]⟩
theorem bindE : ∀ (i : Nat) (e : ErrD), L.errs[i]? = some e → BindI e.params ("self" :: e.fs)
  | 0, e, h => by
    cases (show some (ee 2 "BadNumber" ["value"] "badnumber") = some e from h)
    exact fun _ _ _ _ _ _ _ _ _ _ _ us hl => match us, hl with | [_, _], _ => rfl
  | 1, e, h => by
    cases (show some (ee 3 "BadMachine" ["reason", "place"] "badmachine") = some e from h)
    exact fun _ _ _ _ _ _ _ _ _ _ _ us hl => match us, hl with | [_, _, _], _ => rfl
  | 2, e, h => by
    cases (show some (ee 4 "BadRow" ["value"] "badrow") = some e from h)
    exact fun _ _ _ _ _ _ _ _ _ _ _ us hl => match us, hl with | [_, _], _ => rfl
  | 3, e, h => by
    cases (show some (ee 5 "BadLot" ["place"] "badlot") = some e from h)
    exact fun _ _ _ _ _ _ _ _ _ _ _ us hl => match us, hl with | [_, _], _ => rfl
  | 4, e, h => by
    cases (show some (ee 6 "Unfit" [] "unfit") = some e from h)
    exact fun _ _ _ _ _ _ _ _ _ _ _ us hl => match us, hl with | [_], _ => rfl
  | _ + 5, e, h => by cases (show (none : Option ErrD) = some e from h)
theorem bindB : BindI L.base.params ["self", "word"] := fun _ _ _ _ _ _ _ _ _ _ _ us hl => match us, hl with | [_, _], _ => rfl
theorem c_is_number : defSB L.S m_is_number (dd 13 "is_number") = true := by decide +kernel
theorem c_is_between : defSB L.S m_is_between (dd 14 "is_between") = true := by decide +kernel
theorem c_check_number : defSB L.S m_check_number (dd 15 "check_number") = true := by decide +kernel
theorem c_are_letters : defSB L.S m_are_letters (dd 16 "are_letters") = true := by decide +kernel
theorem c_is_row : defSB L.S m_is_row (dd 17 "is_row") = true := by decide +kernel
theorem c_is_pair : defSB L.S m_is_pair (dd 18 "is_pair") = true := by decide +kernel
theorem c_check_machine : defSB L.S m_check_machine (dd 20 "check_machine") = true := by decide +kernel
theorem c_is_cell : defSB L.S m_is_cell (dd 21 "is_cell") = true := by decide +kernel
theorem c_check_row : defSB L.S m_check_row (dd 23 "check_row") = true := by decide +kernel
theorem c_check_lot : defSB L.S m_check_lot (dd 24 "check_lot") = true := by decide +kernel
theorem c_run : defSB L.S m_run (dd 26 "run") = true := by decide +kernel
theorem c_answers : defSB L.S m_answers (dd 27 "answers") = true := by decide +kernel
theorem c_end : defSB L.S m_end (dd 28 "end") = true := by decide +kernel
theorem c_answers_from : defSB L.S m_answers_from (dd 29 "answers_from") = true := by decide +kernel
theorem c_due : defSB L.S m_due (dd 30 "due") = true := by decide +kernel
theorem c_first_failure : defSB L.S m_first_failure (dd 31 "first_failure") = true := by decide +kernel
theorem c_passes : defSB L.S m_passes (dd 32 "passes") = true := by decide +kernel
theorem c_log_of : defSB L.S m_log_of (dd 33 "log_of") = true := by decide +kernel
theorem c__law_is_int : defSB L.S m__law_is_int (dd 35 "_law_is_int") = true := by decide +kernel
theorem c__law_tells : defSB L.S m__law_tells (dd 36 "_law_tells") = true := by decide +kernel
theorem c__law_bag : defSB L.S m__law_bag (dd 37 "_law_bag") = true := by decide +kernel
theorem c__law_take : defSB L.S m__law_take (dd 38 "_law_take") = true := by decide +kernel
theorem c__law_machine : defSB L.S m__law_machine (dd 39 "_law_machine") = true := by decide +kernel
theorem c__law_row : defSB L.S m__law_row (dd 40 "_law_row") = true := by decide +kernel
theorem c__law_lot : defSB L.S m__law_lot (dd 41 "_law_lot") = true := by decide +kernel
theorem c__law_run : defSB L.S m__law_run (dd 42 "_law_run") = true := by decide +kernel
theorem c__law_answers : defSB L.S m__law_answers (dd 43 "_law_answers") = true := by decide +kernel
theorem c__law_numbers : defSB L.S m__law_numbers (dd 44 "_law_numbers") = true := by decide +kernel
theorem c__law_refused : defSB L.S m__law_refused (dd 45 "_law_refused") = true := by decide +kernel
theorem c__law_changed : defSB L.S m__law_changed (dd 46 "_law_changed") = true := by decide +kernel
theorem c__law_failure : defSB L.S m__law_failure (dd 47 "_law_failure") = true := by decide +kernel
theorem c__law_asked : defSB L.S m__law_asked (dd 48 "_law_asked") = true := by decide +kernel
theorem c_law : defSB L.S m_law (dd 49 "law") = true := by decide +kernel
theorem defs : ∀ (i : Nat) (d : MDef), L.tab[i]? = some d → ∃ f, L.fn[i]? = some f ∧ defSB L.S d f = true ∧ BindN f.params d.params
  | 0, d, h => by
    cases (show some m_is_number = some d from h)
    exact ⟨dd 13 "is_number", rfl, c_is_number, fun _ _ _ _ _ _ _ _ _ _ us hl => match us, hl with | [_], _ => rfl⟩
  | 1, d, h => by
    cases (show some m_is_between = some d from h)
    exact ⟨dd 14 "is_between", rfl, c_is_between, fun _ _ _ _ _ _ _ _ _ _ us hl => match us, hl with | [_, _, _], _ => rfl⟩
  | 2, d, h => by
    cases (show some m_check_number = some d from h)
    exact ⟨dd 15 "check_number", rfl, c_check_number, fun _ _ _ _ _ _ _ _ _ _ us hl => match us, hl with | [_, _, _], _ => rfl⟩
  | 3, d, h => by
    cases (show some m_are_letters = some d from h)
    exact ⟨dd 16 "are_letters", rfl, c_are_letters, fun _ _ _ _ _ _ _ _ _ _ us hl => match us, hl with | [_, _], _ => rfl⟩
  | 4, d, h => by
    cases (show some m_is_row = some d from h)
    exact ⟨dd 17 "is_row", rfl, c_is_row, fun _ _ _ _ _ _ _ _ _ _ us hl => match us, hl with | [_, _], _ => rfl⟩
  | 5, d, h => by
    cases (show some m_is_pair = some d from h)
    exact ⟨dd 18 "is_pair", rfl, c_is_pair, fun _ _ _ _ _ _ _ _ _ _ us hl => match us, hl with | [_], _ => rfl⟩
  | 6, d, h => by
    cases (show some m_check_machine = some d from h)
    exact ⟨dd 20 "check_machine", rfl, c_check_machine, fun _ _ _ _ _ _ _ _ _ _ us hl => match us, hl with | [_], _ => rfl⟩
  | 7, d, h => by
    cases (show some m_is_cell = some d from h)
    exact ⟨dd 21 "is_cell", rfl, c_is_cell, fun _ _ _ _ _ _ _ _ _ _ us hl => match us, hl with | [_, _], _ => rfl⟩
  | 8, d, h => by
    cases (show some m_check_row = some d from h)
    exact ⟨dd 23 "check_row", rfl, c_check_row, fun _ _ _ _ _ _ _ _ _ _ us hl => match us, hl with | [_, _], _ => rfl⟩
  | 9, d, h => by
    cases (show some m_check_lot = some d from h)
    exact ⟨dd 24 "check_lot", rfl, c_check_lot, fun _ _ _ _ _ _ _ _ _ _ us hl => match us, hl with | [_, _], _ => rfl⟩
  | 10, d, h => by
    cases (show some m_run = some d from h)
    exact ⟨dd 26 "run", rfl, c_run, fun _ _ _ _ _ _ _ _ _ _ us hl => match us, hl with | [_, _, _], _ => rfl⟩
  | 11, d, h => by
    cases (show some m_answers = some d from h)
    exact ⟨dd 27 "answers", rfl, c_answers, fun _ _ _ _ _ _ _ _ _ _ us hl => match us, hl with | [_, _], _ => rfl⟩
  | 12, d, h => by
    cases (show some m_end = some d from h)
    exact ⟨dd 28 "end", rfl, c_end, fun _ _ _ _ _ _ _ _ _ _ us hl => match us, hl with | [_, _], _ => rfl⟩
  | 13, d, h => by
    cases (show some m_answers_from = some d from h)
    exact ⟨dd 29 "answers_from", rfl, c_answers_from, fun _ _ _ _ _ _ _ _ _ _ us hl => match us, hl with | [_, _, _], _ => rfl⟩
  | 14, d, h => by
    cases (show some m_due = some d from h)
    exact ⟨dd 30 "due", rfl, c_due, fun _ _ _ _ _ _ _ _ _ _ us hl => match us, hl with | [_, _], _ => rfl⟩
  | 15, d, h => by
    cases (show some m_first_failure = some d from h)
    exact ⟨dd 31 "first_failure", rfl, c_first_failure, fun _ _ _ _ _ _ _ _ _ _ us hl => match us, hl with | [_, _, _], _ => rfl⟩
  | 16, d, h => by
    cases (show some m_passes = some d from h)
    exact ⟨dd 32 "passes", rfl, c_passes, fun _ _ _ _ _ _ _ _ _ _ us hl => match us, hl with | [_, _, _], _ => rfl⟩
  | 17, d, h => by
    cases (show some m_log_of = some d from h)
    exact ⟨dd 33 "log_of", rfl, c_log_of, fun _ _ _ _ _ _ _ _ _ _ us hl => match us, hl with | [_, _], _ => rfl⟩
  | 18, d, h => by
    cases (show some m__law_is_int = some d from h)
    exact ⟨dd 35 "_law_is_int", rfl, c__law_is_int, fun _ _ _ _ _ _ _ _ _ _ us hl => match us, hl with | [_], _ => rfl⟩
  | 19, d, h => by
    cases (show some m__law_tells = some d from h)
    exact ⟨dd 36 "_law_tells", rfl, c__law_tells, fun _ _ _ _ _ _ _ _ _ _ us hl => match us, hl with | [_, _], _ => rfl⟩
  | 20, d, h => by
    cases (show some m__law_bag = some d from h)
    exact ⟨dd 37 "_law_bag", rfl, c__law_bag, fun _ _ _ _ _ _ _ _ _ _ us hl => match us, hl with | [_, _], _ => rfl⟩
  | 21, d, h => by
    cases (show some m__law_take = some d from h)
    exact ⟨dd 38 "_law_take", rfl, c__law_take, fun _ _ _ _ _ _ _ _ _ _ us hl => match us, hl with | [_, _], _ => rfl⟩
  | 22, d, h => by
    cases (show some m__law_machine = some d from h)
    exact ⟨dd 39 "_law_machine", rfl, c__law_machine, fun _ _ _ _ _ _ _ _ _ _ us hl => match us, hl with | [_, _, _, _], _ => rfl⟩
  | 23, d, h => by
    cases (show some m__law_row = some d from h)
    exact ⟨dd 40 "_law_row", rfl, c__law_row, fun _ _ _ _ _ _ _ _ _ _ us hl => match us, hl with | [_, _, _], _ => rfl⟩
  | 24, d, h => by
    cases (show some m__law_lot = some d from h)
    exact ⟨dd 41 "_law_lot", rfl, c__law_lot, fun _ _ _ _ _ _ _ _ _ _ us hl => match us, hl with | [_, _, _, _], _ => rfl⟩
  | 25, d, h => by
    cases (show some m__law_run = some d from h)
    exact ⟨dd 42 "_law_run", rfl, c__law_run, fun _ _ _ _ _ _ _ _ _ _ us hl => match us, hl with | [_, _, _], _ => rfl⟩
  | 26, d, h => by
    cases (show some m__law_answers = some d from h)
    exact ⟨dd 43 "_law_answers", rfl, c__law_answers, fun _ _ _ _ _ _ _ _ _ _ us hl => match us, hl with | [_, _], _ => rfl⟩
  | 27, d, h => by
    cases (show some m__law_numbers = some d from h)
    exact ⟨dd 44 "_law_numbers", rfl, c__law_numbers, fun _ _ _ _ _ _ _ _ _ _ us hl => match us, hl with | [_], _ => rfl⟩
  | 28, d, h => by
    cases (show some m__law_refused = some d from h)
    exact ⟨dd 45 "_law_refused", rfl, c__law_refused, fun _ _ _ _ _ _ _ _ _ _ us hl => match us, hl with | [_, _, _, _], _ => rfl⟩
  | 29, d, h => by
    cases (show some m__law_changed = some d from h)
    exact ⟨dd 46 "_law_changed", rfl, c__law_changed, fun _ _ _ _ _ _ _ _ _ _ us hl => match us, hl with | [_, _], _ => rfl⟩
  | 30, d, h => by
    cases (show some m__law_failure = some d from h)
    exact ⟨dd 47 "_law_failure", rfl, c__law_failure, fun _ _ _ _ _ _ _ _ _ _ us hl => match us, hl with | [_, _, _], _ => rfl⟩
  | 31, d, h => by
    cases (show some m__law_asked = some d from h)
    exact ⟨dd 48 "_law_asked", rfl, c__law_asked, fun _ _ _ _ _ _ _ _ _ _ us hl => match us, hl with | [_, _, _], _ => rfl⟩
  | 32, d, h => by
    cases (show some m_law = some d from h)
    exact ⟨dd 49 "law", rfl, c_law, fun _ _ _ _ _ _ _ _ _ _ us hl => match us, hl with | [_], _ => rfl⟩
  | _ + 33, d, h => by cases (show (none : Option MDef) = some d from h)
theorem ok : L.Ok P := ⟨by decide +kernel, bindE, by decide +kernel, bindB, defs, by decide +kernel⟩
abbrev lawK : Nat := 32
def par0 : Nat → Nat → Bool := L.par
def mk0 : Nat → List D → Option Exn := mkX L.S
def call (n : Nat) : Nat → List D → Mem → R D := callN L.par (mkX L.S) L.S.T n
theorem par0_eq (a b : Nat) : par0 a b = (a == b || b == 5) := rfl
theorem mk0_0 (v0 : D) : mk0 0 [v0] = some ⟨0, [(("value" : Str), v0), (("word" : Str), D.str "badnumber")]⟩ := rfl
theorem mk0_1 (v0 v1 : D) : mk0 1 [v0, v1] = some ⟨1, [(("reason" : Str), v0), (("place" : Str), v1), (("word" : Str), D.str "badmachine")]⟩ := rfl
theorem mk0_2 (v0 : D) : mk0 2 [v0] = some ⟨2, [(("value" : Str), v0), (("word" : Str), D.str "badrow")]⟩ := rfl
theorem mk0_3 (v0 : D) : mk0 3 [v0] = some ⟨3, [(("place" : Str), v0), (("word" : Str), D.str "badlot")]⟩ := rfl
theorem mk0_4 : mk0 4 [] = some ⟨4, [(("word" : Str), D.str "unfit")]⟩ := rfl
theorem pu {n f : Nat} {d : MDef} {ds : List D} {μ μ1 : Mem} {v : D} (hT : tab[f]? = some d) (hl : ds.length = d.params.length) (hm : Pu μ1) (hv : v.pure = true)
    (h : (execSs par0 mk0 (call n) none d.body (startD d ds) μ).wp ⟨fun _ μ' => v = .non ∧ μ'.take μ.length = μ1, fun u μ' => u = v ∧ μ'.take μ.length = μ1, fun _ _ _ => False, fun _ _ => False, fun _ _ => False⟩) :
    call (n + 1) f ds μ = .ok v μ1 := call_pu (T := L.S.T) hT hl hm hv h
theorem px {n f : Nat} {d : MDef} {ds : List D} {μ μ1 : Mem} {x : Exn} (hT : tab[f]? = some d) (hl : ds.length = d.params.length) (hm : Pu μ1) (hv : x.fs.all (fun p => p.2.pure) = true)
    (h : (execSs par0 mk0 (call n) none d.body (startD d ds) μ).wp ⟨fun _ _ => False, fun _ _ => False, fun y _ μ' => y = x ∧ μ'.take μ.length = μ1, fun _ _ => False, fun _ _ => False⟩) :
    call (n + 1) f ds μ = .exc x μ1 := call_exc (T := L.S.T) hT hl (hm.under _) (under_exn hv) h
theorem pl {n f : Nat} {d : MDef} {ds : List D} {μ μ1 : Mem} {l : Nat} (hT : tab[f]? = some d) (hl : ds.length = d.params.length) (hv : μ.length ≤ l)
    (h : (execSs par0 mk0 (call n) none d.body (startD d ds) μ).wp ⟨fun _ _ => False, fun u μ' => u = .loc l ∧ μ' = μ1, fun _ _ _ => False, fun _ _ => False, fun _ _ => False⟩) :
    call (n + 1) f ds μ = .ok (.loc l) μ1 := call_loc (T := L.S.T) hT hl hv h
theorem pw {n f : Nat} {d : MDef} {ds : List D} {μ : Mem} {Q : D → Mem → Prop} {E : Exn → Mem → Prop} (hT : tab[f]? = some d) (hl : ds.length = d.params.length)
    (h : (execSs par0 mk0 (call n) none d.body (startD d ds) μ).wp ⟨fun _ μ' => Pu μ' ∧ Q .non (μ'.take μ.length), fun u μ' => u.pure = true ∧ Pu μ' ∧ Q u (μ'.take μ.length), fun x _ μ' => x.fs.all (fun p => p.2.pure) = true ∧ Pu μ' ∧ E x (μ'.take μ.length), fun _ _ => False, fun _ _ => False⟩) :
    (call (n + 1) f ds μ).wp Q E := call_wp (T := L.S.T) hT hl h
theorem pwl {n f : Nat} {d : MDef} {ds : List D} {μ : Mem} {Q : D → Mem → Prop} {E : Exn → Mem → Prop} (hT : tab[f]? = some d) (hl : ds.length = d.params.length)
    (h : (execSs par0 mk0 (call n) none d.body (startD d ds) μ).wp ⟨fun _ _ => False, fun u μ' => ∃ l, u = .loc l ∧ μ.length ≤ l ∧ Q u μ', fun x _ μ' => x.fs.all (fun p => p.2.pure) = true ∧ Pu μ' ∧ E x (μ'.take μ.length), fun _ _ => False, fun _ _ => False⟩) :
    (call (n + 1) f ds μ).wp Q E := call_wpl (T := L.S.T) hT hl h
abbrev R : PySem.W.OpenRow := PySem.W.OpenLaw.row PySem.Challenge.rw_foldsclose_k01_rows_run
abbrev hk : PySem.W.Hook := L.hook P 6
def ob (s : PySem.W.SharedT) : AlM := L.obsG P 6 (HandSHeadRun.getT s)
theorem ob_eq (s : PySem.W.SharedT) : ob s = hk.obs s.abs := Lay.obs_eq (HandSHeadRun.getT_eq s)
def loose : List Str := [("FoldsError" : Str), ("BadNumber" : Str), ("BadMachine" : Str), ("BadRow" : Str), ("BadLot" : Str), ("Unfit" : Str), ("STANDINGS" : Str), ("LETTERS" : Str), ("ANSWERS" : Str), ("ROW_LENGTH" : Str), ("LOT_SIZE" : Str), ("is_number" : Str), ("is_between" : Str), ("check_number" : Str), ("are_letters" : Str), ("is_row" : Str), ("is_pair" : Str), ("check_machine" : Str), ("is_cell" : Str), ("check_row" : Str), ("check_lot" : Str), ("run" : Str), ("answers" : Str), ("end" : Str), ("answers_from" : Str), ("due" : Str), ("first_failure" : Str), ("passes" : Str), ("log_of" : Str), ("_law_is_int" : Str), ("_law_tells" : Str), ("_law_bag" : Str), ("_law_take" : Str), ("_law_machine" : Str), ("_law_row" : Str), ("_law_lot" : Str), ("_law_run" : Str), ("_law_answers" : Str), ("_law_numbers" : Str), ("_law_refused" : Str), ("_law_changed" : Str), ("_law_failure" : Str), ("_law_asked" : Str)]
abbrev lawI : Nat := 49
end K01

namespace K01
open PySem Mn
/-! ### drawing -/
theorem take_wp {n : Nat} {μ : Mem} {b : Nat} {N g s c many : Int} {Q : D → Mem → Prop} {E : Exn → Mem → Prop} (h : Pu μ) (hb : μ[b]? = some (bagO N g s c)) (hc : 0 ≤ c ∧ c < 1000000000) (hm : 1 ≤ many ∧ many < 1000000000)
    (hQ : ∀ d N' c', 0 ≤ d → d < many → 0 ≤ c' → c' ≤ c + 1 → Q (.int d) (μ.set b (bagO N' g s c'))) : (call (n + 1) 21 [.loc b, .int many] μ).wp Q E := by
  refine pw (d := m__law_take) rfl rfl ?_
  have hlt : b < μ.length := (List.getElem?_eq_some_iff.mp hb).1
  have hs : ∀ o, (μ.set b o)[b]? = some o := fun o => List.getElem?_set_self hlt
  have tk : ∀ o, (μ.set b o).take μ.length = μ.set b o := fun o => List.take_of_length_le (by rw [List.length_set]; exact Nat.le_refl _)
  have m0 : 0 < many := by omega
  have m1 : many < 1073741824 := by omega
  have d0 : ∀ x : Int, 0 ≤ x % many := fun x => Int.emod_nonneg _ (by omega)
  have d1 : ∀ x : Int, x % many < many := fun x => Int.emod_lt_of_pos _ (by omega)
  have c1 : (c + 1).natAbs < 18446744073709551616 := by omega
  unfold bagO at hb
  by_cases h1 : g = 1 ∧ 0 < N
  · simp [↓z_some, ↓z_none, ↓z_ok, ↓z_exc, ↓z_bind, ↓z_wr, ↓z_ws, ↓z_ow, ↓z_nx, ↓z_rt, ↓z_br, ↓z_ct, ↓z_ex, ↓z_cons, ↓z_nil, ↓z_ret, ↓z_expr, ↓z_for, ↓z_par, ↓z_try0, ↓z_try1, ↓z_tests_nil, ↓z_var, ↓z_non, ↓z_bl, ↓z_int, ↓z_str, ↓z_gint, ↓z_bop, ↓z_neg, ↓z_not, ↓z_cmp, ↓z_cmp2, ↓z_and, ↓z_or, ↓z_ite, ↓z_tup, ↓z_lst, ↓z_ix, ↓z_slice, ↓z_o_nil, ↓z_o_cons, ↓z_sl_tup, ↓z_sl_loc, ↓z_call, ↓z_bi, ↓z_meth, ↓z_isin, ↓z_xfld, ↓z_xis, ↓z_es_nil, ↓z_es_cons, ↓z_i_seq, ↓z_i_rng1, ↓z_i_rng2, ↓z_i_zip, ↓z_lc, ↓z_lcF, ↓z_t_cons, ↓z_asg, ↓z_if, ↓z_raise, ↓z_forF, ↓z_aug, ↓z_asgS, ↓z_brk, ↓z_cnt, ↓z_pass, ↓z_ret0, ↓z_whl, ↓z_add, ↓z_sub, ↓z_mul, ↓z_div, ↓z_mod, ↓z_pow, ↓z_addt, ↓z_eq, ↓z_ne, ↓z_lt, ↓z_le, ↓z_gt, ↓z_ge, ↓z_is_b, ↓z_is_n, ↓z_is_i, ↓z_is_t, ↓z_no_b, ↓z_no_n, ↓z_no_i, ↓z_no_t, ↓z_gadd, ↓z_gsub, ↓z_gmul, ↓z_gdiv, ↓z_gmod, ↓z_len_t, ↓z_len_l, ↓z_tuple, ↓z_list, ↓z_int_i, ↓z_int_b, ↓z_bool_i, ↓z_bool_b, ↓z_abs, ↓z_min2, ↓z_max2, ↓z_sum, ↓z_app, ↓z_pop, startD, seq_tup, ty_ii, ty_ib, ty_it, ty_bi, ty_bb, ty_bt, ty_tt, ty_ti, ty_tb, ty_n, ty_st, ty_si, tr_bl, tr_int, tr_non, set_slot, set_nil, set_cons, sets_nil, sets_cons, wipe_nil, wipe_cons, gv_0, sv_0, gv_1, sv_1, gv_2, sv_2, gv_3, sv_3, gv_4, sv_4, gv_5, sv_5, gv_6, sv_6, gv_7, sv_7, gv_8, sv_8, gv_9, sv_9, gv_10, sv_10, gv_11, sv_11, gv_12, sv_12, gv_13, sv_13, gv_14, sv_14, gv_15, sv_15, gv_16, sv_16, gv_17, sv_17, gv_18, sv_18, gv_19, sv_19, gv_20, sv_20, gv_21, sv_21, gv_22, sv_22, gv_23, sv_23, Option.bind_some, at0, at1, at2, at3, set0, set1, set2, set3, mr_app, mr_ext, mr_pop, eqv_int, seq_end, at_end, set_end, at_e1, set_e1, seq_e1, at_e2, set_e2, seq_e2, at_e3, set_e3, seq_e3, at_e4, set_e4, seq_e4, pure_int, pure_bl, pure_non, pure_str, pure_tup, pures_nil, pures_cons, mul_l, mul_r, it_tup, it_loc, zip_tup, fu_items, fu_live, fu_zip, m__law_take, seq_lst hb, eqM_shp, shp_int, h1.1, h1.2, m0, m1, hb, hs, tk]
    refine ⟨h.set rfl, ?_⟩
    have := hQ (N % many) (N / many) c (d0 _) (d1 _) (by omega) (by omega)
    rwa [h1.1] at this
  · simp [↓z_some, ↓z_none, ↓z_ok, ↓z_exc, ↓z_bind, ↓z_wr, ↓z_ws, ↓z_ow, ↓z_nx, ↓z_rt, ↓z_br, ↓z_ct, ↓z_ex, ↓z_cons, ↓z_nil, ↓z_ret, ↓z_expr, ↓z_for, ↓z_par, ↓z_try0, ↓z_try1, ↓z_tests_nil, ↓z_var, ↓z_non, ↓z_bl, ↓z_int, ↓z_str, ↓z_gint, ↓z_bop, ↓z_neg, ↓z_not, ↓z_cmp, ↓z_cmp2, ↓z_and, ↓z_or, ↓z_ite, ↓z_tup, ↓z_lst, ↓z_ix, ↓z_slice, ↓z_o_nil, ↓z_o_cons, ↓z_sl_tup, ↓z_sl_loc, ↓z_call, ↓z_bi, ↓z_meth, ↓z_isin, ↓z_xfld, ↓z_xis, ↓z_es_nil, ↓z_es_cons, ↓z_i_seq, ↓z_i_rng1, ↓z_i_rng2, ↓z_i_zip, ↓z_lc, ↓z_lcF, ↓z_t_cons, ↓z_asg, ↓z_if, ↓z_raise, ↓z_forF, ↓z_aug, ↓z_asgS, ↓z_brk, ↓z_cnt, ↓z_pass, ↓z_ret0, ↓z_whl, ↓z_add, ↓z_sub, ↓z_mul, ↓z_div, ↓z_mod, ↓z_pow, ↓z_addt, ↓z_eq, ↓z_ne, ↓z_lt, ↓z_le, ↓z_gt, ↓z_ge, ↓z_is_b, ↓z_is_n, ↓z_is_i, ↓z_is_t, ↓z_no_b, ↓z_no_n, ↓z_no_i, ↓z_no_t, ↓z_gadd, ↓z_gsub, ↓z_gmul, ↓z_gdiv, ↓z_gmod, ↓z_len_t, ↓z_len_l, ↓z_tuple, ↓z_list, ↓z_int_i, ↓z_int_b, ↓z_bool_i, ↓z_bool_b, ↓z_abs, ↓z_min2, ↓z_max2, ↓z_sum, ↓z_app, ↓z_pop, startD, seq_tup, ty_ii, ty_ib, ty_it, ty_bi, ty_bb, ty_bt, ty_tt, ty_ti, ty_tb, ty_n, ty_st, ty_si, tr_bl, tr_int, tr_non, set_slot, set_nil, set_cons, sets_nil, sets_cons, wipe_nil, wipe_cons, gv_0, sv_0, gv_1, sv_1, gv_2, sv_2, gv_3, sv_3, gv_4, sv_4, gv_5, sv_5, gv_6, sv_6, gv_7, sv_7, gv_8, sv_8, gv_9, sv_9, gv_10, sv_10, gv_11, sv_11, gv_12, sv_12, gv_13, sv_13, gv_14, sv_14, gv_15, sv_15, gv_16, sv_16, gv_17, sv_17, gv_18, sv_18, gv_19, sv_19, gv_20, sv_20, gv_21, sv_21, gv_22, sv_22, gv_23, sv_23, Option.bind_some, at0, at1, at2, at3, set0, set1, set2, set3, mr_app, mr_ext, mr_pop, eqv_int, seq_end, at_end, set_end, at_e1, set_e1, seq_e1, at_e2, set_e2, seq_e2, at_e3, set_e3, seq_e3, at_e4, set_e4, seq_e4, pure_int, pure_bl, pure_non, pure_str, pure_tup, pures_nil, pures_cons, mul_l, mul_r, it_tup, it_loc, zip_tup, fu_items, fu_live, fu_zip, m__law_take, seq_lst hb, seq_lst (hs _), eqM_shp, shp_int, m0, m1, hb, hs, tk, c1]
    (repeat' split) <;> first | omega | exact ⟨h.set rfl, hQ _ _ _ (d0 _) (d1 _) (by omega) (by omega)⟩
theorem take_fr {n : Nat} {μ0 μ : Mem} {b : Nat} {g s C many : Int} {Q : D → Mem → Prop} {E : Exn → Mem → Prop} (F : Fr b g s C μ0 μ) (hC : C < 1000000000) (hm : 1 ≤ many ∧ many < 1000000000)
    (hQ : ∀ d N' c', 0 ≤ d → d < many → 0 ≤ c' → c' ≤ C + 1 → Fr b g s (C + 1) μ0 (μ.set b (bagO N' g s c')) → Q (.int d) (μ.set b (bagO N' g s c'))) : WR Q E (call (n + 1) 21 [.loc b, .int many] μ) := by
  obtain ⟨N, c, z, h0, h1⟩ := F.bag
  exact take_wp F.pu z ⟨h0, by omega⟩ hm fun d N' c' a1 a2 a3 a4 => hQ d N' c' a1 a2 a3 (by omega) (F.setb a3 (by omega))
abbrev Cell := Int × Int
def eC (c : Cell) : D := .tup [.int c.1, .int c.2]
def eS (s : List Cell) : D := .tup (s.map eC)
def eM (M : List (List Cell)) : D := .tup (M.map eS)
theorem pure_eC (c : Cell) : (eC c).pure = true := rfl
theorem pure_eS (c : List Cell) : (eS c).pure = true := pures_map pure_eC c
theorem pure_eM (c : List (List Cell)) : (eM c).pure = true := pures_map pure_eS c
def eR (r : List Int) : D := .tup (r.map D.int)
def eL (l : List (List Int)) : D := .tup (l.map eR)
theorem pure_eR (r : List Int) : (eR r).pure = true := by simp [eR, D.pure, shps_pures (shps_ints (k := 0) _)]
theorem pures_ints (r : List Int) : D.pures (r.map D.int) = true := shps_pures (shps_ints (k := 0) _)
theorem pure_eL (l : List (List Int)) : (eL l).pure = true := pures_map pure_eR l
/-- a drawn row -/
theorem row_wp {n : Nat} {μ0 μ : Mem} {b : Nat} {g s C k long : Int} {Q : D → Mem → Prop} {E : Exn → Mem → Prop} (F : Fr b g s C μ0 μ) (hC : C < 1000000) (hk : 1 ≤ k ∧ k < 1000) (hl : 0 ≤ long ∧ long < 1000)
    (hQ : ∀ r N' c', (r.length : Int) ≤ long → (∀ x ∈ r, 0 ≤ x ∧ x ≤ k - 1) → 0 ≤ c' → c' ≤ C + 1 + long → Fr b g s (C + 1 + long) μ0 (μ.set b (bagO N' g s c')) → Q (eR r) (μ.set b (bagO N' g s c'))) : WR Q E (call (n + 2) 23 [.loc b, .int k, .int long] μ) := by
  refine pw (d := m__law_row) rfl rfl ?_
  have hlt : b < μ.length := F.lt
  obtain ⟨N0, c0, z0, h00, h01⟩ := F.bag
  have F0 : Fr b g s C μ μ := Fr.refl F.pu z0 h00 h01
  simp [↓z_some, ↓z_none, ↓z_ok, ↓z_exc, ↓z_bind, ↓z_wr, ↓z_ws, ↓z_ow, ↓z_nx, ↓z_rt, ↓z_br, ↓z_ct, ↓z_ex, ↓z_cons, ↓z_nil, ↓z_ret, ↓z_expr, ↓z_for, ↓z_par, ↓z_try0, ↓z_try1, ↓z_tests_nil, ↓z_var, ↓z_non, ↓z_bl, ↓z_int, ↓z_str, ↓z_gint, ↓z_bop, ↓z_neg, ↓z_not, ↓z_cmp, ↓z_cmp2, ↓z_and, ↓z_or, ↓z_ite, ↓z_tup, ↓z_lst, ↓z_ix, ↓z_slice, ↓z_o_nil, ↓z_o_cons, ↓z_sl_tup, ↓z_sl_loc, ↓z_call, ↓z_bi, ↓z_meth, ↓z_isin, ↓z_xfld, ↓z_xis, ↓z_es_nil, ↓z_es_cons, ↓z_i_seq, ↓z_i_rng1, ↓z_i_rng2, ↓z_i_zip, ↓z_lc, ↓z_lcF, ↓z_t_cons, ↓z_asg, ↓z_if, ↓z_raise, ↓z_forF, ↓z_aug, ↓z_asgS, ↓z_brk, ↓z_cnt, ↓z_pass, ↓z_ret0, ↓z_whl, ↓z_add, ↓z_sub, ↓z_mul, ↓z_div, ↓z_mod, ↓z_pow, ↓z_addt, ↓z_eq, ↓z_ne, ↓z_lt, ↓z_le, ↓z_gt, ↓z_ge, ↓z_is_b, ↓z_is_n, ↓z_is_i, ↓z_is_t, ↓z_no_b, ↓z_no_n, ↓z_no_i, ↓z_no_t, ↓z_gadd, ↓z_gsub, ↓z_gmul, ↓z_gdiv, ↓z_gmod, ↓z_len_t, ↓z_len_l, ↓z_tuple, ↓z_list, ↓z_int_i, ↓z_int_b, ↓z_bool_i, ↓z_bool_b, ↓z_abs, ↓z_min2, ↓z_max2, ↓z_sum, ↓z_app, ↓z_pop, startD, seq_tup, ty_ii, ty_ib, ty_it, ty_bi, ty_bb, ty_bt, ty_tt, ty_ti, ty_tb, ty_n, ty_st, ty_si, tr_bl, tr_int, tr_non, set_slot, set_nil, set_cons, sets_nil, sets_cons, wipe_nil, wipe_cons, gv_0, sv_0, gv_1, sv_1, gv_2, sv_2, gv_3, sv_3, gv_4, sv_4, gv_5, sv_5, gv_6, sv_6, gv_7, sv_7, gv_8, sv_8, gv_9, sv_9, gv_10, sv_10, gv_11, sv_11, gv_12, sv_12, gv_13, sv_13, gv_14, sv_14, gv_15, sv_15, gv_16, sv_16, gv_17, sv_17, gv_18, sv_18, gv_19, sv_19, gv_20, sv_20, gv_21, sv_21, gv_22, sv_22, gv_23, sv_23, Option.bind_some, at0, at1, at2, at3, set0, set1, set2, set3, mr_app, mr_ext, mr_pop, eqv_int, seq_end, at_end, set_end, at_e1, set_e1, seq_e1, at_e2, set_e2, seq_e2, at_e3, set_e3, seq_e3, at_e4, set_e4, seq_e4, pure_int, pure_bl, pure_non, pure_str, pure_tup, pures_nil, pures_cons, mul_l, mul_r, it_tup, it_loc, zip_tup, fu_items, fu_live, fu_zip, m__law_row]
  refine take_fr F0 (by omega) (by omega) fun m N c m0 m1 c0 c1 F1 => ?_
  simp [↓z_some, ↓z_none, ↓z_ok, ↓z_exc, ↓z_bind, ↓z_wr, ↓z_ws, ↓z_ow, ↓z_nx, ↓z_rt, ↓z_br, ↓z_ct, ↓z_ex, ↓z_cons, ↓z_nil, ↓z_ret, ↓z_expr, ↓z_for, ↓z_par, ↓z_try0, ↓z_try1, ↓z_tests_nil, ↓z_var, ↓z_non, ↓z_bl, ↓z_int, ↓z_str, ↓z_gint, ↓z_bop, ↓z_neg, ↓z_not, ↓z_cmp, ↓z_cmp2, ↓z_and, ↓z_or, ↓z_ite, ↓z_tup, ↓z_lst, ↓z_ix, ↓z_slice, ↓z_o_nil, ↓z_o_cons, ↓z_sl_tup, ↓z_sl_loc, ↓z_call, ↓z_bi, ↓z_meth, ↓z_isin, ↓z_xfld, ↓z_xis, ↓z_es_nil, ↓z_es_cons, ↓z_i_seq, ↓z_i_rng1, ↓z_i_rng2, ↓z_i_zip, ↓z_lc, ↓z_lcF, ↓z_t_cons, ↓z_asg, ↓z_if, ↓z_raise, ↓z_forF, ↓z_aug, ↓z_asgS, ↓z_brk, ↓z_cnt, ↓z_pass, ↓z_ret0, ↓z_whl, ↓z_add, ↓z_sub, ↓z_mul, ↓z_div, ↓z_mod, ↓z_pow, ↓z_addt, ↓z_eq, ↓z_ne, ↓z_lt, ↓z_le, ↓z_gt, ↓z_ge, ↓z_is_b, ↓z_is_n, ↓z_is_i, ↓z_is_t, ↓z_no_b, ↓z_no_n, ↓z_no_i, ↓z_no_t, ↓z_gadd, ↓z_gsub, ↓z_gmul, ↓z_gdiv, ↓z_gmod, ↓z_len_t, ↓z_len_l, ↓z_tuple, ↓z_list, ↓z_int_i, ↓z_int_b, ↓z_bool_i, ↓z_bool_b, ↓z_abs, ↓z_min2, ↓z_max2, ↓z_sum, ↓z_app, ↓z_pop, startD, seq_tup, ty_ii, ty_ib, ty_it, ty_bi, ty_bb, ty_bt, ty_tt, ty_ti, ty_tb, ty_n, ty_st, ty_si, tr_bl, tr_int, tr_non, set_slot, set_nil, set_cons, sets_nil, sets_cons, wipe_nil, wipe_cons, gv_0, sv_0, gv_1, sv_1, gv_2, sv_2, gv_3, sv_3, gv_4, sv_4, gv_5, sv_5, gv_6, sv_6, gv_7, sv_7, gv_8, sv_8, gv_9, sv_9, gv_10, sv_10, gv_11, sv_11, gv_12, sv_12, gv_13, sv_13, gv_14, sv_14, gv_15, sv_15, gv_16, sv_16, gv_17, sv_17, gv_18, sv_18, gv_19, sv_19, gv_20, sv_20, gv_21, sv_21, gv_22, sv_22, gv_23, sv_23, Option.bind_some, at0, at1, at2, at3, set0, set1, set2, set3, mr_app, mr_ext, mr_pop, eqv_int, seq_end, at_end, set_end, at_e1, set_e1, seq_e1, at_e2, set_e2, seq_e2, at_e3, set_e3, seq_e3, at_e4, set_e4, seq_e4, pure_int, pure_bl, pure_non, pure_str, pure_tup, pures_nil, pures_cons, mul_l, mul_r, it_tup, it_loc, zip_tup, fu_items, fu_live, fu_zip]
  refine ⟨by omega, lc_draw (w := 1) (fun y => ∃ x : Int, y = .int x ∧ 0 ≤ x ∧ x ≤ k - 1) F1.re (by omega) rfl (by simp) (by rw [rng_len]; omega) (fun y ⟨x, e, _⟩ => by subst e; rfl) ?_ ?_⟩
  · intro i d ν hd Fν S hS
    simp [↓z_some, ↓z_none, ↓z_ok, ↓z_exc, ↓z_bind, ↓z_wr, ↓z_ws, ↓z_ow, ↓z_nx, ↓z_rt, ↓z_br, ↓z_ct, ↓z_ex, ↓z_cons, ↓z_nil, ↓z_ret, ↓z_expr, ↓z_for, ↓z_par, ↓z_try0, ↓z_try1, ↓z_tests_nil, ↓z_var, ↓z_non, ↓z_bl, ↓z_int, ↓z_str, ↓z_gint, ↓z_bop, ↓z_neg, ↓z_not, ↓z_cmp, ↓z_cmp2, ↓z_and, ↓z_or, ↓z_ite, ↓z_tup, ↓z_lst, ↓z_ix, ↓z_slice, ↓z_o_nil, ↓z_o_cons, ↓z_sl_tup, ↓z_sl_loc, ↓z_call, ↓z_bi, ↓z_meth, ↓z_isin, ↓z_xfld, ↓z_xis, ↓z_es_nil, ↓z_es_cons, ↓z_i_seq, ↓z_i_rng1, ↓z_i_rng2, ↓z_i_zip, ↓z_lc, ↓z_lcF, ↓z_t_cons, ↓z_asg, ↓z_if, ↓z_raise, ↓z_forF, ↓z_aug, ↓z_asgS, ↓z_brk, ↓z_cnt, ↓z_pass, ↓z_ret0, ↓z_whl, ↓z_add, ↓z_sub, ↓z_mul, ↓z_div, ↓z_mod, ↓z_pow, ↓z_addt, ↓z_eq, ↓z_ne, ↓z_lt, ↓z_le, ↓z_gt, ↓z_ge, ↓z_is_b, ↓z_is_n, ↓z_is_i, ↓z_is_t, ↓z_no_b, ↓z_no_n, ↓z_no_i, ↓z_no_t, ↓z_gadd, ↓z_gsub, ↓z_gmul, ↓z_gdiv, ↓z_gmod, ↓z_len_t, ↓z_len_l, ↓z_tuple, ↓z_list, ↓z_int_i, ↓z_int_b, ↓z_bool_i, ↓z_bool_b, ↓z_abs, ↓z_min2, ↓z_max2, ↓z_sum, ↓z_app, ↓z_pop, startD, seq_tup, ty_ii, ty_ib, ty_it, ty_bi, ty_bb, ty_bt, ty_tt, ty_ti, ty_tb, ty_n, ty_st, ty_si, tr_bl, tr_int, tr_non, set_slot, set_nil, set_cons, sets_nil, sets_cons, wipe_nil, wipe_cons, gv_0, sv_0, gv_1, sv_1, gv_2, sv_2, gv_3, sv_3, gv_4, sv_4, gv_5, sv_5, gv_6, sv_6, gv_7, sv_7, gv_8, sv_8, gv_9, sv_9, gv_10, sv_10, gv_11, sv_11, gv_12, sv_12, gv_13, sv_13, gv_14, sv_14, gv_15, sv_15, gv_16, sv_16, gv_17, sv_17, gv_18, sv_18, gv_19, sv_19, gv_20, sv_20, gv_21, sv_21, gv_22, sv_22, gv_23, sv_23, Option.bind_some, at0, at1, at2, at3, set0, set1, set2, set3, mr_app, mr_ext, mr_pop, eqv_int, seq_end, at_end, set_end, at_e1, set_e1, seq_e1, at_e2, set_e2, seq_e2, at_e3, set_e3, seq_e3, at_e4, set_e4, seq_e4, pure_int, pure_bl, pure_non, pure_str, pure_tup, pures_nil, pures_cons, mul_l, mul_r, it_tup, it_loc, zip_tup, fu_items, fu_live, fu_zip]
    have hi := (List.getElem?_eq_some_iff.mp hd).1
    rw [rng_len] at hi
    exact take_fr Fν (by omega) ⟨hk.1, by omega⟩ fun x N' c' x0 x1 c2 c3 _ => hS _ _ _ ⟨x, rfl, x0, by omega⟩ c2 c3
  · intro ys N' c' hy ok c2 c3
    rw [rng_len] at c3 hy
    obtain ⟨r, er, hr⟩ := all_map ok
    subst er
    rw [List.length_map] at hy
    simp [↓z_some, ↓z_none, ↓z_ok, ↓z_exc, ↓z_bind, ↓z_wr, ↓z_ws, ↓z_ow, ↓z_nx, ↓z_rt, ↓z_br, ↓z_ct, ↓z_ex, ↓z_cons, ↓z_nil, ↓z_ret, ↓z_expr, ↓z_for, ↓z_par, ↓z_try0, ↓z_try1, ↓z_tests_nil, ↓z_var, ↓z_non, ↓z_bl, ↓z_int, ↓z_str, ↓z_gint, ↓z_bop, ↓z_neg, ↓z_not, ↓z_cmp, ↓z_cmp2, ↓z_and, ↓z_or, ↓z_ite, ↓z_tup, ↓z_lst, ↓z_ix, ↓z_slice, ↓z_o_nil, ↓z_o_cons, ↓z_sl_tup, ↓z_sl_loc, ↓z_call, ↓z_bi, ↓z_meth, ↓z_isin, ↓z_xfld, ↓z_xis, ↓z_es_nil, ↓z_es_cons, ↓z_i_seq, ↓z_i_rng1, ↓z_i_rng2, ↓z_i_zip, ↓z_lc, ↓z_lcF, ↓z_t_cons, ↓z_asg, ↓z_if, ↓z_raise, ↓z_forF, ↓z_aug, ↓z_asgS, ↓z_brk, ↓z_cnt, ↓z_pass, ↓z_ret0, ↓z_whl, ↓z_add, ↓z_sub, ↓z_mul, ↓z_div, ↓z_mod, ↓z_pow, ↓z_addt, ↓z_eq, ↓z_ne, ↓z_lt, ↓z_le, ↓z_gt, ↓z_ge, ↓z_is_b, ↓z_is_n, ↓z_is_i, ↓z_is_t, ↓z_no_b, ↓z_no_n, ↓z_no_i, ↓z_no_t, ↓z_gadd, ↓z_gsub, ↓z_gmul, ↓z_gdiv, ↓z_gmod, ↓z_len_t, ↓z_len_l, ↓z_tuple, ↓z_list, ↓z_int_i, ↓z_int_b, ↓z_bool_i, ↓z_bool_b, ↓z_abs, ↓z_min2, ↓z_max2, ↓z_sum, ↓z_app, ↓z_pop, startD, seq_tup, ty_ii, ty_ib, ty_it, ty_bi, ty_bb, ty_bt, ty_tt, ty_ti, ty_tb, ty_n, ty_st, ty_si, tr_bl, tr_int, tr_non, set_slot, set_nil, set_cons, sets_nil, sets_cons, wipe_nil, wipe_cons, gv_0, sv_0, gv_1, sv_1, gv_2, sv_2, gv_3, sv_3, gv_4, sv_4, gv_5, sv_5, gv_6, sv_6, gv_7, sv_7, gv_8, sv_8, gv_9, sv_9, gv_10, sv_10, gv_11, sv_11, gv_12, sv_12, gv_13, sv_13, gv_14, sv_14, gv_15, sv_15, gv_16, sv_16, gv_17, sv_17, gv_18, sv_18, gv_19, sv_19, gv_20, sv_20, gv_21, sv_21, gv_22, sv_22, gv_23, sv_23, Option.bind_some, at0, at1, at2, at3, set0, set1, set2, set3, mr_app, mr_ext, mr_pop, eqv_int, seq_end, at_end, set_end, at_e1, set_e1, seq_e1, at_e2, set_e2, seq_e2, at_e3, set_e3, seq_e3, at_e4, set_e4, seq_e4, pure_int, pure_bl, pure_non, pure_str, pure_tup, pures_nil, pures_cons, mul_l, mul_r, it_tup, it_loc, zip_tup, fu_items, fu_live, fu_zip, take_draw, pures_ints]
    exact ⟨(F.pu.bag _ _ _ _ _).push (pures_ints r), hQ r N' c' (by omega) hr c2 (by omega) (F.setb c2 (by omega))⟩
/-- a drawn lot -/
theorem lot_wp {n : Nat} {μ0 μ : Mem} {b : Nat} {g s C k many long : Int} {Q : D → Mem → Prop} {E : Exn → Mem → Prop} (F : Fr b g s C μ0 μ) (hC : C < 100000) (hk : 1 ≤ k ∧ k < 1000) (hm : 0 ≤ many ∧ many < 100) (hl : 0 ≤ long ∧ long < 999)
    (hQ : ∀ l N' c', (l.length : Int) = many → (∀ r ∈ l, (r.length : Int) ≤ long ∧ ∀ x ∈ r, 0 ≤ x ∧ x ≤ k - 1) → 0 ≤ c' → c' ≤ C + many * 1000 → Fr b g s (C + many * 1000) μ0 (μ.set b (bagO N' g s c')) → Q (eL l) (μ.set b (bagO N' g s c'))) : WR Q E (call (n + 3) 24 [.loc b, .int k, .int many, .int long] μ) := by
  refine pw (d := m__law_lot) rfl rfl ?_
  have hlt : b < μ.length := F.lt
  have F0 : Fr b g s C μ μ := F.re
  simp [↓z_some, ↓z_none, ↓z_ok, ↓z_exc, ↓z_bind, ↓z_wr, ↓z_ws, ↓z_ow, ↓z_nx, ↓z_rt, ↓z_br, ↓z_ct, ↓z_ex, ↓z_cons, ↓z_nil, ↓z_ret, ↓z_expr, ↓z_for, ↓z_par, ↓z_try0, ↓z_try1, ↓z_tests_nil, ↓z_var, ↓z_non, ↓z_bl, ↓z_int, ↓z_str, ↓z_gint, ↓z_bop, ↓z_neg, ↓z_not, ↓z_cmp, ↓z_cmp2, ↓z_and, ↓z_or, ↓z_ite, ↓z_tup, ↓z_lst, ↓z_ix, ↓z_slice, ↓z_o_nil, ↓z_o_cons, ↓z_sl_tup, ↓z_sl_loc, ↓z_call, ↓z_bi, ↓z_meth, ↓z_isin, ↓z_xfld, ↓z_xis, ↓z_es_nil, ↓z_es_cons, ↓z_i_seq, ↓z_i_rng1, ↓z_i_rng2, ↓z_i_zip, ↓z_lc, ↓z_lcF, ↓z_t_cons, ↓z_asg, ↓z_if, ↓z_raise, ↓z_forF, ↓z_aug, ↓z_asgS, ↓z_brk, ↓z_cnt, ↓z_pass, ↓z_ret0, ↓z_whl, ↓z_add, ↓z_sub, ↓z_mul, ↓z_div, ↓z_mod, ↓z_pow, ↓z_addt, ↓z_eq, ↓z_ne, ↓z_lt, ↓z_le, ↓z_gt, ↓z_ge, ↓z_is_b, ↓z_is_n, ↓z_is_i, ↓z_is_t, ↓z_no_b, ↓z_no_n, ↓z_no_i, ↓z_no_t, ↓z_gadd, ↓z_gsub, ↓z_gmul, ↓z_gdiv, ↓z_gmod, ↓z_len_t, ↓z_len_l, ↓z_tuple, ↓z_list, ↓z_int_i, ↓z_int_b, ↓z_bool_i, ↓z_bool_b, ↓z_abs, ↓z_min2, ↓z_max2, ↓z_sum, ↓z_app, ↓z_pop, startD, seq_tup, ty_ii, ty_ib, ty_it, ty_bi, ty_bb, ty_bt, ty_tt, ty_ti, ty_tb, ty_n, ty_st, ty_si, tr_bl, tr_int, tr_non, set_slot, set_nil, set_cons, sets_nil, sets_cons, wipe_nil, wipe_cons, gv_0, sv_0, gv_1, sv_1, gv_2, sv_2, gv_3, sv_3, gv_4, sv_4, gv_5, sv_5, gv_6, sv_6, gv_7, sv_7, gv_8, sv_8, gv_9, sv_9, gv_10, sv_10, gv_11, sv_11, gv_12, sv_12, gv_13, sv_13, gv_14, sv_14, gv_15, sv_15, gv_16, sv_16, gv_17, sv_17, gv_18, sv_18, gv_19, sv_19, gv_20, sv_20, gv_21, sv_21, gv_22, sv_22, gv_23, sv_23, Option.bind_some, at0, at1, at2, at3, set0, set1, set2, set3, mr_app, mr_ext, mr_pop, eqv_int, seq_end, at_end, set_end, at_e1, set_e1, seq_e1, at_e2, set_e2, seq_e2, at_e3, set_e3, seq_e3, at_e4, set_e4, seq_e4, pure_int, pure_bl, pure_non, pure_str, pure_tup, pures_nil, pures_cons, mul_l, mul_r, it_tup, it_loc, zip_tup, fu_items, fu_live, fu_zip, m__law_lot]
  refine ⟨by omega, lc_draw (w := 1000) (fun y => ∃ r : List Int, y = eR r ∧ (r.length : Int) ≤ long ∧ ∀ x ∈ r, 0 ≤ x ∧ x ≤ k - 1) F0 (by omega) rfl (by simp) (by rw [rng_len]; omega) (fun y ⟨x, e, _⟩ => by subst e; exact pure_eR _) ?_ ?_⟩
  · intro i d ν hd Fν S hS
    simp [↓z_some, ↓z_none, ↓z_ok, ↓z_exc, ↓z_bind, ↓z_wr, ↓z_ws, ↓z_ow, ↓z_nx, ↓z_rt, ↓z_br, ↓z_ct, ↓z_ex, ↓z_cons, ↓z_nil, ↓z_ret, ↓z_expr, ↓z_for, ↓z_par, ↓z_try0, ↓z_try1, ↓z_tests_nil, ↓z_var, ↓z_non, ↓z_bl, ↓z_int, ↓z_str, ↓z_gint, ↓z_bop, ↓z_neg, ↓z_not, ↓z_cmp, ↓z_cmp2, ↓z_and, ↓z_or, ↓z_ite, ↓z_tup, ↓z_lst, ↓z_ix, ↓z_slice, ↓z_o_nil, ↓z_o_cons, ↓z_sl_tup, ↓z_sl_loc, ↓z_call, ↓z_bi, ↓z_meth, ↓z_isin, ↓z_xfld, ↓z_xis, ↓z_es_nil, ↓z_es_cons, ↓z_i_seq, ↓z_i_rng1, ↓z_i_rng2, ↓z_i_zip, ↓z_lc, ↓z_lcF, ↓z_t_cons, ↓z_asg, ↓z_if, ↓z_raise, ↓z_forF, ↓z_aug, ↓z_asgS, ↓z_brk, ↓z_cnt, ↓z_pass, ↓z_ret0, ↓z_whl, ↓z_add, ↓z_sub, ↓z_mul, ↓z_div, ↓z_mod, ↓z_pow, ↓z_addt, ↓z_eq, ↓z_ne, ↓z_lt, ↓z_le, ↓z_gt, ↓z_ge, ↓z_is_b, ↓z_is_n, ↓z_is_i, ↓z_is_t, ↓z_no_b, ↓z_no_n, ↓z_no_i, ↓z_no_t, ↓z_gadd, ↓z_gsub, ↓z_gmul, ↓z_gdiv, ↓z_gmod, ↓z_len_t, ↓z_len_l, ↓z_tuple, ↓z_list, ↓z_int_i, ↓z_int_b, ↓z_bool_i, ↓z_bool_b, ↓z_abs, ↓z_min2, ↓z_max2, ↓z_sum, ↓z_app, ↓z_pop, startD, seq_tup, ty_ii, ty_ib, ty_it, ty_bi, ty_bb, ty_bt, ty_tt, ty_ti, ty_tb, ty_n, ty_st, ty_si, tr_bl, tr_int, tr_non, set_slot, set_nil, set_cons, sets_nil, sets_cons, wipe_nil, wipe_cons, gv_0, sv_0, gv_1, sv_1, gv_2, sv_2, gv_3, sv_3, gv_4, sv_4, gv_5, sv_5, gv_6, sv_6, gv_7, sv_7, gv_8, sv_8, gv_9, sv_9, gv_10, sv_10, gv_11, sv_11, gv_12, sv_12, gv_13, sv_13, gv_14, sv_14, gv_15, sv_15, gv_16, sv_16, gv_17, sv_17, gv_18, sv_18, gv_19, sv_19, gv_20, sv_20, gv_21, sv_21, gv_22, sv_22, gv_23, sv_23, Option.bind_some, at0, at1, at2, at3, set0, set1, set2, set3, mr_app, mr_ext, mr_pop, eqv_int, seq_end, at_end, set_end, at_e1, set_e1, seq_e1, at_e2, set_e2, seq_e2, at_e3, set_e3, seq_e3, at_e4, set_e4, seq_e4, pure_int, pure_bl, pure_non, pure_str, pure_tup, pures_nil, pures_cons, mul_l, mul_r, it_tup, it_loc, zip_tup, fu_items, fu_live, fu_zip]
    have hi := (List.getElem?_eq_some_iff.mp hd).1
    rw [rng_len] at hi
    exact row_wp Fν (by omega) hk (by omega) fun r N' c' r0 r1 c2 c3 _ => hS _ _ _ ⟨r, rfl, r0, r1⟩ c2 (by omega)
  · intro ys N' c' hy ok c2 c3
    rw [rng_len] at c3 hy
    obtain ⟨l, el, hl'⟩ := all_map ok
    subst el
    rw [List.length_map] at hy
    simp [↓z_some, ↓z_none, ↓z_ok, ↓z_exc, ↓z_bind, ↓z_wr, ↓z_ws, ↓z_ow, ↓z_nx, ↓z_rt, ↓z_br, ↓z_ct, ↓z_ex, ↓z_cons, ↓z_nil, ↓z_ret, ↓z_expr, ↓z_for, ↓z_par, ↓z_try0, ↓z_try1, ↓z_tests_nil, ↓z_var, ↓z_non, ↓z_bl, ↓z_int, ↓z_str, ↓z_gint, ↓z_bop, ↓z_neg, ↓z_not, ↓z_cmp, ↓z_cmp2, ↓z_and, ↓z_or, ↓z_ite, ↓z_tup, ↓z_lst, ↓z_ix, ↓z_slice, ↓z_o_nil, ↓z_o_cons, ↓z_sl_tup, ↓z_sl_loc, ↓z_call, ↓z_bi, ↓z_meth, ↓z_isin, ↓z_xfld, ↓z_xis, ↓z_es_nil, ↓z_es_cons, ↓z_i_seq, ↓z_i_rng1, ↓z_i_rng2, ↓z_i_zip, ↓z_lc, ↓z_lcF, ↓z_t_cons, ↓z_asg, ↓z_if, ↓z_raise, ↓z_forF, ↓z_aug, ↓z_asgS, ↓z_brk, ↓z_cnt, ↓z_pass, ↓z_ret0, ↓z_whl, ↓z_add, ↓z_sub, ↓z_mul, ↓z_div, ↓z_mod, ↓z_pow, ↓z_addt, ↓z_eq, ↓z_ne, ↓z_lt, ↓z_le, ↓z_gt, ↓z_ge, ↓z_is_b, ↓z_is_n, ↓z_is_i, ↓z_is_t, ↓z_no_b, ↓z_no_n, ↓z_no_i, ↓z_no_t, ↓z_gadd, ↓z_gsub, ↓z_gmul, ↓z_gdiv, ↓z_gmod, ↓z_len_t, ↓z_len_l, ↓z_tuple, ↓z_list, ↓z_int_i, ↓z_int_b, ↓z_bool_i, ↓z_bool_b, ↓z_abs, ↓z_min2, ↓z_max2, ↓z_sum, ↓z_app, ↓z_pop, startD, seq_tup, ty_ii, ty_ib, ty_it, ty_bi, ty_bb, ty_bt, ty_tt, ty_ti, ty_tb, ty_n, ty_st, ty_si, tr_bl, tr_int, tr_non, set_slot, set_nil, set_cons, sets_nil, sets_cons, wipe_nil, wipe_cons, gv_0, sv_0, gv_1, sv_1, gv_2, sv_2, gv_3, sv_3, gv_4, sv_4, gv_5, sv_5, gv_6, sv_6, gv_7, sv_7, gv_8, sv_8, gv_9, sv_9, gv_10, sv_10, gv_11, sv_11, gv_12, sv_12, gv_13, sv_13, gv_14, sv_14, gv_15, sv_15, gv_16, sv_16, gv_17, sv_17, gv_18, sv_18, gv_19, sv_19, gv_20, sv_20, gv_21, sv_21, gv_22, sv_22, gv_23, sv_23, Option.bind_some, at0, at1, at2, at3, set0, set1, set2, set3, mr_app, mr_ext, mr_pop, eqv_int, seq_end, at_end, set_end, at_e1, set_e1, seq_e1, at_e2, set_e2, seq_e2, at_e3, set_e3, seq_e3, at_e4, set_e4, seq_e4, pure_int, pure_bl, pure_non, pure_str, pure_tup, pures_nil, pures_cons, mul_l, mul_r, it_tup, it_loc, zip_tup, fu_items, fu_live, fu_zip, take_draw, pures_map pure_eR]
    refine ⟨(F.pu.bag _ _ _ _ _).push (pures_map pure_eR _), ?_⟩
    exact hQ l N' c' (by omega) hl' c2 (by omega) (F.setb c2 (by omega))
/-- a drawn machine -/
theorem machine_wp {n : Nat} {μ0 μ : Mem} {b : Nat} {g s C st k gv : Int} {Q : D → Mem → Prop} {E : Exn → Mem → Prop} (F : Fr b g s C μ0 μ) (hC : C < 100000) (hk : 1 ≤ k ∧ k < 1000) (hs : 1 ≤ st ∧ st < 100) (hg : 1 ≤ gv ∧ gv < 1000)
    (hQ : ∀ (M : List (List Cell)) N' c', (M.length : Int) = st → (∀ r ∈ M, (r.length : Int) = k ∧ ∀ x ∈ r, (0 ≤ x.1 ∧ x.1 ≤ gv - 1) ∧ 0 ≤ x.2 ∧ x.2 ≤ st - 1) → 0 ≤ c' → c' ≤ C + st * 2000 → Fr b g s (C + st * 2000) μ0 (μ.set b (bagO N' g s c')) → Q (eM M) (μ.set b (bagO N' g s c'))) : WR Q E (call (n + 2) 22 [.loc b, .int st, .int k, .int gv] μ) := by
  refine pw (d := m__law_machine) rfl rfl ?_
  have hlt : b < μ.length := F.lt
  have F0 : Fr b g s C μ μ := F.re
  simp [↓z_some, ↓z_none, ↓z_ok, ↓z_exc, ↓z_bind, ↓z_wr, ↓z_ws, ↓z_ow, ↓z_nx, ↓z_rt, ↓z_br, ↓z_ct, ↓z_ex, ↓z_cons, ↓z_nil, ↓z_ret, ↓z_expr, ↓z_for, ↓z_par, ↓z_try0, ↓z_try1, ↓z_tests_nil, ↓z_var, ↓z_non, ↓z_bl, ↓z_int, ↓z_str, ↓z_gint, ↓z_bop, ↓z_neg, ↓z_not, ↓z_cmp, ↓z_cmp2, ↓z_and, ↓z_or, ↓z_ite, ↓z_tup, ↓z_lst, ↓z_ix, ↓z_slice, ↓z_o_nil, ↓z_o_cons, ↓z_sl_tup, ↓z_sl_loc, ↓z_call, ↓z_bi, ↓z_meth, ↓z_isin, ↓z_xfld, ↓z_xis, ↓z_es_nil, ↓z_es_cons, ↓z_i_seq, ↓z_i_rng1, ↓z_i_rng2, ↓z_i_zip, ↓z_lc, ↓z_lcF, ↓z_t_cons, ↓z_asg, ↓z_if, ↓z_raise, ↓z_forF, ↓z_aug, ↓z_asgS, ↓z_brk, ↓z_cnt, ↓z_pass, ↓z_ret0, ↓z_whl, ↓z_add, ↓z_sub, ↓z_mul, ↓z_div, ↓z_mod, ↓z_pow, ↓z_addt, ↓z_eq, ↓z_ne, ↓z_lt, ↓z_le, ↓z_gt, ↓z_ge, ↓z_is_b, ↓z_is_n, ↓z_is_i, ↓z_is_t, ↓z_no_b, ↓z_no_n, ↓z_no_i, ↓z_no_t, ↓z_gadd, ↓z_gsub, ↓z_gmul, ↓z_gdiv, ↓z_gmod, ↓z_len_t, ↓z_len_l, ↓z_tuple, ↓z_list, ↓z_int_i, ↓z_int_b, ↓z_bool_i, ↓z_bool_b, ↓z_abs, ↓z_min2, ↓z_max2, ↓z_sum, ↓z_app, ↓z_pop, startD, seq_tup, ty_ii, ty_ib, ty_it, ty_bi, ty_bb, ty_bt, ty_tt, ty_ti, ty_tb, ty_n, ty_st, ty_si, tr_bl, tr_int, tr_non, set_slot, set_nil, set_cons, sets_nil, sets_cons, wipe_nil, wipe_cons, gv_0, sv_0, gv_1, sv_1, gv_2, sv_2, gv_3, sv_3, gv_4, sv_4, gv_5, sv_5, gv_6, sv_6, gv_7, sv_7, gv_8, sv_8, gv_9, sv_9, gv_10, sv_10, gv_11, sv_11, gv_12, sv_12, gv_13, sv_13, gv_14, sv_14, gv_15, sv_15, gv_16, sv_16, gv_17, sv_17, gv_18, sv_18, gv_19, sv_19, gv_20, sv_20, gv_21, sv_21, gv_22, sv_22, gv_23, sv_23, Option.bind_some, at0, at1, at2, at3, set0, set1, set2, set3, mr_app, mr_ext, mr_pop, eqv_int, seq_end, at_end, set_end, at_e1, set_e1, seq_e1, at_e2, set_e2, seq_e2, at_e3, set_e3, seq_e3, at_e4, set_e4, seq_e4, pure_int, pure_bl, pure_non, pure_str, pure_tup, pures_nil, pures_cons, mul_l, mul_r, it_tup, it_loc, zip_tup, fu_items, fu_live, fu_zip, m__law_machine]
  refine ⟨by omega, ?_⟩
  refine for_rule (it := .items (rngD 0 st)) (fun i env μ1 => ∃ M : List (List Cell), ∃ a1 a2 a3, env = [some (.loc b), some (.int st), some (.int k), some (.int gv), some (.loc μ.length), a1, a2, a3] ∧ Fr b g s (C + i * 2000) μ μ1 ∧ μ1[μ.length]? = some (.lst (M.map eS)) ∧ M.length = i ∧ ∀ r ∈ M, (r.length : Int) = k ∧ ∀ x ∈ r, (0 ≤ x.1 ∧ x.1 ≤ gv - 1) ∧ 0 ≤ x.2 ∧ x.2 ≤ st - 1)
    (fun _ _ _ _ => rfl) rfl ⟨[], _, _, _, rfl, by simpa using F0.push rfl, by simp, rfl, fun _ h => absurd h List.not_mem_nil⟩ ?_ ?_
  · rintro i d env μ1 hd ⟨M, a1, a2, a3, rfl, F1, hM, hl, ok⟩
    obtain ⟨rfl, hi⟩ := rngD_at hd
    have hlt1 := F1.lt
    obtain ⟨N1, c1, z1, h10, h11⟩ := F1.bag
    have hL : μ.length < μ1.length := (List.getElem?_eq_some_iff.mp hM).1
    simp [↓z_some, ↓z_none, ↓z_ok, ↓z_exc, ↓z_bind, ↓z_wr, ↓z_ws, ↓z_ow, ↓z_nx, ↓z_rt, ↓z_br, ↓z_ct, ↓z_ex, ↓z_cons, ↓z_nil, ↓z_ret, ↓z_expr, ↓z_for, ↓z_par, ↓z_try0, ↓z_try1, ↓z_tests_nil, ↓z_var, ↓z_non, ↓z_bl, ↓z_int, ↓z_str, ↓z_gint, ↓z_bop, ↓z_neg, ↓z_not, ↓z_cmp, ↓z_cmp2, ↓z_and, ↓z_or, ↓z_ite, ↓z_tup, ↓z_lst, ↓z_ix, ↓z_slice, ↓z_o_nil, ↓z_o_cons, ↓z_sl_tup, ↓z_sl_loc, ↓z_call, ↓z_bi, ↓z_meth, ↓z_isin, ↓z_xfld, ↓z_xis, ↓z_es_nil, ↓z_es_cons, ↓z_i_seq, ↓z_i_rng1, ↓z_i_rng2, ↓z_i_zip, ↓z_lc, ↓z_lcF, ↓z_t_cons, ↓z_asg, ↓z_if, ↓z_raise, ↓z_forF, ↓z_aug, ↓z_asgS, ↓z_brk, ↓z_cnt, ↓z_pass, ↓z_ret0, ↓z_whl, ↓z_add, ↓z_sub, ↓z_mul, ↓z_div, ↓z_mod, ↓z_pow, ↓z_addt, ↓z_eq, ↓z_ne, ↓z_lt, ↓z_le, ↓z_gt, ↓z_ge, ↓z_is_b, ↓z_is_n, ↓z_is_i, ↓z_is_t, ↓z_no_b, ↓z_no_n, ↓z_no_i, ↓z_no_t, ↓z_gadd, ↓z_gsub, ↓z_gmul, ↓z_gdiv, ↓z_gmod, ↓z_len_t, ↓z_len_l, ↓z_tuple, ↓z_list, ↓z_int_i, ↓z_int_b, ↓z_bool_i, ↓z_bool_b, ↓z_abs, ↓z_min2, ↓z_max2, ↓z_sum, ↓z_app, ↓z_pop, startD, seq_tup, ty_ii, ty_ib, ty_it, ty_bi, ty_bb, ty_bt, ty_tt, ty_ti, ty_tb, ty_n, ty_st, ty_si, tr_bl, tr_int, tr_non, set_slot, set_nil, set_cons, sets_nil, sets_cons, wipe_nil, wipe_cons, gv_0, sv_0, gv_1, sv_1, gv_2, sv_2, gv_3, sv_3, gv_4, sv_4, gv_5, sv_5, gv_6, sv_6, gv_7, sv_7, gv_8, sv_8, gv_9, sv_9, gv_10, sv_10, gv_11, sv_11, gv_12, sv_12, gv_13, sv_13, gv_14, sv_14, gv_15, sv_15, gv_16, sv_16, gv_17, sv_17, gv_18, sv_18, gv_19, sv_19, gv_20, sv_20, gv_21, sv_21, gv_22, sv_22, gv_23, sv_23, Option.bind_some, at0, at1, at2, at3, set0, set1, set2, set3, mr_app, mr_ext, mr_pop, eqv_int, seq_end, at_end, set_end, at_e1, set_e1, seq_e1, at_e2, set_e2, seq_e2, at_e3, set_e3, seq_e3, at_e4, set_e4, seq_e4, pure_int, pure_bl, pure_non, pure_str, pure_tup, pures_nil, pures_cons, mul_l, mul_r, it_tup, it_loc, zip_tup, fu_items, fu_live, fu_zip]
    refine ⟨by omega, ?_⟩
    refine for_rule (it := .items (rngD 0 k)) (fun j env μ2 => ∃ cs : List Cell, ∃ a4 N c, env = [some (.loc b), some (.int st), some (.int k), some (.int gv), some (.loc μ.length), some (.int i), some (.loc μ1.length), a4] ∧ μ2 = μ1.set b (bagO N g s c) ++ [MO.lst (cs.map eC)] ∧ 0 ≤ c ∧ c ≤ C + i * 2000 + j * 2 ∧ cs.length = j ∧ ∀ x ∈ cs, (0 ≤ x.1 ∧ x.1 ≤ gv - 1) ∧ 0 ≤ x.2 ∧ x.2 ≤ st - 1)
      (fun _ _ _ _ => rfl) rfl ⟨[], _, N1, c1, rfl, by rw [set_same z1]; rfl, h10, by omega, rfl, fun _ h => absurd h List.not_mem_nil⟩ ?_ ?_
    · rintro j d env μ2 hd ⟨cs, a4, N, c, rfl, rfl, h20, h21, hcl, okc⟩
      obtain ⟨rfl, hj⟩ := rngD_at hd
      have F2 : Fr b g s (C + i * 2000 + j * 2) (μ1.set b (bagO N g s c) ++ [MO.lst (cs.map eC)]) (μ1.set b (bagO N g s c) ++ [MO.lst (cs.map eC)]) := ((F1.setb h20 h21).push (pures_map pure_eC cs)).re
      simp [↓z_some, ↓z_none, ↓z_ok, ↓z_exc, ↓z_bind, ↓z_wr, ↓z_ws, ↓z_ow, ↓z_nx, ↓z_rt, ↓z_br, ↓z_ct, ↓z_ex, ↓z_cons, ↓z_nil, ↓z_ret, ↓z_expr, ↓z_for, ↓z_par, ↓z_try0, ↓z_try1, ↓z_tests_nil, ↓z_var, ↓z_non, ↓z_bl, ↓z_int, ↓z_str, ↓z_gint, ↓z_bop, ↓z_neg, ↓z_not, ↓z_cmp, ↓z_cmp2, ↓z_and, ↓z_or, ↓z_ite, ↓z_tup, ↓z_lst, ↓z_ix, ↓z_slice, ↓z_o_nil, ↓z_o_cons, ↓z_sl_tup, ↓z_sl_loc, ↓z_call, ↓z_bi, ↓z_meth, ↓z_isin, ↓z_xfld, ↓z_xis, ↓z_es_nil, ↓z_es_cons, ↓z_i_seq, ↓z_i_rng1, ↓z_i_rng2, ↓z_i_zip, ↓z_lc, ↓z_lcF, ↓z_t_cons, ↓z_asg, ↓z_if, ↓z_raise, ↓z_forF, ↓z_aug, ↓z_asgS, ↓z_brk, ↓z_cnt, ↓z_pass, ↓z_ret0, ↓z_whl, ↓z_add, ↓z_sub, ↓z_mul, ↓z_div, ↓z_mod, ↓z_pow, ↓z_addt, ↓z_eq, ↓z_ne, ↓z_lt, ↓z_le, ↓z_gt, ↓z_ge, ↓z_is_b, ↓z_is_n, ↓z_is_i, ↓z_is_t, ↓z_no_b, ↓z_no_n, ↓z_no_i, ↓z_no_t, ↓z_gadd, ↓z_gsub, ↓z_gmul, ↓z_gdiv, ↓z_gmod, ↓z_len_t, ↓z_len_l, ↓z_tuple, ↓z_list, ↓z_int_i, ↓z_int_b, ↓z_bool_i, ↓z_bool_b, ↓z_abs, ↓z_min2, ↓z_max2, ↓z_sum, ↓z_app, ↓z_pop, startD, seq_tup, ty_ii, ty_ib, ty_it, ty_bi, ty_bb, ty_bt, ty_tt, ty_ti, ty_tb, ty_n, ty_st, ty_si, tr_bl, tr_int, tr_non, set_slot, set_nil, set_cons, sets_nil, sets_cons, wipe_nil, wipe_cons, gv_0, sv_0, gv_1, sv_1, gv_2, sv_2, gv_3, sv_3, gv_4, sv_4, gv_5, sv_5, gv_6, sv_6, gv_7, sv_7, gv_8, sv_8, gv_9, sv_9, gv_10, sv_10, gv_11, sv_11, gv_12, sv_12, gv_13, sv_13, gv_14, sv_14, gv_15, sv_15, gv_16, sv_16, gv_17, sv_17, gv_18, sv_18, gv_19, sv_19, gv_20, sv_20, gv_21, sv_21, gv_22, sv_22, gv_23, sv_23, Option.bind_some, at0, at1, at2, at3, set0, set1, set2, set3, mr_app, mr_ext, mr_pop, eqv_int, seq_end, at_end, set_end, at_e1, set_e1, seq_e1, at_e2, set_e2, seq_e2, at_e3, set_e3, seq_e3, at_e4, set_e4, seq_e4, pure_int, pure_bl, pure_non, pure_str, pure_tup, pures_nil, pures_cons, mul_l, mul_r, it_tup, it_loc, zip_tup, fu_items, fu_live, fu_zip]
      refine take_fr F2 (by omega) ⟨hg.1, by omega⟩ fun x1 N3 c3 p1 p2 p3 p4 F3 => ?_
      simp [↓z_some, ↓z_none, ↓z_ok, ↓z_exc, ↓z_bind, ↓z_wr, ↓z_ws, ↓z_ow, ↓z_nx, ↓z_rt, ↓z_br, ↓z_ct, ↓z_ex, ↓z_cons, ↓z_nil, ↓z_ret, ↓z_expr, ↓z_for, ↓z_par, ↓z_try0, ↓z_try1, ↓z_tests_nil, ↓z_var, ↓z_non, ↓z_bl, ↓z_int, ↓z_str, ↓z_gint, ↓z_bop, ↓z_neg, ↓z_not, ↓z_cmp, ↓z_cmp2, ↓z_and, ↓z_or, ↓z_ite, ↓z_tup, ↓z_lst, ↓z_ix, ↓z_slice, ↓z_o_nil, ↓z_o_cons, ↓z_sl_tup, ↓z_sl_loc, ↓z_call, ↓z_bi, ↓z_meth, ↓z_isin, ↓z_xfld, ↓z_xis, ↓z_es_nil, ↓z_es_cons, ↓z_i_seq, ↓z_i_rng1, ↓z_i_rng2, ↓z_i_zip, ↓z_lc, ↓z_lcF, ↓z_t_cons, ↓z_asg, ↓z_if, ↓z_raise, ↓z_forF, ↓z_aug, ↓z_asgS, ↓z_brk, ↓z_cnt, ↓z_pass, ↓z_ret0, ↓z_whl, ↓z_add, ↓z_sub, ↓z_mul, ↓z_div, ↓z_mod, ↓z_pow, ↓z_addt, ↓z_eq, ↓z_ne, ↓z_lt, ↓z_le, ↓z_gt, ↓z_ge, ↓z_is_b, ↓z_is_n, ↓z_is_i, ↓z_is_t, ↓z_no_b, ↓z_no_n, ↓z_no_i, ↓z_no_t, ↓z_gadd, ↓z_gsub, ↓z_gmul, ↓z_gdiv, ↓z_gmod, ↓z_len_t, ↓z_len_l, ↓z_tuple, ↓z_list, ↓z_int_i, ↓z_int_b, ↓z_bool_i, ↓z_bool_b, ↓z_abs, ↓z_min2, ↓z_max2, ↓z_sum, ↓z_app, ↓z_pop, startD, seq_tup, ty_ii, ty_ib, ty_it, ty_bi, ty_bb, ty_bt, ty_tt, ty_ti, ty_tb, ty_n, ty_st, ty_si, tr_bl, tr_int, tr_non, set_slot, set_nil, set_cons, sets_nil, sets_cons, wipe_nil, wipe_cons, gv_0, sv_0, gv_1, sv_1, gv_2, sv_2, gv_3, sv_3, gv_4, sv_4, gv_5, sv_5, gv_6, sv_6, gv_7, sv_7, gv_8, sv_8, gv_9, sv_9, gv_10, sv_10, gv_11, sv_11, gv_12, sv_12, gv_13, sv_13, gv_14, sv_14, gv_15, sv_15, gv_16, sv_16, gv_17, sv_17, gv_18, sv_18, gv_19, sv_19, gv_20, sv_20, gv_21, sv_21, gv_22, sv_22, gv_23, sv_23, Option.bind_some, at0, at1, at2, at3, set0, set1, set2, set3, mr_app, mr_ext, mr_pop, eqv_int, seq_end, at_end, set_end, at_e1, set_e1, seq_e1, at_e2, set_e2, seq_e2, at_e3, set_e3, seq_e3, at_e4, set_e4, seq_e4, pure_int, pure_bl, pure_non, pure_str, pure_tup, pures_nil, pures_cons, mul_l, mul_r, it_tup, it_loc, zip_tup, fu_items, fu_live, fu_zip]
      refine take_fr F3.re (by omega) ⟨hs.1, by omega⟩ fun x2 N4 c4 q1 q2 q3 q4 F4 => ?_
      simp [↓z_some, ↓z_none, ↓z_ok, ↓z_exc, ↓z_bind, ↓z_wr, ↓z_ws, ↓z_ow, ↓z_nx, ↓z_rt, ↓z_br, ↓z_ct, ↓z_ex, ↓z_cons, ↓z_nil, ↓z_ret, ↓z_expr, ↓z_for, ↓z_par, ↓z_try0, ↓z_try1, ↓z_tests_nil, ↓z_var, ↓z_non, ↓z_bl, ↓z_int, ↓z_str, ↓z_gint, ↓z_bop, ↓z_neg, ↓z_not, ↓z_cmp, ↓z_cmp2, ↓z_and, ↓z_or, ↓z_ite, ↓z_tup, ↓z_lst, ↓z_ix, ↓z_slice, ↓z_o_nil, ↓z_o_cons, ↓z_sl_tup, ↓z_sl_loc, ↓z_call, ↓z_bi, ↓z_meth, ↓z_isin, ↓z_xfld, ↓z_xis, ↓z_es_nil, ↓z_es_cons, ↓z_i_seq, ↓z_i_rng1, ↓z_i_rng2, ↓z_i_zip, ↓z_lc, ↓z_lcF, ↓z_t_cons, ↓z_asg, ↓z_if, ↓z_raise, ↓z_forF, ↓z_aug, ↓z_asgS, ↓z_brk, ↓z_cnt, ↓z_pass, ↓z_ret0, ↓z_whl, ↓z_add, ↓z_sub, ↓z_mul, ↓z_div, ↓z_mod, ↓z_pow, ↓z_addt, ↓z_eq, ↓z_ne, ↓z_lt, ↓z_le, ↓z_gt, ↓z_ge, ↓z_is_b, ↓z_is_n, ↓z_is_i, ↓z_is_t, ↓z_no_b, ↓z_no_n, ↓z_no_i, ↓z_no_t, ↓z_gadd, ↓z_gsub, ↓z_gmul, ↓z_gdiv, ↓z_gmod, ↓z_len_t, ↓z_len_l, ↓z_tuple, ↓z_list, ↓z_int_i, ↓z_int_b, ↓z_bool_i, ↓z_bool_b, ↓z_abs, ↓z_min2, ↓z_max2, ↓z_sum, ↓z_app, ↓z_pop, startD, seq_tup, ty_ii, ty_ib, ty_it, ty_bi, ty_bb, ty_bt, ty_tt, ty_ti, ty_tb, ty_n, ty_st, ty_si, tr_bl, tr_int, tr_non, set_slot, set_nil, set_cons, sets_nil, sets_cons, wipe_nil, wipe_cons, gv_0, sv_0, gv_1, sv_1, gv_2, sv_2, gv_3, sv_3, gv_4, sv_4, gv_5, sv_5, gv_6, sv_6, gv_7, sv_7, gv_8, sv_8, gv_9, sv_9, gv_10, sv_10, gv_11, sv_11, gv_12, sv_12, gv_13, sv_13, gv_14, sv_14, gv_15, sv_15, gv_16, sv_16, gv_17, sv_17, gv_18, sv_18, gv_19, sv_19, gv_20, sv_20, gv_21, sv_21, gv_22, sv_22, gv_23, sv_23, Option.bind_some, at0, at1, at2, at3, set0, set1, set2, set3, mr_app, mr_ext, mr_pop, eqv_int, seq_end, at_end, set_end, at_e1, set_e1, seq_e1, at_e2, set_e2, seq_e2, at_e3, set_e3, seq_e3, at_e4, set_e4, seq_e4, pure_int, pure_bl, pure_non, pure_str, pure_tup, pures_nil, pures_cons, mul_l, mul_r, it_tup, it_loc, zip_tup, fu_items, fu_live, fu_zip, set_app, hlt1]
      refine ⟨by omega, cs ++ [(x1, x2)], N4, c4, ⟨rfl, by simp [eC]⟩, q3, by omega, by simp [hcl], ?_⟩
      intro u v huv
      rcases List.mem_append.mp huv with h | h
      · exact okc _ h
      · simp at h
        omega
    · rintro env μ2 ⟨cs, a4, N, c, rfl, rfl, h20, h21, hcl, okc⟩
      rw [rng_len] at h21 hcl
      have F2 : Fr b g s (C + i * 2000 + 2000) μ (μ1.set b (bagO N g s c) ++ [MO.lst (cs.map eC)]) := (F1.setb h20 (by omega)).push (pures_map pure_eC cs)
      have hM2 : (μ1.set b (bagO N g s c) ++ [MO.lst (cs.map eC)])[μ.length]? = some (.lst (M.map eS)) := by
        rw [List.getElem?_append_left (by simpa using hL), List.getElem?_set_ne (by omega)]
        exact hM
      have F3 : Fr b g s (C + i * 2000 + 2000) μ ((μ1.set b (bagO N g s c) ++ [MO.lst (cs.map eC)]).set μ.length (MO.lst ((M ++ [cs]).map eS))) := F2.setl (Nat.le_refl _) hlt (pures_map pure_eS _)
      have e1 : seqM (μ1.set b (bagO N g s c) ++ [MO.lst (cs.map eC)]) (.loc μ1.length) = some (cs.map eC) := seq_end (by simp)
      have hL2 : μ.length < (μ1.set b (bagO N g s c) ++ [MO.lst (cs.map eC)]).length := by simp; omega
      generalize μ1.set b (bagO N g s c) ++ [MO.lst (cs.map eC)] = μ2 at F3 hM2 e1 hL2 ⊢
      simp [↓z_some, ↓z_none, ↓z_ok, ↓z_exc, ↓z_bind, ↓z_wr, ↓z_ws, ↓z_ow, ↓z_nx, ↓z_rt, ↓z_br, ↓z_ct, ↓z_ex, ↓z_cons, ↓z_nil, ↓z_ret, ↓z_expr, ↓z_for, ↓z_par, ↓z_try0, ↓z_try1, ↓z_tests_nil, ↓z_var, ↓z_non, ↓z_bl, ↓z_int, ↓z_str, ↓z_gint, ↓z_bop, ↓z_neg, ↓z_not, ↓z_cmp, ↓z_cmp2, ↓z_and, ↓z_or, ↓z_ite, ↓z_tup, ↓z_lst, ↓z_ix, ↓z_slice, ↓z_o_nil, ↓z_o_cons, ↓z_sl_tup, ↓z_sl_loc, ↓z_call, ↓z_bi, ↓z_meth, ↓z_isin, ↓z_xfld, ↓z_xis, ↓z_es_nil, ↓z_es_cons, ↓z_i_seq, ↓z_i_rng1, ↓z_i_rng2, ↓z_i_zip, ↓z_lc, ↓z_lcF, ↓z_t_cons, ↓z_asg, ↓z_if, ↓z_raise, ↓z_forF, ↓z_aug, ↓z_asgS, ↓z_brk, ↓z_cnt, ↓z_pass, ↓z_ret0, ↓z_whl, ↓z_add, ↓z_sub, ↓z_mul, ↓z_div, ↓z_mod, ↓z_pow, ↓z_addt, ↓z_eq, ↓z_ne, ↓z_lt, ↓z_le, ↓z_gt, ↓z_ge, ↓z_is_b, ↓z_is_n, ↓z_is_i, ↓z_is_t, ↓z_no_b, ↓z_no_n, ↓z_no_i, ↓z_no_t, ↓z_gadd, ↓z_gsub, ↓z_gmul, ↓z_gdiv, ↓z_gmod, ↓z_len_t, ↓z_len_l, ↓z_tuple, ↓z_list, ↓z_int_i, ↓z_int_b, ↓z_bool_i, ↓z_bool_b, ↓z_abs, ↓z_min2, ↓z_max2, ↓z_sum, ↓z_app, ↓z_pop, startD, seq_tup, ty_ii, ty_ib, ty_it, ty_bi, ty_bb, ty_bt, ty_tt, ty_ti, ty_tb, ty_n, ty_st, ty_si, tr_bl, tr_int, tr_non, set_slot, set_nil, set_cons, sets_nil, sets_cons, wipe_nil, wipe_cons, gv_0, sv_0, gv_1, sv_1, gv_2, sv_2, gv_3, sv_3, gv_4, sv_4, gv_5, sv_5, gv_6, sv_6, gv_7, sv_7, gv_8, sv_8, gv_9, sv_9, gv_10, sv_10, gv_11, sv_11, gv_12, sv_12, gv_13, sv_13, gv_14, sv_14, gv_15, sv_15, gv_16, sv_16, gv_17, sv_17, gv_18, sv_18, gv_19, sv_19, gv_20, sv_20, gv_21, sv_21, gv_22, sv_22, gv_23, sv_23, Option.bind_some, at0, at1, at2, at3, set0, set1, set2, set3, mr_app, mr_ext, mr_pop, eqv_int, seq_end, at_end, set_end, at_e1, set_e1, seq_e1, at_e2, set_e2, seq_e2, at_e3, set_e3, seq_e3, at_e4, set_e4, seq_e4, pure_int, pure_bl, pure_non, pure_str, pure_tup, pures_nil, pures_cons, mul_l, mul_r, it_tup, it_loc, zip_tup, fu_items, fu_live, fu_zip, hM2, seq_lst hM2, e1, hl]
      refine ⟨by omega, by rw [List.map_append, List.map_singleton] at F3; exact F3.mono (by omega), M ++ [cs], ?_, by simp [hl], ?_⟩
      · rw [List.getElem?_set_self hL2, List.map_append]
        rfl
      · intro r hr
        rcases List.mem_append.mp hr with h | h
        · exact ⟨(ok r h).1, fun u v huv => (ok r h).2 _ huv⟩
        · simp at h
          subst h
          exact ⟨by omega, fun u v huv => okc _ huv⟩
  · rintro env μ1 ⟨M, a1, a2, a3, rfl, F1, hM, hl, ok⟩
    rw [rng_len] at F1 hl
    simp [↓z_some, ↓z_none, ↓z_ok, ↓z_exc, ↓z_bind, ↓z_wr, ↓z_ws, ↓z_ow, ↓z_nx, ↓z_rt, ↓z_br, ↓z_ct, ↓z_ex, ↓z_cons, ↓z_nil, ↓z_ret, ↓z_expr, ↓z_for, ↓z_par, ↓z_try0, ↓z_try1, ↓z_tests_nil, ↓z_var, ↓z_non, ↓z_bl, ↓z_int, ↓z_str, ↓z_gint, ↓z_bop, ↓z_neg, ↓z_not, ↓z_cmp, ↓z_cmp2, ↓z_and, ↓z_or, ↓z_ite, ↓z_tup, ↓z_lst, ↓z_ix, ↓z_slice, ↓z_o_nil, ↓z_o_cons, ↓z_sl_tup, ↓z_sl_loc, ↓z_call, ↓z_bi, ↓z_meth, ↓z_isin, ↓z_xfld, ↓z_xis, ↓z_es_nil, ↓z_es_cons, ↓z_i_seq, ↓z_i_rng1, ↓z_i_rng2, ↓z_i_zip, ↓z_lc, ↓z_lcF, ↓z_t_cons, ↓z_asg, ↓z_if, ↓z_raise, ↓z_forF, ↓z_aug, ↓z_asgS, ↓z_brk, ↓z_cnt, ↓z_pass, ↓z_ret0, ↓z_whl, ↓z_add, ↓z_sub, ↓z_mul, ↓z_div, ↓z_mod, ↓z_pow, ↓z_addt, ↓z_eq, ↓z_ne, ↓z_lt, ↓z_le, ↓z_gt, ↓z_ge, ↓z_is_b, ↓z_is_n, ↓z_is_i, ↓z_is_t, ↓z_no_b, ↓z_no_n, ↓z_no_i, ↓z_no_t, ↓z_gadd, ↓z_gsub, ↓z_gmul, ↓z_gdiv, ↓z_gmod, ↓z_len_t, ↓z_len_l, ↓z_tuple, ↓z_list, ↓z_int_i, ↓z_int_b, ↓z_bool_i, ↓z_bool_b, ↓z_abs, ↓z_min2, ↓z_max2, ↓z_sum, ↓z_app, ↓z_pop, startD, seq_tup, ty_ii, ty_ib, ty_it, ty_bi, ty_bb, ty_bt, ty_tt, ty_ti, ty_tb, ty_n, ty_st, ty_si, tr_bl, tr_int, tr_non, set_slot, set_nil, set_cons, sets_nil, sets_cons, wipe_nil, wipe_cons, gv_0, sv_0, gv_1, sv_1, gv_2, sv_2, gv_3, sv_3, gv_4, sv_4, gv_5, sv_5, gv_6, sv_6, gv_7, sv_7, gv_8, sv_8, gv_9, sv_9, gv_10, sv_10, gv_11, sv_11, gv_12, sv_12, gv_13, sv_13, gv_14, sv_14, gv_15, sv_15, gv_16, sv_16, gv_17, sv_17, gv_18, sv_18, gv_19, sv_19, gv_20, sv_20, gv_21, sv_21, gv_22, sv_22, gv_23, sv_23, Option.bind_some, at0, at1, at2, at3, set0, set1, set2, set3, mr_app, mr_ext, mr_pop, eqv_int, seq_end, at_end, set_end, at_e1, set_e1, seq_e1, at_e2, set_e2, seq_e2, at_e3, set_e3, seq_e3, at_e4, set_e4, seq_e4, pure_int, pure_bl, pure_non, pure_str, pure_tup, pures_nil, pures_cons, mul_l, mul_r, it_tup, it_loc, zip_tup, fu_items, fu_live, fu_zip, seq_lst hM, pures_map pure_eS]
    refine ⟨F1.pu, fr_call F1 hlt fun N c h0 h1 => ?_⟩
    exact hQ M N c (by omega) ok h0 (by omega) (F.setb h0 (by omega))
/-- a new bag -/
theorem bag_wp {n : Nat} {μ : Mem} {p : Nat} {ns : List Int} {k : Int} {Q : D → Mem → Prop} {E : Exn → Mem → Prop} (h : Pu μ) (hp : μ[p]? = some (.ro (ns.map D.int))) (hl : ns.length ≤ 63) (hk : 0 ≤ k ∧ k < 60)
    (hQ : ∀ μ' l N g s, μ.length ≤ l → (∀ i, i < μ.length → μ'[i]? = μ[i]?) → μ'[l]? = some (bagO N g s 0) → Pu μ' → Q (.loc l) μ') : WR Q E (call (n + 1) 20 [.loc p, .int k] μ) := by
  refine pwl (d := m__law_bag) rfl rfl ?_
  have sp := seq_ro hp
  have ct := cut_take (ns.map D.int) 63
  have ct : cutD (ns.map D.int) none (some 63) = (ns.take 63).map D.int := by rw [List.map_take]; exact ct
  have hms : (ns.take 63).length ≤ 63 := by rw [List.length_take]; omega
  generalize ns.take 63 = ms at ct hms
  simp [↓z_some, ↓z_none, ↓z_ok, ↓z_exc, ↓z_bind, ↓z_wr, ↓z_ws, ↓z_ow, ↓z_nx, ↓z_rt, ↓z_br, ↓z_ct, ↓z_ex, ↓z_cons, ↓z_nil, ↓z_ret, ↓z_expr, ↓z_for, ↓z_par, ↓z_try0, ↓z_try1, ↓z_tests_nil, ↓z_var, ↓z_non, ↓z_bl, ↓z_int, ↓z_str, ↓z_gint, ↓z_bop, ↓z_neg, ↓z_not, ↓z_cmp, ↓z_cmp2, ↓z_and, ↓z_or, ↓z_ite, ↓z_tup, ↓z_lst, ↓z_ix, ↓z_slice, ↓z_o_nil, ↓z_o_cons, ↓z_sl_tup, ↓z_sl_loc, ↓z_call, ↓z_bi, ↓z_meth, ↓z_isin, ↓z_xfld, ↓z_xis, ↓z_es_nil, ↓z_es_cons, ↓z_i_seq, ↓z_i_rng1, ↓z_i_rng2, ↓z_i_zip, ↓z_lc, ↓z_lcF, ↓z_t_cons, ↓z_asg, ↓z_if, ↓z_raise, ↓z_forF, ↓z_aug, ↓z_asgS, ↓z_brk, ↓z_cnt, ↓z_pass, ↓z_ret0, ↓z_whl, ↓z_add, ↓z_sub, ↓z_mul, ↓z_div, ↓z_mod, ↓z_pow, ↓z_addt, ↓z_eq, ↓z_ne, ↓z_lt, ↓z_le, ↓z_gt, ↓z_ge, ↓z_is_b, ↓z_is_n, ↓z_is_i, ↓z_is_t, ↓z_no_b, ↓z_no_n, ↓z_no_i, ↓z_no_t, ↓z_gadd, ↓z_gsub, ↓z_gmul, ↓z_gdiv, ↓z_gmod, ↓z_len_t, ↓z_len_l, ↓z_tuple, ↓z_list, ↓z_int_i, ↓z_int_b, ↓z_bool_i, ↓z_bool_b, ↓z_abs, ↓z_min2, ↓z_max2, ↓z_sum, ↓z_app, ↓z_pop, startD, seq_tup, ty_ii, ty_ib, ty_it, ty_bi, ty_bb, ty_bt, ty_tt, ty_ti, ty_tb, ty_n, ty_st, ty_si, tr_bl, tr_int, tr_non, set_slot, set_nil, set_cons, sets_nil, sets_cons, wipe_nil, wipe_cons, gv_0, sv_0, gv_1, sv_1, gv_2, sv_2, gv_3, sv_3, gv_4, sv_4, gv_5, sv_5, gv_6, sv_6, gv_7, sv_7, gv_8, sv_8, gv_9, sv_9, gv_10, sv_10, gv_11, sv_11, gv_12, sv_12, gv_13, sv_13, gv_14, sv_14, gv_15, sv_15, gv_16, sv_16, gv_17, sv_17, gv_18, sv_18, gv_19, sv_19, gv_20, sv_20, gv_21, sv_21, gv_22, sv_22, gv_23, sv_23, Option.bind_some, at0, at1, at2, at3, set0, set1, set2, set3, mr_app, mr_ext, mr_pop, eqv_int, seq_end, at_end, set_end, at_e1, set_e1, seq_e1, at_e2, set_e2, seq_e2, at_e3, set_e3, seq_e3, at_e4, set_e4, seq_e4, pure_int, pure_bl, pure_non, pure_str, pure_tup, pures_nil, pures_cons, mul_l, mul_r, it_tup, it_loc, zip_tup, fu_items, fu_live, fu_zip, m__law_bag, sp, ct]
  have hE : ∀ j, (μ ++ MO.lst (ms.map D.int) :: j)[p]? = some (.ro (ns.map D.int)) := fun j => by rw [List.getElem?_append_left (List.getElem?_eq_some_iff.mp hp).1, hp]
  have hQ' : ∀ N g s, Q (.loc (μ.length + 2)) (μ ++ [.lst (ms.map D.int), .lst (ms.map D.int), .lst [.int N, .int g, .int s, .int 0]]) := fun N g s => by
    refine hQ _ _ N g s (by omega) (fun i hi => List.getElem?_append_left hi) (by rw [List.getElem?_append_right (by omega)]; simp [bagO]) ?_
    have z := ((h.ints ms).ints ms).ints [N, g, s, 0]
    simpa using z
  refine lc_liveE (μ := μ ++ [.lst (ms.map D.int)]) id (seq_end rfl) (by simp; omega) (by simp) (by simp) (by simp) (by simp) ?_ ?_
  · intro i x acc hx
    rw [List.getElem?_map] at hx
    obtain ⟨v, _, rfl⟩ := Option.map_eq_some_iff.mp hx
    simp [↓z_some, ↓z_none, ↓z_ok, ↓z_exc, ↓z_bind, ↓z_wr, ↓z_ws, ↓z_ow, ↓z_nx, ↓z_rt, ↓z_br, ↓z_ct, ↓z_ex, ↓z_cons, ↓z_nil, ↓z_ret, ↓z_expr, ↓z_for, ↓z_par, ↓z_try0, ↓z_try1, ↓z_tests_nil, ↓z_var, ↓z_non, ↓z_bl, ↓z_int, ↓z_str, ↓z_gint, ↓z_bop, ↓z_neg, ↓z_not, ↓z_cmp, ↓z_cmp2, ↓z_and, ↓z_or, ↓z_ite, ↓z_tup, ↓z_lst, ↓z_ix, ↓z_slice, ↓z_o_nil, ↓z_o_cons, ↓z_sl_tup, ↓z_sl_loc, ↓z_call, ↓z_bi, ↓z_meth, ↓z_isin, ↓z_xfld, ↓z_xis, ↓z_es_nil, ↓z_es_cons, ↓z_i_seq, ↓z_i_rng1, ↓z_i_rng2, ↓z_i_zip, ↓z_lc, ↓z_lcF, ↓z_t_cons, ↓z_asg, ↓z_if, ↓z_raise, ↓z_forF, ↓z_aug, ↓z_asgS, ↓z_brk, ↓z_cnt, ↓z_pass, ↓z_ret0, ↓z_whl, ↓z_add, ↓z_sub, ↓z_mul, ↓z_div, ↓z_mod, ↓z_pow, ↓z_addt, ↓z_eq, ↓z_ne, ↓z_lt, ↓z_le, ↓z_gt, ↓z_ge, ↓z_is_b, ↓z_is_n, ↓z_is_i, ↓z_is_t, ↓z_no_b, ↓z_no_n, ↓z_no_i, ↓z_no_t, ↓z_gadd, ↓z_gsub, ↓z_gmul, ↓z_gdiv, ↓z_gmod, ↓z_len_t, ↓z_len_l, ↓z_tuple, ↓z_list, ↓z_int_i, ↓z_int_b, ↓z_bool_i, ↓z_bool_b, ↓z_abs, ↓z_min2, ↓z_max2, ↓z_sum, ↓z_app, ↓z_pop, startD, seq_tup, ty_ii, ty_ib, ty_it, ty_bi, ty_bb, ty_bt, ty_tt, ty_ti, ty_tb, ty_n, ty_st, ty_si, tr_bl, tr_int, tr_non, set_slot, set_nil, set_cons, sets_nil, sets_cons, wipe_nil, wipe_cons, gv_0, sv_0, gv_1, sv_1, gv_2, sv_2, gv_3, sv_3, gv_4, sv_4, gv_5, sv_5, gv_6, sv_6, gv_7, sv_7, gv_8, sv_8, gv_9, sv_9, gv_10, sv_10, gv_11, sv_11, gv_12, sv_12, gv_13, sv_13, gv_14, sv_14, gv_15, sv_15, gv_16, sv_16, gv_17, sv_17, gv_18, sv_18, gv_19, sv_19, gv_20, sv_20, gv_21, sv_21, gv_22, sv_22, gv_23, sv_23, Option.bind_some, at0, at1, at2, at3, set0, set1, set2, set3, mr_app, mr_ext, mr_pop, eqv_int, seq_end, at_end, set_end, at_e1, set_e1, seq_e1, at_e2, set_e2, seq_e2, at_e3, set_e3, seq_e3, at_e4, set_e4, seq_e4, pure_int, pure_bl, pure_non, pure_str, pure_tup, pures_nil, pures_cons, mul_l, mul_r, it_tup, it_loc, zip_tup, fu_items, fu_live, fu_zip]
  · have e2 : seqM (μ ++ [.lst (ms.map D.int), .lst (ms.map D.int)]) (.loc (μ.length + 1)) = some (ms.map D.int) := by
      refine seq_lst ?_
      rw [List.getElem?_append_right (by omega)]
      simp
    rw [List.map_id]
    simp [↓z_some, ↓z_none, ↓z_ok, ↓z_exc, ↓z_bind, ↓z_wr, ↓z_ws, ↓z_ow, ↓z_nx, ↓z_rt, ↓z_br, ↓z_ct, ↓z_ex, ↓z_cons, ↓z_nil, ↓z_ret, ↓z_expr, ↓z_for, ↓z_par, ↓z_try0, ↓z_try1, ↓z_tests_nil, ↓z_var, ↓z_non, ↓z_bl, ↓z_int, ↓z_str, ↓z_gint, ↓z_bop, ↓z_neg, ↓z_not, ↓z_cmp, ↓z_cmp2, ↓z_and, ↓z_or, ↓z_ite, ↓z_tup, ↓z_lst, ↓z_ix, ↓z_slice, ↓z_o_nil, ↓z_o_cons, ↓z_sl_tup, ↓z_sl_loc, ↓z_call, ↓z_bi, ↓z_meth, ↓z_isin, ↓z_xfld, ↓z_xis, ↓z_es_nil, ↓z_es_cons, ↓z_i_seq, ↓z_i_rng1, ↓z_i_rng2, ↓z_i_zip, ↓z_lc, ↓z_lcF, ↓z_t_cons, ↓z_asg, ↓z_if, ↓z_raise, ↓z_forF, ↓z_aug, ↓z_asgS, ↓z_brk, ↓z_cnt, ↓z_pass, ↓z_ret0, ↓z_whl, ↓z_add, ↓z_sub, ↓z_mul, ↓z_div, ↓z_mod, ↓z_pow, ↓z_addt, ↓z_eq, ↓z_ne, ↓z_lt, ↓z_le, ↓z_gt, ↓z_ge, ↓z_is_b, ↓z_is_n, ↓z_is_i, ↓z_is_t, ↓z_no_b, ↓z_no_n, ↓z_no_i, ↓z_no_t, ↓z_gadd, ↓z_gsub, ↓z_gmul, ↓z_gdiv, ↓z_gmod, ↓z_len_t, ↓z_len_l, ↓z_tuple, ↓z_list, ↓z_int_i, ↓z_int_b, ↓z_bool_i, ↓z_bool_b, ↓z_abs, ↓z_min2, ↓z_max2, ↓z_sum, ↓z_app, ↓z_pop, startD, seq_tup, ty_ii, ty_ib, ty_it, ty_bi, ty_bb, ty_bt, ty_tt, ty_ti, ty_tb, ty_n, ty_st, ty_si, tr_bl, tr_int, tr_non, set_slot, set_nil, set_cons, sets_nil, sets_cons, wipe_nil, wipe_cons, gv_0, sv_0, gv_1, sv_1, gv_2, sv_2, gv_3, sv_3, gv_4, sv_4, gv_5, sv_5, gv_6, sv_6, gv_7, sv_7, gv_8, sv_8, gv_9, sv_9, gv_10, sv_10, gv_11, sv_11, gv_12, sv_12, gv_13, sv_13, gv_14, sv_14, gv_15, sv_15, gv_16, sv_16, gv_17, sv_17, gv_18, sv_18, gv_19, sv_19, gv_20, sv_20, gv_21, sv_21, gv_22, sv_22, gv_23, sv_23, Option.bind_some, at0, at1, at2, at3, set0, set1, set2, set3, mr_app, mr_ext, mr_pop, eqv_int, seq_end, at_end, set_end, at_e1, set_e1, seq_e1, at_e2, set_e2, seq_e2, at_e3, set_e3, seq_e3, at_e4, set_e4, seq_e4, pure_int, pure_bl, pure_non, pure_str, pure_tup, pures_nil, pures_cons, mul_l, mul_r, it_tup, it_loc, zip_tup, fu_items, fu_live, fu_zip, e2, isInts_map, seq_ro (hE _)]
    have k1 : 0 ≤ k := hk.1
    by_cases c : k < ns.length
    · have a1 : atD (ns.map D.int) k = some (.int (ns[k.toNat]'(by omega))) := at_int k1 (by rw [List.getElem?_map, List.getElem?_eq_getElem (by omega)]; rfl)
      generalize ns[k.toNat]'(by omega) = v at a1
      simp [↓z_some, ↓z_none, ↓z_ok, ↓z_exc, ↓z_bind, ↓z_wr, ↓z_ws, ↓z_ow, ↓z_nx, ↓z_rt, ↓z_br, ↓z_ct, ↓z_ex, ↓z_cons, ↓z_nil, ↓z_ret, ↓z_expr, ↓z_for, ↓z_par, ↓z_try0, ↓z_try1, ↓z_tests_nil, ↓z_var, ↓z_non, ↓z_bl, ↓z_int, ↓z_str, ↓z_gint, ↓z_bop, ↓z_neg, ↓z_not, ↓z_cmp, ↓z_cmp2, ↓z_and, ↓z_or, ↓z_ite, ↓z_tup, ↓z_lst, ↓z_ix, ↓z_slice, ↓z_o_nil, ↓z_o_cons, ↓z_sl_tup, ↓z_sl_loc, ↓z_call, ↓z_bi, ↓z_meth, ↓z_isin, ↓z_xfld, ↓z_xis, ↓z_es_nil, ↓z_es_cons, ↓z_i_seq, ↓z_i_rng1, ↓z_i_rng2, ↓z_i_zip, ↓z_lc, ↓z_lcF, ↓z_t_cons, ↓z_asg, ↓z_if, ↓z_raise, ↓z_forF, ↓z_aug, ↓z_asgS, ↓z_brk, ↓z_cnt, ↓z_pass, ↓z_ret0, ↓z_whl, ↓z_add, ↓z_sub, ↓z_mul, ↓z_div, ↓z_mod, ↓z_pow, ↓z_addt, ↓z_eq, ↓z_ne, ↓z_lt, ↓z_le, ↓z_gt, ↓z_ge, ↓z_is_b, ↓z_is_n, ↓z_is_i, ↓z_is_t, ↓z_no_b, ↓z_no_n, ↓z_no_i, ↓z_no_t, ↓z_gadd, ↓z_gsub, ↓z_gmul, ↓z_gdiv, ↓z_gmod, ↓z_len_t, ↓z_len_l, ↓z_tuple, ↓z_list, ↓z_int_i, ↓z_int_b, ↓z_bool_i, ↓z_bool_b, ↓z_abs, ↓z_min2, ↓z_max2, ↓z_sum, ↓z_app, ↓z_pop, startD, seq_tup, ty_ii, ty_ib, ty_it, ty_bi, ty_bb, ty_bt, ty_tt, ty_ti, ty_tb, ty_n, ty_st, ty_si, tr_bl, tr_int, tr_non, set_slot, set_nil, set_cons, sets_nil, sets_cons, wipe_nil, wipe_cons, gv_0, sv_0, gv_1, sv_1, gv_2, sv_2, gv_3, sv_3, gv_4, sv_4, gv_5, sv_5, gv_6, sv_6, gv_7, sv_7, gv_8, sv_8, gv_9, sv_9, gv_10, sv_10, gv_11, sv_11, gv_12, sv_12, gv_13, sv_13, gv_14, sv_14, gv_15, sv_15, gv_16, sv_16, gv_17, sv_17, gv_18, sv_18, gv_19, sv_19, gv_20, sv_20, gv_21, sv_21, gv_22, sv_22, gv_23, sv_23, Option.bind_some, at0, at1, at2, at3, set0, set1, set2, set3, mr_app, mr_ext, mr_pop, eqv_int, seq_end, at_end, set_end, at_e1, set_e1, seq_e1, at_e2, set_e2, seq_e2, at_e3, set_e3, seq_e3, at_e4, set_e4, seq_e4, pure_int, pure_bl, pure_non, pure_str, pure_tup, pures_nil, pures_cons, mul_l, mul_r, it_tup, it_loc, zip_tup, fu_items, fu_live, fu_zip, c, a1, seq_ro (hE _), show k < 63 by omega]
      (repeat' split) <;> exact hQ' _ _ _
    · simp [↓z_some, ↓z_none, ↓z_ok, ↓z_exc, ↓z_bind, ↓z_wr, ↓z_ws, ↓z_ow, ↓z_nx, ↓z_rt, ↓z_br, ↓z_ct, ↓z_ex, ↓z_cons, ↓z_nil, ↓z_ret, ↓z_expr, ↓z_for, ↓z_par, ↓z_try0, ↓z_try1, ↓z_tests_nil, ↓z_var, ↓z_non, ↓z_bl, ↓z_int, ↓z_str, ↓z_gint, ↓z_bop, ↓z_neg, ↓z_not, ↓z_cmp, ↓z_cmp2, ↓z_and, ↓z_or, ↓z_ite, ↓z_tup, ↓z_lst, ↓z_ix, ↓z_slice, ↓z_o_nil, ↓z_o_cons, ↓z_sl_tup, ↓z_sl_loc, ↓z_call, ↓z_bi, ↓z_meth, ↓z_isin, ↓z_xfld, ↓z_xis, ↓z_es_nil, ↓z_es_cons, ↓z_i_seq, ↓z_i_rng1, ↓z_i_rng2, ↓z_i_zip, ↓z_lc, ↓z_lcF, ↓z_t_cons, ↓z_asg, ↓z_if, ↓z_raise, ↓z_forF, ↓z_aug, ↓z_asgS, ↓z_brk, ↓z_cnt, ↓z_pass, ↓z_ret0, ↓z_whl, ↓z_add, ↓z_sub, ↓z_mul, ↓z_div, ↓z_mod, ↓z_pow, ↓z_addt, ↓z_eq, ↓z_ne, ↓z_lt, ↓z_le, ↓z_gt, ↓z_ge, ↓z_is_b, ↓z_is_n, ↓z_is_i, ↓z_is_t, ↓z_no_b, ↓z_no_n, ↓z_no_i, ↓z_no_t, ↓z_gadd, ↓z_gsub, ↓z_gmul, ↓z_gdiv, ↓z_gmod, ↓z_len_t, ↓z_len_l, ↓z_tuple, ↓z_list, ↓z_int_i, ↓z_int_b, ↓z_bool_i, ↓z_bool_b, ↓z_abs, ↓z_min2, ↓z_max2, ↓z_sum, ↓z_app, ↓z_pop, startD, seq_tup, ty_ii, ty_ib, ty_it, ty_bi, ty_bb, ty_bt, ty_tt, ty_ti, ty_tb, ty_n, ty_st, ty_si, tr_bl, tr_int, tr_non, set_slot, set_nil, set_cons, sets_nil, sets_cons, wipe_nil, wipe_cons, gv_0, sv_0, gv_1, sv_1, gv_2, sv_2, gv_3, sv_3, gv_4, sv_4, gv_5, sv_5, gv_6, sv_6, gv_7, sv_7, gv_8, sv_8, gv_9, sv_9, gv_10, sv_10, gv_11, sv_11, gv_12, sv_12, gv_13, sv_13, gv_14, sv_14, gv_15, sv_15, gv_16, sv_16, gv_17, sv_17, gv_18, sv_18, gv_19, sv_19, gv_20, sv_20, gv_21, sv_21, gv_22, sv_22, gv_23, sv_23, Option.bind_some, at0, at1, at2, at3, set0, set1, set2, set3, mr_app, mr_ext, mr_pop, eqv_int, seq_end, at_end, set_end, at_e1, set_e1, seq_e1, at_e2, set_e2, seq_e2, at_e3, set_e3, seq_e3, at_e4, set_e4, seq_e4, pure_int, pure_bl, pure_non, pure_str, pure_tup, pures_nil, pures_cons, mul_l, mul_r, it_tup, it_loc, zip_tup, fu_items, fu_live, fu_zip, c]
      (repeat' split) <;> exact hQ' _ _ _
theorem len0' {M : List (List Cell)} (h : 1 ≤ M.length) : ∃ s0, M[0]? = some s0 := ⟨M[0]'h, List.getElem?_eq_getElem h⟩
theorem seq_eR (s : List Int) (μ : Mem) : seqM μ (eR s) = some (s.map D.int) := rfl
theorem seq_eL (s : List (List Int)) (μ : Mem) : seqM μ (eL s) = some (s.map eR) := rfl
theorem seq_eM (M : List (List Cell)) (μ : Mem) : seqM μ (eM M) = some (M.map eS) := rfl
theorem seq_eS (s : List Cell) (μ : Mem) : seqM μ (eS s) = some (s.map eC) := rfl
theorem seq_eC (c : Cell) (μ : Mem) : seqM μ (eC c) = some [.int c.1, .int c.2] := rfl
theorem it_eM (M : List (List Cell)) (μ : Mem) : itD μ (eM M) = some (.items (M.map eS)) := rfl
theorem it_eS (M : List Cell) (μ : Mem) : itD μ (eS M) = some (.items (M.map eC)) := rfl
theorem it_eR (M : List Int) (μ : Mem) : itD μ (eR M) = some (.items (M.map D.int)) := rfl
theorem it_eL (M : List (List Int)) (μ : Mem) : itD μ (eL M) = some (.items (M.map eR)) := rfl
theorem ty_eM (M : List (List Cell)) (μ : Mem) : isTy μ (eM M) .tuple = some true := rfl
theorem ty_eS (M : List Cell) (μ : Mem) : isTy μ (eS M) .tuple = some true := rfl
theorem ty_eR (M : List Int) (μ : Mem) : isTy μ (eR M) .tuple = some true := rfl
theorem ty_eL (M : List (List Int)) (μ : Mem) : isTy μ (eL M) .tuple = some true := rfl
section
variable {Q : D → Mem → Prop} {E : Exn → Mem → Prop} {μ : Mem} {l h : Option Int}
theorem z_len_eM (M : List (List Cell)) : WR Q E (biD .len [eM M] μ) = Q (.int M.length) μ := by simp [eM, z_len_t]
theorem z_len_eS (M : List Cell) : WR Q E (biD .len [eS M] μ) = Q (.int M.length) μ := by simp [eS, z_len_t]
theorem z_len_eR (M : List Int) : WR Q E (biD .len [eR M] μ) = Q (.int M.length) μ := by simp [eR, z_len_t]
theorem z_len_eL (M : List (List Int)) : WR Q E (biD .len [eL M] μ) = Q (.int M.length) μ := by simp [eL, z_len_t]
theorem z_sl_eM (M : List (List Cell)) : WR Q E (sliceD (eM M) l h μ) = Q (.tup (cutD (M.map eS) l h)) μ := z_sl_tup _ _ _
theorem z_sl_eS (M : List Cell) : WR Q E (sliceD (eS M) l h μ) = Q (.tup (cutD (M.map eC) l h)) μ := z_sl_tup _ _ _
theorem z_sl_eR (M : List Int) : WR Q E (sliceD (eR M) l h μ) = Q (.tup (cutD (M.map .int) l h)) μ := z_sl_tup _ _ _
theorem z_sl_eL (M : List (List Int)) : WR Q E (sliceD (eL M) l h μ) = Q (.tup (cutD (M.map eR) l h)) μ := z_sl_tup _ _ _
end
theorem at_eM {M : List (List Cell)} {i : Nat} {s0 : List Cell} (e0 : M[i]? = some s0) : atD (M.map eS) (i : Int) = some (eS s0) := at_nat (by rw [List.getElem?_map, e0]; rfl)
theorem at_eS {M : List Cell} {i : Nat} {s0 : Cell} (e0 : M[i]? = some s0) : atD (M.map eC) (i : Int) = some (eC s0) := at_nat (by rw [List.getElem?_map, e0]; rfl)
theorem at_eR {M : List Int} {i : Nat} {s0 : Int} (e0 : M[i]? = some s0) : atD (M.map D.int) (i : Int) = some (.int s0) := at_nat (by rw [List.getElem?_map, e0]; rfl)
theorem at_eL {M : List (List Int)} {i : Nat} {s0 : List Int} (e0 : M[i]? = some s0) : atD (M.map eR) (i : Int) = some (eR s0) := at_nat (by rw [List.getElem?_map, e0]; rfl)
theorem at0_eM {M : List (List Cell)} {s0 : List Cell} (e0 : M[0]? = some s0) : atD (M.map eS) 0 = some (eS s0) := at_eM e0
theorem at0_eS {M : List Cell} {s0 : Cell} (e0 : M[0]? = some s0) : atD (M.map eC) 0 = some (eC s0) := at_eS e0
/-- a machine of k letters whose answers and goals are small -/
structure WfM (M : List (List Cell)) (k : Nat) (A : Int) : Prop where
  few : 1 ≤ M.length
  std : ∀ s ∈ M, s.length = k ∧ ∀ c ∈ s, (0 ≤ c.1 ∧ c.1 ≤ A) ∧ 0 ≤ c.2 ∧ c.2 ≤ M.length - 1
theorem changed_wp {n : Nat} {μ0 μ : Mem} {b : Nat} {g s C A : Int} {k : Nat} {M : List (List Cell)} {Q : D → Mem → Prop} {E : Exn → Mem → Prop} (F : Fr b g s C μ0 μ) (hC : C < 100000) (hf : M.length ≤ 64) (hk : 1 ≤ k ∧ k ≤ 6) (W : WfM M k A) (hA : 2 ≤ A)
    (hQ : ∀ (M' : List (List Cell)) N' c', M'.length = M.length → WfM M' k A → 0 ≤ c' → c' ≤ C + 4 → Fr b g s (C + 4) μ0 (μ.set b (bagO N' g s c')) → Q (eM M') (μ.set b (bagO N' g s c'))) : WR Q E (call (n + 2) 29 [.loc b, eM M] μ) := by
  refine pw (d := m__law_changed) rfl rfl ?_
  have hlt : b < μ.length := F.lt
  have F0 : Fr b g s C μ μ := F.re
  have hf1 := W.few
  obtain ⟨s0, e0⟩ := len0' hf1
  have l0 := (W.std s0 (List.mem_of_getElem? e0)).1
  simp [↓z_some, ↓z_none, ↓z_ok, ↓z_exc, ↓z_bind, ↓z_wr, ↓z_ws, ↓z_ow, ↓z_nx, ↓z_rt, ↓z_br, ↓z_ct, ↓z_ex, ↓z_cons, ↓z_nil, ↓z_ret, ↓z_expr, ↓z_for, ↓z_par, ↓z_try0, ↓z_try1, ↓z_tests_nil, ↓z_var, ↓z_non, ↓z_bl, ↓z_int, ↓z_str, ↓z_gint, ↓z_bop, ↓z_neg, ↓z_not, ↓z_cmp, ↓z_cmp2, ↓z_and, ↓z_or, ↓z_ite, ↓z_tup, ↓z_lst, ↓z_ix, ↓z_slice, ↓z_o_nil, ↓z_o_cons, ↓z_sl_tup, ↓z_sl_loc, ↓z_call, ↓z_bi, ↓z_meth, ↓z_isin, ↓z_xfld, ↓z_xis, ↓z_es_nil, ↓z_es_cons, ↓z_i_seq, ↓z_i_rng1, ↓z_i_rng2, ↓z_i_zip, ↓z_lc, ↓z_lcF, ↓z_t_cons, ↓z_asg, ↓z_if, ↓z_raise, ↓z_forF, ↓z_aug, ↓z_asgS, ↓z_brk, ↓z_cnt, ↓z_pass, ↓z_ret0, ↓z_whl, ↓z_add, ↓z_sub, ↓z_mul, ↓z_div, ↓z_mod, ↓z_pow, ↓z_addt, ↓z_eq, ↓z_ne, ↓z_lt, ↓z_le, ↓z_gt, ↓z_ge, ↓z_is_b, ↓z_is_n, ↓z_is_i, ↓z_is_t, ↓z_no_b, ↓z_no_n, ↓z_no_i, ↓z_no_t, ↓z_gadd, ↓z_gsub, ↓z_gmul, ↓z_gdiv, ↓z_gmod, ↓z_len_t, ↓z_len_l, ↓z_tuple, ↓z_list, ↓z_int_i, ↓z_int_b, ↓z_bool_i, ↓z_bool_b, ↓z_abs, ↓z_min2, ↓z_max2, ↓z_sum, ↓z_app, ↓z_pop, startD, seq_tup, ty_ii, ty_ib, ty_it, ty_bi, ty_bb, ty_bt, ty_tt, ty_ti, ty_tb, ty_n, ty_st, ty_si, tr_bl, tr_int, tr_non, set_slot, set_nil, set_cons, sets_nil, sets_cons, wipe_nil, wipe_cons, gv_0, sv_0, gv_1, sv_1, gv_2, sv_2, gv_3, sv_3, gv_4, sv_4, gv_5, sv_5, gv_6, sv_6, gv_7, sv_7, gv_8, sv_8, gv_9, sv_9, gv_10, sv_10, gv_11, sv_11, gv_12, sv_12, gv_13, sv_13, gv_14, sv_14, gv_15, sv_15, gv_16, sv_16, gv_17, sv_17, gv_18, sv_18, gv_19, sv_19, gv_20, sv_20, gv_21, sv_21, gv_22, sv_22, gv_23, sv_23, Option.bind_some, at0, at1, at2, at3, set0, set1, set2, set3, mr_app, mr_ext, mr_pop, eqv_int, seq_end, at_end, set_end, at_e1, set_e1, seq_e1, at_e2, set_e2, seq_e2, at_e3, set_e3, seq_e3, at_e4, set_e4, seq_e4, pure_int, pure_bl, pure_non, pure_str, pure_tup, pures_nil, pures_cons, mul_l, mul_r, it_tup, it_loc, zip_tup, fu_items, fu_live, fu_zip, m__law_changed, ↓z_len_eM]
  refine take_fr F0 (by omega) (by omega) fun i N1 c1 i0 i1 p0 p1 F1 => ?_
  simp [↓z_some, ↓z_none, ↓z_ok, ↓z_exc, ↓z_bind, ↓z_wr, ↓z_ws, ↓z_ow, ↓z_nx, ↓z_rt, ↓z_br, ↓z_ct, ↓z_ex, ↓z_cons, ↓z_nil, ↓z_ret, ↓z_expr, ↓z_for, ↓z_par, ↓z_try0, ↓z_try1, ↓z_tests_nil, ↓z_var, ↓z_non, ↓z_bl, ↓z_int, ↓z_str, ↓z_gint, ↓z_bop, ↓z_neg, ↓z_not, ↓z_cmp, ↓z_cmp2, ↓z_and, ↓z_or, ↓z_ite, ↓z_tup, ↓z_lst, ↓z_ix, ↓z_slice, ↓z_o_nil, ↓z_o_cons, ↓z_sl_tup, ↓z_sl_loc, ↓z_call, ↓z_bi, ↓z_meth, ↓z_isin, ↓z_xfld, ↓z_xis, ↓z_es_nil, ↓z_es_cons, ↓z_i_seq, ↓z_i_rng1, ↓z_i_rng2, ↓z_i_zip, ↓z_lc, ↓z_lcF, ↓z_t_cons, ↓z_asg, ↓z_if, ↓z_raise, ↓z_forF, ↓z_aug, ↓z_asgS, ↓z_brk, ↓z_cnt, ↓z_pass, ↓z_ret0, ↓z_whl, ↓z_add, ↓z_sub, ↓z_mul, ↓z_div, ↓z_mod, ↓z_pow, ↓z_addt, ↓z_eq, ↓z_ne, ↓z_lt, ↓z_le, ↓z_gt, ↓z_ge, ↓z_is_b, ↓z_is_n, ↓z_is_i, ↓z_is_t, ↓z_no_b, ↓z_no_n, ↓z_no_i, ↓z_no_t, ↓z_gadd, ↓z_gsub, ↓z_gmul, ↓z_gdiv, ↓z_gmod, ↓z_len_t, ↓z_len_l, ↓z_tuple, ↓z_list, ↓z_int_i, ↓z_int_b, ↓z_bool_i, ↓z_bool_b, ↓z_abs, ↓z_min2, ↓z_max2, ↓z_sum, ↓z_app, ↓z_pop, startD, seq_tup, ty_ii, ty_ib, ty_it, ty_bi, ty_bb, ty_bt, ty_tt, ty_ti, ty_tb, ty_n, ty_st, ty_si, tr_bl, tr_int, tr_non, set_slot, set_nil, set_cons, sets_nil, sets_cons, wipe_nil, wipe_cons, gv_0, sv_0, gv_1, sv_1, gv_2, sv_2, gv_3, sv_3, gv_4, sv_4, gv_5, sv_5, gv_6, sv_6, gv_7, sv_7, gv_8, sv_8, gv_9, sv_9, gv_10, sv_10, gv_11, sv_11, gv_12, sv_12, gv_13, sv_13, gv_14, sv_14, gv_15, sv_15, gv_16, sv_16, gv_17, sv_17, gv_18, sv_18, gv_19, sv_19, gv_20, sv_20, gv_21, sv_21, gv_22, sv_22, gv_23, sv_23, Option.bind_some, at0, at1, at2, at3, set0, set1, set2, set3, mr_app, mr_ext, mr_pop, eqv_int, seq_end, at_end, set_end, at_e1, set_e1, seq_e1, at_e2, set_e2, seq_e2, at_e3, set_e3, seq_e3, at_e4, set_e4, seq_e4, pure_int, pure_bl, pure_non, pure_str, pure_tup, pures_nil, pures_cons, mul_l, mul_r, it_tup, it_loc, zip_tup, fu_items, fu_live, fu_zip, ↓z_len_eS, seq_eM, at0_eM e0, l0]
  refine take_fr F1.re (by omega) (by omega) fun j N2 c2 j0 j1 q0 q1 F2 => ?_
  simp only [List.set_set] at F2
  simp [↓z_some, ↓z_none, ↓z_ok, ↓z_exc, ↓z_bind, ↓z_wr, ↓z_ws, ↓z_ow, ↓z_nx, ↓z_rt, ↓z_br, ↓z_ct, ↓z_ex, ↓z_cons, ↓z_nil, ↓z_ret, ↓z_expr, ↓z_for, ↓z_par, ↓z_try0, ↓z_try1, ↓z_tests_nil, ↓z_var, ↓z_non, ↓z_bl, ↓z_int, ↓z_str, ↓z_gint, ↓z_bop, ↓z_neg, ↓z_not, ↓z_cmp, ↓z_cmp2, ↓z_and, ↓z_or, ↓z_ite, ↓z_tup, ↓z_lst, ↓z_ix, ↓z_slice, ↓z_o_nil, ↓z_o_cons, ↓z_sl_tup, ↓z_sl_loc, ↓z_call, ↓z_bi, ↓z_meth, ↓z_isin, ↓z_xfld, ↓z_xis, ↓z_es_nil, ↓z_es_cons, ↓z_i_seq, ↓z_i_rng1, ↓z_i_rng2, ↓z_i_zip, ↓z_lc, ↓z_lcF, ↓z_t_cons, ↓z_asg, ↓z_if, ↓z_raise, ↓z_forF, ↓z_aug, ↓z_asgS, ↓z_brk, ↓z_cnt, ↓z_pass, ↓z_ret0, ↓z_whl, ↓z_add, ↓z_sub, ↓z_mul, ↓z_div, ↓z_mod, ↓z_pow, ↓z_addt, ↓z_eq, ↓z_ne, ↓z_lt, ↓z_le, ↓z_gt, ↓z_ge, ↓z_is_b, ↓z_is_n, ↓z_is_i, ↓z_is_t, ↓z_no_b, ↓z_no_n, ↓z_no_i, ↓z_no_t, ↓z_gadd, ↓z_gsub, ↓z_gmul, ↓z_gdiv, ↓z_gmod, ↓z_len_t, ↓z_len_l, ↓z_tuple, ↓z_list, ↓z_int_i, ↓z_int_b, ↓z_bool_i, ↓z_bool_b, ↓z_abs, ↓z_min2, ↓z_max2, ↓z_sum, ↓z_app, ↓z_pop, startD, seq_tup, ty_ii, ty_ib, ty_it, ty_bi, ty_bb, ty_bt, ty_tt, ty_ti, ty_tb, ty_n, ty_st, ty_si, tr_bl, tr_int, tr_non, set_slot, set_nil, set_cons, sets_nil, sets_cons, wipe_nil, wipe_cons, gv_0, sv_0, gv_1, sv_1, gv_2, sv_2, gv_3, sv_3, gv_4, sv_4, gv_5, sv_5, gv_6, sv_6, gv_7, sv_7, gv_8, sv_8, gv_9, sv_9, gv_10, sv_10, gv_11, sv_11, gv_12, sv_12, gv_13, sv_13, gv_14, sv_14, gv_15, sv_15, gv_16, sv_16, gv_17, sv_17, gv_18, sv_18, gv_19, sv_19, gv_20, sv_20, gv_21, sv_21, gv_22, sv_22, gv_23, sv_23, Option.bind_some, at0, at1, at2, at3, set0, set1, set2, set3, mr_app, mr_ext, mr_pop, eqv_int, seq_end, at_end, set_end, at_e1, set_e1, seq_e1, at_e2, set_e2, seq_e2, at_e3, set_e3, seq_e3, at_e4, set_e4, seq_e4, pure_int, pure_bl, pure_non, pure_str, pure_tup, pures_nil, pures_cons, mul_l, mul_r, it_tup, it_loc, zip_tup, fu_items, fu_live, fu_zip]
  refine take_fr F2.re (by omega) (by omega) fun a N3 c3 a0 a1 r0 r1 F3 => ?_
  simp only [List.set_set] at F3
  simp [↓z_some, ↓z_none, ↓z_ok, ↓z_exc, ↓z_bind, ↓z_wr, ↓z_ws, ↓z_ow, ↓z_nx, ↓z_rt, ↓z_br, ↓z_ct, ↓z_ex, ↓z_cons, ↓z_nil, ↓z_ret, ↓z_expr, ↓z_for, ↓z_par, ↓z_try0, ↓z_try1, ↓z_tests_nil, ↓z_var, ↓z_non, ↓z_bl, ↓z_int, ↓z_str, ↓z_gint, ↓z_bop, ↓z_neg, ↓z_not, ↓z_cmp, ↓z_cmp2, ↓z_and, ↓z_or, ↓z_ite, ↓z_tup, ↓z_lst, ↓z_ix, ↓z_slice, ↓z_o_nil, ↓z_o_cons, ↓z_sl_tup, ↓z_sl_loc, ↓z_call, ↓z_bi, ↓z_meth, ↓z_isin, ↓z_xfld, ↓z_xis, ↓z_es_nil, ↓z_es_cons, ↓z_i_seq, ↓z_i_rng1, ↓z_i_rng2, ↓z_i_zip, ↓z_lc, ↓z_lcF, ↓z_t_cons, ↓z_asg, ↓z_if, ↓z_raise, ↓z_forF, ↓z_aug, ↓z_asgS, ↓z_brk, ↓z_cnt, ↓z_pass, ↓z_ret0, ↓z_whl, ↓z_add, ↓z_sub, ↓z_mul, ↓z_div, ↓z_mod, ↓z_pow, ↓z_addt, ↓z_eq, ↓z_ne, ↓z_lt, ↓z_le, ↓z_gt, ↓z_ge, ↓z_is_b, ↓z_is_n, ↓z_is_i, ↓z_is_t, ↓z_no_b, ↓z_no_n, ↓z_no_i, ↓z_no_t, ↓z_gadd, ↓z_gsub, ↓z_gmul, ↓z_gdiv, ↓z_gmod, ↓z_len_t, ↓z_len_l, ↓z_tuple, ↓z_list, ↓z_int_i, ↓z_int_b, ↓z_bool_i, ↓z_bool_b, ↓z_abs, ↓z_min2, ↓z_max2, ↓z_sum, ↓z_app, ↓z_pop, startD, seq_tup, ty_ii, ty_ib, ty_it, ty_bi, ty_bb, ty_bt, ty_tt, ty_ti, ty_tb, ty_n, ty_st, ty_si, tr_bl, tr_int, tr_non, set_slot, set_nil, set_cons, sets_nil, sets_cons, wipe_nil, wipe_cons, gv_0, sv_0, gv_1, sv_1, gv_2, sv_2, gv_3, sv_3, gv_4, sv_4, gv_5, sv_5, gv_6, sv_6, gv_7, sv_7, gv_8, sv_8, gv_9, sv_9, gv_10, sv_10, gv_11, sv_11, gv_12, sv_12, gv_13, sv_13, gv_14, sv_14, gv_15, sv_15, gv_16, sv_16, gv_17, sv_17, gv_18, sv_18, gv_19, sv_19, gv_20, sv_20, gv_21, sv_21, gv_22, sv_22, gv_23, sv_23, Option.bind_some, at0, at1, at2, at3, set0, set1, set2, set3, mr_app, mr_ext, mr_pop, eqv_int, seq_end, at_end, set_end, at_e1, set_e1, seq_e1, at_e2, set_e2, seq_e2, at_e3, set_e3, seq_e3, at_e4, set_e4, seq_e4, pure_int, pure_bl, pure_non, pure_str, pure_tup, pures_nil, pures_cons, mul_l, mul_r, it_tup, it_loc, zip_tup, fu_items, fu_live, fu_zip, ↓z_len_eM]
  refine take_fr F3.re (by omega) (by omega) fun z N4 c4 z0 z1 t0 t1 F4 => ?_
  have hi : i.toNat < M.length := by omega
  have ei : M[i.toNat]? = some M[i.toNat] := List.getElem?_eq_getElem hi
  have li := (W.std _ (List.getElem_mem hi)).1
  have ai : atD (M.map eS) i = some (eS M[i.toNat]) := at_int i0 (by rw [List.getElem?_map, ei]; rfl)
  generalize M[i.toNat] = si at ei li ai
  simp [↓z_some, ↓z_none, ↓z_ok, ↓z_exc, ↓z_bind, ↓z_wr, ↓z_ws, ↓z_ow, ↓z_nx, ↓z_rt, ↓z_br, ↓z_ct, ↓z_ex, ↓z_cons, ↓z_nil, ↓z_ret, ↓z_expr, ↓z_for, ↓z_par, ↓z_try0, ↓z_try1, ↓z_tests_nil, ↓z_var, ↓z_non, ↓z_bl, ↓z_int, ↓z_str, ↓z_gint, ↓z_bop, ↓z_neg, ↓z_not, ↓z_cmp, ↓z_cmp2, ↓z_and, ↓z_or, ↓z_ite, ↓z_tup, ↓z_lst, ↓z_ix, ↓z_slice, ↓z_o_nil, ↓z_o_cons, ↓z_sl_tup, ↓z_sl_loc, ↓z_call, ↓z_bi, ↓z_meth, ↓z_isin, ↓z_xfld, ↓z_xis, ↓z_es_nil, ↓z_es_cons, ↓z_i_seq, ↓z_i_rng1, ↓z_i_rng2, ↓z_i_zip, ↓z_lc, ↓z_lcF, ↓z_t_cons, ↓z_asg, ↓z_if, ↓z_raise, ↓z_forF, ↓z_aug, ↓z_asgS, ↓z_brk, ↓z_cnt, ↓z_pass, ↓z_ret0, ↓z_whl, ↓z_add, ↓z_sub, ↓z_mul, ↓z_div, ↓z_mod, ↓z_pow, ↓z_addt, ↓z_eq, ↓z_ne, ↓z_lt, ↓z_le, ↓z_gt, ↓z_ge, ↓z_is_b, ↓z_is_n, ↓z_is_i, ↓z_is_t, ↓z_no_b, ↓z_no_n, ↓z_no_i, ↓z_no_t, ↓z_gadd, ↓z_gsub, ↓z_gmul, ↓z_gdiv, ↓z_gmod, ↓z_len_t, ↓z_len_l, ↓z_tuple, ↓z_list, ↓z_int_i, ↓z_int_b, ↓z_bool_i, ↓z_bool_b, ↓z_abs, ↓z_min2, ↓z_max2, ↓z_sum, ↓z_app, ↓z_pop, startD, seq_tup, ty_ii, ty_ib, ty_it, ty_bi, ty_bb, ty_bt, ty_tt, ty_ti, ty_tb, ty_n, ty_st, ty_si, tr_bl, tr_int, tr_non, set_slot, set_nil, set_cons, sets_nil, sets_cons, wipe_nil, wipe_cons, gv_0, sv_0, gv_1, sv_1, gv_2, sv_2, gv_3, sv_3, gv_4, sv_4, gv_5, sv_5, gv_6, sv_6, gv_7, sv_7, gv_8, sv_8, gv_9, sv_9, gv_10, sv_10, gv_11, sv_11, gv_12, sv_12, gv_13, sv_13, gv_14, sv_14, gv_15, sv_15, gv_16, sv_16, gv_17, sv_17, gv_18, sv_18, gv_19, sv_19, gv_20, sv_20, gv_21, sv_21, gv_22, sv_22, gv_23, sv_23, Option.bind_some, at0, at1, at2, at3, set0, set1, set2, set3, mr_app, mr_ext, mr_pop, eqv_int, seq_end, at_end, set_end, at_e1, set_e1, seq_e1, at_e2, set_e2, seq_e2, at_e3, set_e3, seq_e3, at_e4, set_e4, seq_e4, pure_int, pure_bl, pure_non, pure_str, pure_tup, pures_nil, pures_cons, mul_l, mul_r, it_tup, it_loc, zip_tup, fu_items, fu_live, fu_zip, seq_eM, ai, ↓z_sl_eS, ↓z_sl_eM]
  have e1 : cutD (si.map eC) none (some j) ++ D.tup [D.int a, D.int z] :: cutD (si.map eC) (some (j + 1)) none = (si.set j.toNat (a, z)).map eC := cut_set (f := eC) (v := (a, z)) j0 (by omega)
  have e2 : cutD (M.map eS) none (some i) ++ D.tup ((si.set j.toNat (a, z)).map eC) :: cutD (M.map eS) (some (i + 1)) none = (M.set i.toNat (si.set j.toNat (a, z))).map eS := cut_set (f := eS) (v := si.set j.toNat (a, z)) i0 i1
  have b1 : (cutD (si.map eC) none (some j)).length ≤ si.length := by simpa using cut_len (xs := si.map eC)
  have b2 : (cutD (si.map eC) (some (j + 1)) none).length ≤ si.length := by simpa using cut_len (xs := si.map eC)
  have b3 : (cutD (M.map eS) none (some i)).length ≤ M.length := by simpa using cut_len (xs := M.map eS)
  have b4 : (cutD (M.map eS) (some (i + 1)) none).length ≤ M.length := by simpa using cut_len (xs := M.map eS)
  rw [e1, e2, List.take_of_length_le (show (μ.set b (bagO N4 g s c4)).length ≤ μ.length by simp)]
  have Wsi := W.std si (List.mem_of_getElem? ei)
  refine ⟨by omega, by omega, by omega, by omega, pures_map pure_eS _, F.pu.bag _ _ _ _ _, hQ _ N4 c4 (by simp) ⟨by simpa using hf1, ?_⟩ t0 (by omega) (F.setb t0 (by omega))⟩
  intro s1 hs1
  rw [List.length_set]
  rcases List.mem_or_eq_of_mem_set hs1 with h1 | rfl
  · exact W.std s1 h1
  · refine ⟨by rw [List.length_set]; exact Wsi.1, fun c hc => ?_⟩
    rcases List.mem_or_eq_of_mem_set hc with h1 | rfl
    · exact Wsi.2 c h1
    · exact ⟨⟨a0, by omega⟩, z0, by omega⟩
end K01

namespace K01
open PySem Mn
/-! ### numbers, cells, rows -/
theorem is_number_int {n : Nat} {i : Int} {μ : Mem} (h : Pu μ) : call (n + 1) 0 [.int i] μ = .ok (.bl true) μ := by
  refine pu (d := m_is_number) rfl rfl h rfl ?_
  simp [startD, wp_cons, wp_nil, wp_asg, wp_ite, wp_ret, wp_expr, wp_raise, wp_for, wp_forF, wp_nx, wp_rt, wp_ok, wp_exc, wp_ex, wp_bind, wp_test, evalE, evalEs, evalO, evalTs, evalI, isTy, okO, truM, bopD, copD, biD, mtD, mtRecv, ixD, atD, sliceD, seqM, setT, setTs, shp_int, shp_bl, shp_non, shp_tup63, shp_tup62, shp_tup61, shp_tup60, shps_nil, shps_cons, lim0, lim1, lim2, lim3, lim4, lim5, lim6, m_is_number]
theorem is_between_int {n : Nat} {v l m : Int} {μ : Mem} (h : Pu μ) : call (n + 2) 1 [.int v, .int l, .int m] μ = .ok (.bl (decide (l ≤ v ∧ v ≤ m))) μ := by
  refine pu (d := m_is_between) rfl rfl h rfl ?_
  simp [startD, wp_cons, wp_nil, wp_asg, wp_ite, wp_ret, wp_expr, wp_raise, wp_for, wp_forF, wp_nx, wp_rt, wp_ok, wp_exc, wp_ex, wp_bind, wp_test, evalE, evalEs, evalO, evalTs, evalI, isTy, okO, truM, bopD, copD, biD, mtD, mtRecv, ixD, atD, sliceD, seqM, setT, setTs, shp_int, shp_bl, shp_non, shp_tup63, shp_tup62, shp_tup61, shp_tup60, shps_nil, shps_cons, lim0, lim1, lim2, lim3, lim4, lim5, lim6, m_is_between, is_number_int h]
  by_cases c : l ≤ v <;> simp [startD, wp_cons, wp_nil, wp_asg, wp_ite, wp_ret, wp_expr, wp_raise, wp_for, wp_forF, wp_nx, wp_rt, wp_ok, wp_exc, wp_ex, wp_bind, wp_test, evalE, evalEs, evalO, evalTs, evalI, isTy, okO, truM, bopD, copD, biD, mtD, mtRecv, ixD, atD, sliceD, seqM, setT, setTs, shp_int, shp_bl, shp_non, shp_tup63, shp_tup62, shp_tup61, shp_tup60, shps_nil, shps_cons, lim0, lim1, lim2, lim3, lim4, lim5, lim6, c]
theorem check_number_ok {n : Nat} {v l m : Int} {μ : Mem} (h : Pu μ) (h1 : l ≤ v) (h2 : v ≤ m) : call (n + 3) 2 [.int v, .int l, .int m] μ = .ok .non μ := by
  refine pu (d := m_check_number) rfl rfl h rfl ?_
  simp [startD, wp_cons, wp_nil, wp_asg, wp_ite, wp_ret, wp_expr, wp_raise, wp_for, wp_forF, wp_nx, wp_rt, wp_ok, wp_exc, wp_ex, wp_bind, wp_test, evalE, evalEs, evalO, evalTs, evalI, isTy, okO, truM, bopD, copD, biD, mtD, mtRecv, ixD, atD, sliceD, seqM, setT, setTs, shp_int, shp_bl, shp_non, shp_tup63, shp_tup62, shp_tup61, shp_tup60, shps_nil, shps_cons, lim0, lim1, lim2, lim3, lim4, lim5, lim6, m_check_number, is_between_int h, h1, h2]
theorem check_number_bad {n : Nat} {v l m : Int} {μ : Mem} (h : Pu μ) (h1 : ¬ (l ≤ v ∧ v ≤ m)) : call (n + 3) 2 [.int v, .int l, .int m] μ = .exc ⟨0, [("value", .int v), ("word", .str "badnumber")]⟩ μ := by
  refine px (d := m_check_number) rfl rfl h rfl ?_
  simp [startD, wp_cons, wp_nil, wp_asg, wp_ite, wp_ret, wp_expr, wp_raise, wp_for, wp_forF, wp_nx, wp_rt, wp_ok, wp_exc, wp_ex, wp_bind, wp_test, evalE, evalEs, evalO, evalTs, evalI, isTy, okO, truM, bopD, copD, biD, mtD, mtRecv, ixD, atD, sliceD, seqM, setT, setTs, shp_int, shp_bl, shp_non, shp_tup63, shp_tup62, shp_tup61, shp_tup60, shps_nil, shps_cons, lim0, lim1, lim2, lim3, lim4, lim5, lim6, m_check_number, is_between_int h, h1, mk0_0]
theorem is_pair_tup {n : Nat} {a b : D} {μ : Mem} (h : Pu μ) : call (n + 1) 5 [.tup [a, b]] μ = .ok (.bl true) μ := by
  refine pu (d := m_is_pair) rfl rfl h rfl ?_
  simp [startD, wp_cons, wp_nil, wp_asg, wp_ite, wp_ret, wp_expr, wp_raise, wp_for, wp_forF, wp_nx, wp_rt, wp_ok, wp_exc, wp_ex, wp_bind, wp_test, evalE, evalEs, evalO, evalTs, evalI, isTy, okO, truM, bopD, copD, biD, mtD, mtRecv, ixD, atD, sliceD, seqM, setT, setTs, shp_int, shp_bl, shp_non, shp_tup63, shp_tup62, shp_tup61, shp_tup60, shps_nil, shps_cons, lim0, lim1, lim2, lim3, lim4, lim5, lim6, m_is_pair, eqM_shp, eqv_int]
theorem law_is_int_int {n : Nat} {i : Int} {μ : Mem} (h : Pu μ) : call (n + 1) 18 [.int i] μ = .ok (.bl true) μ := by
  refine pu (d := m__law_is_int) rfl rfl h rfl ?_
  simp [startD, wp_cons, wp_nil, wp_asg, wp_ite, wp_ret, wp_expr, wp_raise, wp_for, wp_forF, wp_nx, wp_rt, wp_ok, wp_exc, wp_ex, wp_bind, wp_test, evalE, evalEs, evalO, evalTs, evalI, isTy, okO, truM, bopD, copD, biD, mtD, mtRecv, ixD, atD, sliceD, seqM, setT, setTs, shp_int, shp_bl, shp_non, shp_tup63, shp_tup62, shp_tup61, shp_tup60, shps_nil, shps_cons, lim0, lim1, lim2, lim3, lim4, lim5, lim6, m__law_is_int]
theorem is_cell_tup {n : Nat} {a g K : Int} {μ : Mem} (h : Pu μ) : call (n + 3) 7 [.tup [.int a, .int g], .int K] μ = .ok (.bl (decide ((0 ≤ a ∧ a ≤ 99) ∧ 0 ≤ g ∧ g ≤ K - 1))) μ := by
  refine pu (d := m_is_cell) rfl rfl h rfl ?_
  by_cases c : 0 ≤ a ∧ a ≤ 99 <;> simp [startD, wp_cons, wp_nil, wp_asg, wp_ite, wp_ret, wp_expr, wp_raise, wp_for, wp_forF, wp_nx, wp_rt, wp_ok, wp_exc, wp_ex, wp_bind, wp_test, evalE, evalEs, evalO, evalTs, evalI, isTy, okO, truM, bopD, copD, biD, mtD, mtRecv, ixD, atD, sliceD, seqM, setT, setTs, shp_int, shp_bl, shp_non, shp_tup63, shp_tup62, shp_tup61, shp_tup60, shps_nil, shps_cons, lim0, lim1, lim2, lim3, lim4, lim5, lim6, m_is_cell, is_pair_tup h, is_between_int h, c]
theorem are_letters_row {n : Nat} {r : List Int} {k : Int} {μ : Mem} (h : Pu μ) : call (n + 3) 3 [eR r, .int k] μ = .ok (.bl (decide (∀ x ∈ r, 0 ≤ x ∧ x ≤ k - 1))) μ := by
  refine pu (d := m_are_letters) rfl rfl h rfl ?_
  simp [startD, wp_cons, wp_nil, wp_asg, wp_ite, wp_ret, wp_expr, wp_raise, wp_for, wp_forF, wp_nx, wp_rt, wp_ok, wp_exc, wp_ex, wp_bind, wp_test, evalE, evalEs, evalO, evalTs, evalI, isTy, okO, truM, bopD, copD, biD, mtD, mtRecv, ixD, atD, sliceD, seqM, setT, setTs, shp_int, shp_bl, shp_non, shp_tup63, shp_tup62, shp_tup61, shp_tup60, shps_nil, shps_cons, lim0, lim1, lim2, lim3, lim4, lim5, lim6, m_are_letters, eR]
  refine wp_for_items (fun i env μ1 => (∃ a, env = [some (.tup (r.map .int)), some (.int k), a]) ∧ μ1 = μ ∧ ∀ (j : Nat) (x : Int), j < i → r[j]? = some x → 0 ≤ x ∧ x ≤ k - 1) ⟨⟨_, rfl⟩, rfl, fun j x hj => absurd hj (Nat.not_lt_zero _)⟩ ?_ ?_
  · rintro i d env μ1 hd ⟨⟨a, rfl⟩, rfl, ih⟩
    rw [List.getElem?_map] at hd
    obtain ⟨x, hx, rfl⟩ := Option.map_eq_some_iff.mp hd
    by_cases c : 0 ≤ x ∧ x ≤ k - 1
    · simp [startD, wp_cons, wp_nil, wp_asg, wp_ite, wp_ret, wp_expr, wp_raise, wp_for, wp_forF, wp_nx, wp_rt, wp_ok, wp_exc, wp_ex, wp_bind, wp_test, evalE, evalEs, evalO, evalTs, evalI, isTy, okO, truM, bopD, copD, biD, mtD, mtRecv, ixD, atD, sliceD, seqM, setT, setTs, shp_int, shp_bl, shp_non, shp_tup63, shp_tup62, shp_tup61, shp_tup60, shps_nil, shps_cons, lim0, lim1, lim2, lim3, lim4, lim5, lim6, is_between_int h, c]
      intro j y hj hy
      rcases Nat.lt_succ_iff_lt_or_eq.mp hj with hj | rfl
      · exact ih j y hj hy
      · rw [hx] at hy
        cases hy
        exact c
    · simp [startD, wp_cons, wp_nil, wp_asg, wp_ite, wp_ret, wp_expr, wp_raise, wp_for, wp_forF, wp_nx, wp_rt, wp_ok, wp_exc, wp_ex, wp_bind, wp_test, evalE, evalEs, evalO, evalTs, evalI, isTy, okO, truM, bopD, copD, biD, mtD, mtRecv, ixD, atD, sliceD, seqM, setT, setTs, shp_int, shp_bl, shp_non, shp_tup63, shp_tup62, shp_tup61, shp_tup60, shps_nil, shps_cons, lim0, lim1, lim2, lim3, lim4, lim5, lim6, is_between_int h, c]
      exact ⟨x, List.mem_of_getElem? hx, fun h0 => by omega⟩
  · rintro env μ1 ⟨_, rfl, ih⟩
    simp [startD, wp_cons, wp_nil, wp_asg, wp_ite, wp_ret, wp_expr, wp_raise, wp_for, wp_forF, wp_nx, wp_rt, wp_ok, wp_exc, wp_ex, wp_bind, wp_test, evalE, evalEs, evalO, evalTs, evalI, isTy, okO, truM, bopD, copD, biD, mtD, mtRecv, ixD, atD, sliceD, seqM, setT, setTs, shp_int, shp_bl, shp_non, shp_tup63, shp_tup62, shp_tup61, shp_tup60, shps_nil, shps_cons, lim0, lim1, lim2, lim3, lim4, lim5, lim6]
    intro x hx
    obtain ⟨j, hj, e⟩ := List.mem_iff_getElem.mp hx
    exact ih j x (by simpa using hj) (by rw [List.getElem?_eq_getElem hj, e])
theorem is_row_row {n : Nat} {r : List Int} {k : Int} {μ : Mem} (h : Pu μ) (hl : r.length ≤ 300) : call (n + 4) 4 [eR r, .int k] μ = .ok (.bl (decide (∀ x ∈ r, 0 ≤ x ∧ x ≤ k - 1))) μ := by
  refine pu (d := m_is_row) rfl rfl h rfl ?_
  have e := are_letters_row (n := n) (r := r) (k := k) h
  generalize decide (∀ x ∈ r, 0 ≤ x ∧ x ≤ k - 1) = b at e ⊢
  cases b with
  | false => simp [startD, wp_cons, wp_nil, wp_asg, wp_ite, wp_ret, wp_expr, wp_raise, wp_for, wp_forF, wp_nx, wp_rt, wp_ok, wp_exc, wp_ex, wp_bind, wp_test, evalE, evalEs, evalO, evalTs, evalI, isTy, okO, truM, bopD, copD, biD, mtD, mtRecv, ixD, atD, sliceD, seqM, setT, setTs, shp_int, shp_bl, shp_non, shp_tup63, shp_tup62, shp_tup61, shp_tup60, shps_nil, shps_cons, lim0, lim1, lim2, lim3, lim4, lim5, lim6, m_is_row, e]
  | true =>
    simp [startD, wp_cons, wp_nil, wp_asg, wp_ite, wp_ret, wp_expr, wp_raise, wp_for, wp_forF, wp_nx, wp_rt, wp_ok, wp_exc, wp_ex, wp_bind, wp_test, evalE, evalEs, evalO, evalTs, evalI, isTy, okO, truM, bopD, copD, biD, mtD, mtRecv, ixD, atD, sliceD, seqM, setT, setTs, shp_int, shp_bl, shp_non, shp_tup63, shp_tup62, shp_tup61, shp_tup60, shps_nil, shps_cons, lim0, lim1, lim2, lim3, lim4, lim5, lim6, m_is_row, e]
    simp [startD, wp_cons, wp_nil, wp_asg, wp_ite, wp_ret, wp_expr, wp_raise, wp_for, wp_forF, wp_nx, wp_rt, wp_ok, wp_exc, wp_ex, wp_bind, wp_test, evalE, evalEs, evalO, evalTs, evalI, isTy, okO, truM, bopD, copD, biD, mtD, mtRecv, ixD, atD, sliceD, seqM, setT, setTs, shp_int, shp_bl, shp_non, shp_tup63, shp_tup62, shp_tup61, shp_tup60, shps_nil, shps_cons, lim0, lim1, lim2, lim3, lim4, lim5, lim6, eR]
    omega
def Row (k : Int) (r : List Int) : Prop := r.length ≤ 300 ∧ ∀ x ∈ r, 0 ≤ x ∧ x ≤ k - 1
theorem check_row_ok {n : Nat} {r : List Int} {k : Int} {μ : Mem} (h : Pu μ) (hk : 1 ≤ k ∧ k ≤ 6) (hr : Row k r) : call (n + 5) 8 [eR r, .int k] μ = .ok .non μ := by
  refine pu (d := m_check_row) rfl rfl h rfl ?_
  simp [startD, wp_cons, wp_nil, wp_asg, wp_ite, wp_ret, wp_expr, wp_raise, wp_for, wp_forF, wp_nx, wp_rt, wp_ok, wp_exc, wp_ex, wp_bind, wp_test, evalE, evalEs, evalO, evalTs, evalI, isTy, okO, truM, bopD, copD, biD, mtD, mtRecv, ixD, atD, sliceD, seqM, setT, setTs, shp_int, shp_bl, shp_non, shp_tup63, shp_tup62, shp_tup61, shp_tup60, shps_nil, shps_cons, lim0, lim1, lim2, lim3, lim4, lim5, lim6, m_check_row, check_number_ok h hk.1 hk.2, is_row_row h hr.1, decide_eq_true hr.2]
theorem check_row_bad {n : Nat} {r : List Int} {k : Int} {μ : Mem} (h : Pu μ) (hk : 1 ≤ k ∧ k ≤ 6) (hl : r.length ≤ 300) (hr : ¬ ∀ x ∈ r, 0 ≤ x ∧ x ≤ k - 1) : call (n + 5) 8 [eR r, .int k] μ = .exc ⟨2, [("value", eR r), ("word", .str "badrow")]⟩ μ := by
  refine px (d := m_check_row) rfl rfl h (by simp [eR, D.pure, shps_pures (shps_ints (k := 0) r)]) ?_
  simp [startD, wp_cons, wp_nil, wp_asg, wp_ite, wp_ret, wp_expr, wp_raise, wp_for, wp_forF, wp_nx, wp_rt, wp_ok, wp_exc, wp_ex, wp_bind, wp_test, evalE, evalEs, evalO, evalTs, evalI, isTy, okO, truM, bopD, copD, biD, mtD, mtRecv, ixD, atD, sliceD, seqM, setT, setTs, shp_int, shp_bl, shp_non, shp_tup63, shp_tup62, shp_tup61, shp_tup60, shps_nil, shps_cons, lim0, lim1, lim2, lim3, lim4, lim5, lim6, m_check_row, check_number_ok h hk.1 hk.2, is_row_row h hl, decide_eq_false hr, mk0_2]
/-! ### lots -/
theorem eL_at {l : List (List Int)} {i : Nat} {r : List Int} (h : l[i]? = some r) : (l.map eR)[i]? = some (eR r) := by rw [List.getElem?_map, h]; rfl
theorem wp_for_rng {m : Int} {f : D → Env' → Mem → SR} {P : Post} (I : Nat → Env' → Mem → Prop) {env : Env'} {μ : Mem} (hm : 0 ≤ m) (h0 : I 0 env μ)
    (hs : ∀ (i : Nat) env μ, (i : Int) < m → I i env μ → (f (.int i) env μ).wp { P with nx := I (i + 1), ct := I (i + 1), br := P.nx }) (he : ∀ env μ, I m.toNat env μ → P.nx env μ) : (forGo (.items (rngD 0 m)) f (rngD 0 m).length 0 env μ).wp P := by
  have hl : (rngD 0 m).length = m.toNat := by simp [rngD]
  refine wp_for_items I h0 (fun i d env μ hd hI => ?_) (fun env μ hI => he env μ (by rw [← hl]; exact hI))
  have hi : i < m.toNat := by rw [← hl]; exact (List.getElem?_eq_some_iff.mp hd).1
  have : d = .int i := by
    simp [rngD, hi] at hd
    exact hd.symm
  subst this
  exact hs i env μ (by omega) hI
theorem check_lot_ok {n : Nat} {l : List (List Int)} {k : Int} {μ : Mem} (h : Pu μ) (hk : 1 ≤ k ∧ k ≤ 6) (hl : l.length ≤ 128) (hr : ∀ r ∈ l, Row k r) : call (n + 5) 9 [eL l, .int k] μ = .ok .non μ := by
  refine pu (d := m_check_lot) rfl rfl h rfl ?_
  have i1 : (l.length : Int) ≤ 128 := by omega
  have i2 : (l.length : Int) ≤ 1000000000 := by omega
  simp [startD, wp_cons, wp_nil, wp_asg, wp_ite, wp_ret, wp_expr, wp_raise, wp_for, wp_forF, wp_nx, wp_rt, wp_ok, wp_exc, wp_ex, wp_bind, wp_test, evalE, evalEs, evalO, evalTs, evalI, isTy, okO, truM, bopD, copD, biD, mtD, mtRecv, ixD, atD, sliceD, seqM, setT, setTs, shp_int, shp_bl, shp_non, shp_tup63, shp_tup62, shp_tup61, shp_tup60, shps_nil, shps_cons, lim0, lim1, lim2, lim3, lim4, lim5, lim6, m_check_lot, check_number_ok h hk.1 hk.2, eL, i1, i2, Int.not_lt.mpr i1]
  refine wp_for_rng (fun i env μ1 => (∃ a, env = [some (.tup (l.map eR)), some (.int k), a]) ∧ μ1 = μ) (Int.natCast_nonneg _) ⟨⟨_, rfl⟩, rfl⟩ ?_ ?_
  · rintro i env μ1 hi ⟨⟨a, rfl⟩, rfl⟩
    have hi' : i < l.length := by omega
    have e : l[i]? = some l[i] := List.getElem?_eq_getElem hi'
    have rr := hr _ (List.getElem_mem hi')
    simp [startD, wp_cons, wp_nil, wp_asg, wp_ite, wp_ret, wp_expr, wp_raise, wp_for, wp_forF, wp_nx, wp_rt, wp_ok, wp_exc, wp_ex, wp_bind, wp_test, evalE, evalEs, evalO, evalTs, evalI, isTy, okO, truM, bopD, copD, biD, mtD, mtRecv, ixD, atD, sliceD, seqM, setT, setTs, shp_int, shp_bl, shp_non, shp_tup63, shp_tup62, shp_tup61, shp_tup60, shps_nil, shps_cons, lim0, lim1, lim2, lim3, lim4, lim5, lim6, hi', is_row_row h rr.1, decide_eq_true rr.2]
  · rintro env μ1 ⟨_, rfl⟩
    simp [startD, wp_cons, wp_nil, wp_asg, wp_ite, wp_ret, wp_expr, wp_raise, wp_for, wp_forF, wp_nx, wp_rt, wp_ok, wp_exc, wp_ex, wp_bind, wp_test, evalE, evalEs, evalO, evalTs, evalI, isTy, okO, truM, bopD, copD, biD, mtD, mtRecv, ixD, atD, sliceD, seqM, setT, setTs, shp_int, shp_bl, shp_non, shp_tup63, shp_tup62, shp_tup61, shp_tup60, shps_nil, shps_cons, lim0, lim1, lim2, lim3, lim4, lim5, lim6]
theorem check_lot_bad {n : Nat} {l m : List (List Int)} {r : List Int} {k : Int} {μ : Mem} (h : Pu μ) (hk : 1 ≤ k ∧ k ≤ 6) (hl : (l ++ r :: m).length ≤ 128) (hr : ∀ r ∈ l, Row k r) (h1 : r.length ≤ 300) (h2 : ¬ ∀ x ∈ r, 0 ≤ x ∧ x ≤ k - 1) :
    call (n + 5) 9 [eL (l ++ r :: m), .int k] μ = .exc ⟨3, [("place", .int l.length), ("word", .str "badlot")]⟩ μ := by
  refine px (d := m_check_lot) rfl rfl h rfl ?_
  generalize hL : l ++ r :: m = L at hl ⊢
  have i1 : (L.length : Int) ≤ 128 := by omega
  have i2 : (L.length : Int) ≤ 1000000000 := by omega
  simp [startD, wp_cons, wp_nil, wp_asg, wp_ite, wp_ret, wp_expr, wp_raise, wp_for, wp_forF, wp_nx, wp_rt, wp_ok, wp_exc, wp_ex, wp_bind, wp_test, evalE, evalEs, evalO, evalTs, evalI, isTy, okO, truM, bopD, copD, biD, mtD, mtRecv, ixD, atD, sliceD, seqM, setT, setTs, shp_int, shp_bl, shp_non, shp_tup63, shp_tup62, shp_tup61, shp_tup60, shps_nil, shps_cons, lim0, lim1, lim2, lim3, lim4, lim5, lim6, m_check_lot, check_number_ok h hk.1 hk.2, eL, i1, i2, Int.not_lt.mpr i1]
  refine wp_for_rng (fun i env μ1 => (∃ a, env = [some (.tup (L.map eR)), some (.int k), a]) ∧ μ1 = μ ∧ i ≤ l.length) (Int.natCast_nonneg _) ⟨⟨_, rfl⟩, rfl, Nat.zero_le _⟩ ?_ ?_
  · rintro i env μ1 hi ⟨⟨a, rfl⟩, rfl, hle⟩
    have hi' : i < L.length := by omega
    rcases Nat.lt_or_ge i l.length with c | c
    · have e : L[i] = l[i] := by subst hL; exact List.getElem_append_left c
      have rr := hr _ (List.getElem_mem c)
      simp [startD, wp_cons, wp_nil, wp_asg, wp_ite, wp_ret, wp_expr, wp_raise, wp_for, wp_forF, wp_nx, wp_rt, wp_ok, wp_exc, wp_ex, wp_bind, wp_test, evalE, evalEs, evalO, evalTs, evalI, isTy, okO, truM, bopD, copD, biD, mtD, mtRecv, ixD, atD, sliceD, seqM, setT, setTs, shp_int, shp_bl, shp_non, shp_tup63, shp_tup62, shp_tup61, shp_tup60, shps_nil, shps_cons, lim0, lim1, lim2, lim3, lim4, lim5, lim6, hi', e, is_row_row h rr.1, decide_eq_true rr.2]
      omega
    · have hi2 : i = l.length := by omega
      subst hi2
      have e : L[l.length] = r := by subst hL; simp
      simp [startD, wp_cons, wp_nil, wp_asg, wp_ite, wp_ret, wp_expr, wp_raise, wp_for, wp_forF, wp_nx, wp_rt, wp_ok, wp_exc, wp_ex, wp_bind, wp_test, evalE, evalEs, evalO, evalTs, evalI, isTy, okO, truM, bopD, copD, biD, mtD, mtRecv, ixD, atD, sliceD, seqM, setT, setTs, shp_int, shp_bl, shp_non, shp_tup63, shp_tup62, shp_tup61, shp_tup60, shps_nil, shps_cons, lim0, lim1, lim2, lim3, lim4, lim5, lim6, hi', e, is_row_row h h1, decide_eq_false h2, mk0_3]
  · rintro env μ1 ⟨_, rfl, hle⟩
    subst hL
    simp at hle
    omega
/-! ### machines -/
def OkC (K : Int) (c : Cell) : Prop := (0 ≤ c.1 ∧ c.1 ≤ 99) ∧ 0 ≤ c.2 ∧ c.2 ≤ K - 1
structure Wf (M : List (List Cell)) (k : Nat) : Prop where
  few : 1 ≤ M.length ∧ M.length ≤ 64
  lk : 1 ≤ k ∧ k ≤ 6
  std : ∀ s ∈ M, s.length = k ∧ ∀ c ∈ s, OkC M.length c
theorem is_cell_c {n : Nat} {c : Cell} {K : Int} {μ : Mem} (h : Pu μ) (ok : OkC K c) : call (n + 3) 7 [eC c, .int K] μ = .ok (.bl true) μ := by
  have := is_cell_tup (n := n) (a := c.1) (g := c.2) (K := K) h
  rw [decide_eq_true (show (0 ≤ c.1 ∧ c.1 ≤ 99) ∧ 0 ≤ c.2 ∧ c.2 ≤ K - 1 from ok)] at this
  exact this
/-- a standing's cells -/
theorem cells_ok {n : Nat} {st : List Cell} {N : Nat} {Ms : List D} {sD : D} {P : Post} {μ : Mem} {b : Option D} (h : Pu μ) (hN : Ms.length = N) (hc : ∀ c ∈ st, OkC N c) (hP : ∀ b, P.nx [some (.tup Ms), some sD, some (eS st), b] μ) :
    (forGo (.items (rngD 0 st.length)) (forF par0 mk0 (call (n + 3)) none (.slot 3) (.cons (.ite (.not (.call 7 (.cons (.ix (.var 2) (.var 3)) (.cons (.bi .len (.cons (.var 0) .nil)) .nil)))) (.cons (.raise 1 (.cons (.str "cell") (.cons (.tup (.cons (.var 1) (.cons (.var 3) .nil))) .nil))) .nil) .nil) .nil)) (rngD 0 st.length).length 0 [some (.tup Ms), some sD, some (eS st), b] μ).wp P := by
  refine wp_for_rng (fun i env μ1 => (∃ b, env = [some (.tup Ms), some sD, some (eS st), b]) ∧ μ1 = μ) (Int.natCast_nonneg _) ⟨⟨_, rfl⟩, rfl⟩ ?_ ?_
  · rintro i env μ1 hi ⟨⟨a, rfl⟩, rfl⟩
    have hi' : i < st.length := by omega
    simp [startD, wp_cons, wp_nil, wp_asg, wp_ite, wp_ret, wp_expr, wp_raise, wp_for, wp_forF, wp_nx, wp_rt, wp_ok, wp_exc, wp_ex, wp_bind, wp_test, evalE, evalEs, evalO, evalTs, evalI, isTy, okO, truM, bopD, copD, biD, mtD, mtRecv, ixD, atD, sliceD, seqM, setT, setTs, shp_int, shp_bl, shp_non, shp_tup63, shp_tup62, shp_tup61, shp_tup60, shps_nil, shps_cons, lim0, lim1, lim2, lim3, lim4, lim5, lim6, hi', eS, hN, is_cell_c h (hc _ (List.getElem_mem hi'))]
  · rintro env μ1 ⟨⟨a, rfl⟩, rfl⟩
    exact hP a
/-- the body of the loop that stands at i -/
def nthS : MSs → Nat → MS
  | .nil, _ => .pass
  | .cons s _, 0 => s
  | .cons _ r, i + 1 => nthS r i
def loopB (d : MDef) (i : Nat) : MSs := match nthS d.body i with
  | .for _ _ b => b
  | _ => .nil
structure WfN (M : List (List Cell)) (k N : Nat) : Prop where
  lk : 1 ≤ k ∧ k ≤ 6
  std : ∀ s ∈ M, s.length = k ∧ ∀ c ∈ s, OkC N c
theorem machine_turn {n i N k : Nat} {Ms : List D} {s0 st : List Cell} {a b c : Option D} {μ : Mem} {P : Post} (h : Pu μ) (hN : Ms.length = N) (h0 : Ms[0]? = some (eS s0)) (l0 : s0.length = k) (hi : Ms[i]? = some (eS st)) (ls : st.length = k) (hk : 1 ≤ k ∧ k ≤ 6) (hc : ∀ c ∈ st, OkC N c)
    (hP : ∀ a b c, P.nx [some (.tup Ms), a, b, c] μ) : (forF par0 mk0 (call (n + 3)) none (.slot 1) (loopB m_check_machine 1) (.int i) [some (.tup Ms), a, b, c] μ).wp P := by
  have k1 : (1 : Int) ≤ k := by omega
  have k2 : (k : Int) ≤ 6 := by omega
  have k3 : (k : Int) ≤ 1000000000 := by omega
  have lst : (st.map eC).length = k := by simp [ls]
  have ls0 : (s0.map eC).length = k := by simp [l0]
  unfold eS at h0 hi
  simp [startD, wp_cons, wp_nil, wp_asg, wp_ite, wp_ret, wp_expr, wp_raise, wp_for, wp_forF, wp_nx, wp_rt, wp_ok, wp_exc, wp_ex, wp_bind, wp_test, evalE, evalEs, evalO, evalTs, evalI, isTy, okO, truM, bopD, copD, biD, mtD, mtRecv, ixD, atD, sliceD, seqM, setT, setTs, shp_int, shp_bl, shp_non, shp_tup63, shp_tup62, shp_tup61, shp_tup60, shps_nil, shps_cons, lim0, lim1, lim2, lim3, lim4, lim5, lim6, loopB, nthS, m_check_machine, hi, h0, lst, ls0, k1, k2, k3, eqM_shp, eqv_int]
  subst ls
  exact cells_ok h hN hc fun b => hP _ _ _
theorem check_machine_ok {n : Nat} {M : List (List Cell)} {k : Nat} {μ : Mem} (h : Pu μ) (hf : 1 ≤ M.length ∧ M.length ≤ 64) (W : WfN M k M.length) : call (n + 4) 6 [eM M] μ = .ok .non μ := by
  refine pu (d := m_check_machine) rfl rfl h rfl ?_
  have i1 : (1 : Int) ≤ M.length := by omega
  have i2 : (M.length : Int) ≤ 64 := by omega
  have i3 : (M.length : Int) ≤ 1000000000 := by omega
  simp [startD, wp_cons, wp_nil, wp_asg, wp_ite, wp_ret, wp_expr, wp_raise, wp_for, wp_forF, wp_nx, wp_rt, wp_ok, wp_exc, wp_ex, wp_bind, wp_test, evalE, evalEs, evalO, evalTs, evalI, isTy, okO, truM, bopD, copD, biD, mtD, mtRecv, ixD, atD, sliceD, seqM, setT, setTs, shp_int, shp_bl, shp_non, shp_tup63, shp_tup62, shp_tup61, shp_tup60, shps_nil, shps_cons, lim0, lim1, lim2, lim3, lim4, lim5, lim6, m_check_machine, eM, i1, i2, i3]
  refine wp_for_rng (fun i env μ1 => (∃ a b c, env = [some (.tup (M.map eS)), a, b, c]) ∧ μ1 = μ) (Int.natCast_nonneg _) ⟨⟨_, _, _, rfl⟩, rfl⟩ ?_ ?_
  · rintro i env μ1 hi ⟨⟨a, b, c, rfl⟩, rfl⟩
    have hi' : i < M.length := by omega
    have e0 : (M.map eS)[0]? = some (eS M[0]) := by rw [List.getElem?_map, List.getElem?_eq_getElem hf.1]; rfl
    exact machine_turn h (by simp) (s0 := M[0]) e0 (W.std _ (List.getElem_mem _)).1 (st := M[i]) (by simp [hi']) (W.std _ (List.getElem_mem _)).1 W.lk (W.std _ (List.getElem_mem _)).2 fun a b c => ⟨⟨_, _, _, rfl⟩, rfl⟩
  · rintro env μ1 ⟨⟨a, b, c, rfl⟩, rfl⟩
    simp [startD, wp_cons, wp_nil, wp_asg, wp_ite, wp_ret, wp_expr, wp_raise, wp_for, wp_forF, wp_nx, wp_rt, wp_ok, wp_exc, wp_ex, wp_bind, wp_test, evalE, evalEs, evalO, evalTs, evalI, isTy, okO, truM, bopD, copD, biD, mtD, mtRecv, ixD, atD, sliceD, seqM, setT, setTs, shp_int, shp_bl, shp_non, shp_tup63, shp_tup62, shp_tup61, shp_tup60, shps_nil, shps_cons, lim0, lim1, lim2, lim3, lim4, lim5, lim6]
/-- one empty standing behind the others -/
theorem check_machine_bad {n : Nat} {M : List (List Cell)} {k N : Nat} {Ms : List D} {μ : Mem} (h : Pu μ) (hf : 1 ≤ M.length ∧ M.length ≤ 63) (W : WfN M k N) (hM : Ms = M.map eS ++ [.tup []]) (hN : Ms.length = N) :
    call (n + 4) 6 [.tup Ms] μ = .exc ⟨1, [("reason", .str "standing"), ("place", .tup [.int M.length]), ("word", .str "badmachine")]⟩ μ := by
  refine px (d := m_check_machine) rfl rfl h rfl ?_
  have hN' : N = M.length + 1 := by rw [← hN, hM]; simp
  have i1 : (1 : Int) ≤ N := by omega
  have i2 : (N : Int) ≤ 64 := by omega
  have i3 : (N : Int) ≤ 1000000000 := by omega
  simp [startD, wp_cons, wp_nil, wp_asg, wp_ite, wp_ret, wp_expr, wp_raise, wp_for, wp_forF, wp_nx, wp_rt, wp_ok, wp_exc, wp_ex, wp_bind, wp_test, evalE, evalEs, evalO, evalTs, evalI, isTy, okO, truM, bopD, copD, biD, mtD, mtRecv, ixD, atD, sliceD, seqM, setT, setTs, shp_int, shp_bl, shp_non, shp_tup63, shp_tup62, shp_tup61, shp_tup60, shps_nil, shps_cons, lim0, lim1, lim2, lim3, lim4, lim5, lim6, m_check_machine, hN, i1, i2, i3]
  refine wp_for_rng (fun i env μ1 => (∃ a b c, env = [some (.tup Ms), a, b, c]) ∧ μ1 = μ ∧ i ≤ M.length) (Int.natCast_nonneg _) ⟨⟨_, _, _, rfl⟩, rfl, Nat.zero_le _⟩ ?_ ?_
  · rintro i env μ1 hi ⟨⟨a, b, c, rfl⟩, rfl, hle⟩
    have e0 : Ms[0]? = some (eS M[0]) := by rw [hM, List.getElem?_append_left (by simp; omega), List.getElem?_map, List.getElem?_eq_getElem hf.1]; rfl
    rcases Nat.lt_or_ge i M.length with c1 | c1
    · have ei : Ms[i]? = some (eS M[i]) := by rw [hM, List.getElem?_append_left (by simp; omega), List.getElem?_map, List.getElem?_eq_getElem c1]; rfl
      exact machine_turn h hN (s0 := M[0]) e0 (W.std _ (List.getElem_mem _)).1 (st := M[i]) ei (W.std _ (List.getElem_mem _)).1 W.lk (W.std _ (List.getElem_mem _)).2 fun a b c => ⟨⟨_, _, _, rfl⟩, rfl, c1⟩
    · have hi2 : i = M.length := by omega
      subst hi2
      have ei : Ms[M.length]? = some (.tup []) := by rw [hM, List.getElem?_append_right (by simp)]; simp
      simp [startD, wp_cons, wp_nil, wp_asg, wp_ite, wp_ret, wp_expr, wp_raise, wp_for, wp_forF, wp_nx, wp_rt, wp_ok, wp_exc, wp_ex, wp_bind, wp_test, evalE, evalEs, evalO, evalTs, evalI, isTy, okO, truM, bopD, copD, biD, mtD, mtRecv, ixD, atD, sliceD, seqM, setT, setTs, shp_int, shp_bl, shp_non, shp_tup63, shp_tup62, shp_tup61, shp_tup60, shps_nil, shps_cons, lim0, lim1, lim2, lim3, lim4, lim5, lim6, ei, mk0_1]
  · rintro env μ1 ⟨⟨a, b, c, rfl⟩, rfl, hle⟩
    simp at hle
    omega
/-! ### the run -/
def cellAt (M : List (List Cell)) (s x : Int) : Cell := ((M[s.toNat]?.getD [])[x.toNat]?).getD (0, 0)
def step (M : List (List Cell)) (st : List Int × Int) (x : Int) : List Int × Int := (st.1 ++ [(cellAt M st.2 x).1], (cellAt M st.2 x).2)
def runF (M : List (List Cell)) (s : Int) (r : List Int) : List Int × Int := r.foldl (step M) ([], s)
/-- a machine that runs: k letters, its goals its own standings -/
structure Mc (M : List (List Cell)) (k : Nat) : Prop where
  few : 1 ≤ M.length ∧ M.length ≤ 64
  wf : WfN M k M.length
def In (M : List (List Cell)) (s : Int) : Prop := 0 ≤ s ∧ s < M.length
theorem cell_get {M : List (List Cell)} {k : Nat} (W : Mc M k) {s x : Int} (hs : In M s) (hx : 0 ≤ x ∧ x ≤ (k : Int) - 1) :
    ∃ st, M[s.toNat]? = some st ∧ st[x.toNat]? = some (cellAt M s x) ∧ OkC M.length (cellAt M s x) := by
  have h1 : s.toNat < M.length := by have := hs.1; have := hs.2; omega
  have e1 : M[s.toNat]? = some M[s.toNat] := List.getElem?_eq_getElem h1
  obtain ⟨q1, q2⟩ := W.wf.std _ (List.getElem_mem h1)
  have h2 : x.toNat < M[s.toNat].length := by rw [q1]; omega
  have e2 : M[s.toNat][x.toNat]? = some M[s.toNat][x.toNat] := List.getElem?_eq_getElem h2
  have e3 : cellAt M s x = M[s.toNat][x.toNat] := by unfold cellAt; rw [e1, Option.getD_some, e2]; rfl
  exact ⟨_, e1, by rw [e2, e3], by rw [e3]; exact q2 _ (List.getElem_mem h2)⟩
theorem run_in {M : List (List Cell)} {k : Nat} (W : Mc M k) : ∀ (r : List Int) (st : List Int × Int), In M st.2 → (∀ x ∈ r, 0 ≤ x ∧ x ≤ (k : Int) - 1) → In M (r.foldl (step M) st).2
  | [], st, h, _ => h
  | x :: r, st, h, hr => by
    obtain ⟨_, _, _, ok⟩ := cell_get W h (hr x List.mem_cons_self)
    refine run_in W r (step M st x) ?_ fun y hy => hr y (List.mem_cons_of_mem _ hy)
    obtain ⟨_, q1, q2⟩ := ok
    exact ⟨q1, by show (cellAt M st.2 x).2 < _; omega⟩
theorem run_len {M : List (List Cell)} : ∀ (r : List Int) (st : List Int × Int), (r.foldl (step M) st).1.length = st.1.length + r.length
  | [], st => rfl
  | x :: r, st => by
    rw [List.foldl_cons, run_len r]
    simp [step]
    omega
theorem mem_at (μ : Mem) (o : MO) : (μ ++ [o])[μ.length]? = some o := by simp
theorem mem_set (μ : Mem) (o u : MO) : (μ ++ [o]).set μ.length u = μ ++ [u] := by simp
theorem seq_top (μ : Mem) (xs : List D) : seqM (μ ++ [.lst xs]) (.loc μ.length) = some xs := seq_lst (mem_at _ _)
theorem seq_eRr (r : List Int) (μ : Mem) : seqM μ (eR r) = some (r.map D.int) := rfl
theorem run_ok {n : Nat} {M : List (List Cell)} {k : Nat} {s : Int} {r : List Int} {μ : Mem} (h : Pu μ) (W : Mc M k) (hs : In M s) (hr : Row k r) :
    call (n + 1) 10 [eM M, .int s, eR r] μ = .ok (.tup [eR (runF M s r).1, .int (runF M s r).2]) μ := by
  refine pu (d := m_run) rfl rfl h (by simp [D.pure, D.pures, pure_eR]) ?_
  simp [↓z_some, ↓z_none, ↓z_ok, ↓z_exc, ↓z_bind, ↓z_wr, ↓z_ws, ↓z_ow, ↓z_nx, ↓z_rt, ↓z_br, ↓z_ct, ↓z_ex, ↓z_cons, ↓z_nil, ↓z_ret, ↓z_expr, ↓z_for, ↓z_par, ↓z_try0, ↓z_try1, ↓z_tests_nil, ↓z_var, ↓z_non, ↓z_bl, ↓z_int, ↓z_str, ↓z_gint, ↓z_bop, ↓z_neg, ↓z_not, ↓z_cmp, ↓z_cmp2, ↓z_and, ↓z_or, ↓z_ite, ↓z_tup, ↓z_lst, ↓z_ix, ↓z_slice, ↓z_o_nil, ↓z_o_cons, ↓z_sl_tup, ↓z_sl_loc, ↓z_call, ↓z_bi, ↓z_meth, ↓z_isin, ↓z_xfld, ↓z_xis, ↓z_es_nil, ↓z_es_cons, ↓z_i_seq, ↓z_i_rng1, ↓z_i_rng2, ↓z_i_zip, ↓z_lc, ↓z_lcF, ↓z_t_cons, ↓z_asg, ↓z_if, ↓z_raise, ↓z_forF, ↓z_aug, ↓z_asgS, ↓z_brk, ↓z_cnt, ↓z_pass, ↓z_ret0, ↓z_whl, ↓z_add, ↓z_sub, ↓z_mul, ↓z_div, ↓z_mod, ↓z_pow, ↓z_addt, ↓z_eq, ↓z_ne, ↓z_lt, ↓z_le, ↓z_gt, ↓z_ge, ↓z_is_b, ↓z_is_n, ↓z_is_i, ↓z_is_t, ↓z_no_b, ↓z_no_n, ↓z_no_i, ↓z_no_t, ↓z_gadd, ↓z_gsub, ↓z_gmul, ↓z_gdiv, ↓z_gmod, ↓z_len_t, ↓z_len_l, ↓z_tuple, ↓z_list, ↓z_int_i, ↓z_int_b, ↓z_bool_i, ↓z_bool_b, ↓z_abs, ↓z_min2, ↓z_max2, ↓z_sum, ↓z_app, ↓z_pop, startD, seq_tup, ty_ii, ty_ib, ty_it, ty_bi, ty_bb, ty_bt, ty_tt, ty_ti, ty_tb, ty_n, ty_st, ty_si, tr_bl, tr_int, tr_non, set_slot, set_nil, set_cons, sets_nil, sets_cons, wipe_nil, wipe_cons, gv_0, sv_0, gv_1, sv_1, gv_2, sv_2, gv_3, sv_3, gv_4, sv_4, gv_5, sv_5, gv_6, sv_6, gv_7, sv_7, gv_8, sv_8, gv_9, sv_9, gv_10, sv_10, gv_11, sv_11, gv_12, sv_12, gv_13, sv_13, gv_14, sv_14, gv_15, sv_15, gv_16, sv_16, gv_17, sv_17, gv_18, sv_18, gv_19, sv_19, gv_20, sv_20, gv_21, sv_21, gv_22, sv_22, gv_23, sv_23, Option.bind_some, at0, at1, at2, at3, set0, set1, set2, set3, mr_app, mr_ext, mr_pop, eqv_int, seq_end, at_end, set_end, at_e1, set_e1, seq_e1, at_e2, set_e2, seq_e2, at_e3, set_e3, seq_e3, at_e4, set_e4, seq_e4, pure_int, pure_bl, pure_non, pure_str, pure_tup, pures_nil, pures_cons, mul_l, mul_r, it_tup, it_loc, zip_tup, fu_items, fu_live, fu_zip, m_run, eR]
  refine for_rule (it := .items (r.map .int)) (fun i env μ1 => (∃ a b c, env = [some (eM M), some (.int s), some (.tup (r.map .int)), some (.int ((r.take i).foldl (step M) ([], s)).2), some (.loc μ.length), a, b, c]) ∧ μ1 = μ ++ [.lst (((r.take i).foldl (step M) ([], s)).1.map .int)]) (fun _ _ _ _ => rfl) (by simp) ⟨⟨_, _, _, rfl⟩, rfl⟩ ?_ ?_
  · rintro i d env μ1 hd ⟨⟨a, b, c, rfl⟩, rfl⟩
    rw [List.getElem?_map] at hd
    obtain ⟨x, hx, rfl⟩ := Option.map_eq_some_iff.mp hd
    have hi := run_in W (r.take i) ([], s) hs fun y hy => hr.2 y (List.mem_of_mem_take hy)
    have tk : (r.take (i + 1)).foldl (step M) ([], s) = step M ((r.take i).foldl (step M) ([], s)) x := by
      rw [List.take_add_one, hx, List.foldl_append]
      rfl
    rw [tk]
    have hlen := run_len (M := M) (r.take i) ([], s)
    have hti : (r.take i).length ≤ 300 := by rw [List.length_take]; have := hr.1; omega
    generalize (r.take i).foldl (step M) ([], s) = st at hi hlen ⊢
    obtain ⟨acc, now⟩ := st
    obtain ⟨sd, e1, e2, ok⟩ := cell_get W hi (hr.2 x (List.mem_of_getElem? hx))
    have a1 : atD (M.map eS) now = some (eS sd) := at_int hi.1 (by rw [List.getElem?_map, e1]; rfl)
    have a2 : atD (sd.map eC) x = some (eC (cellAt M now x)) := at_int (hr.2 x (List.mem_of_getElem? hx)).1 (by rw [List.getElem?_map, e2]; rfl)
    have hacc : acc.length < 16000000 := by
      have hlen : acc.length = 0 + (r.take i).length := hlen
      omega
    simp [↓z_some, ↓z_none, ↓z_ok, ↓z_exc, ↓z_bind, ↓z_wr, ↓z_ws, ↓z_ow, ↓z_nx, ↓z_rt, ↓z_br, ↓z_ct, ↓z_ex, ↓z_cons, ↓z_nil, ↓z_ret, ↓z_expr, ↓z_for, ↓z_par, ↓z_try0, ↓z_try1, ↓z_tests_nil, ↓z_var, ↓z_non, ↓z_bl, ↓z_int, ↓z_str, ↓z_gint, ↓z_bop, ↓z_neg, ↓z_not, ↓z_cmp, ↓z_cmp2, ↓z_and, ↓z_or, ↓z_ite, ↓z_tup, ↓z_lst, ↓z_ix, ↓z_slice, ↓z_o_nil, ↓z_o_cons, ↓z_sl_tup, ↓z_sl_loc, ↓z_call, ↓z_bi, ↓z_meth, ↓z_isin, ↓z_xfld, ↓z_xis, ↓z_es_nil, ↓z_es_cons, ↓z_i_seq, ↓z_i_rng1, ↓z_i_rng2, ↓z_i_zip, ↓z_lc, ↓z_lcF, ↓z_t_cons, ↓z_asg, ↓z_if, ↓z_raise, ↓z_forF, ↓z_aug, ↓z_asgS, ↓z_brk, ↓z_cnt, ↓z_pass, ↓z_ret0, ↓z_whl, ↓z_add, ↓z_sub, ↓z_mul, ↓z_div, ↓z_mod, ↓z_pow, ↓z_addt, ↓z_eq, ↓z_ne, ↓z_lt, ↓z_le, ↓z_gt, ↓z_ge, ↓z_is_b, ↓z_is_n, ↓z_is_i, ↓z_is_t, ↓z_no_b, ↓z_no_n, ↓z_no_i, ↓z_no_t, ↓z_gadd, ↓z_gsub, ↓z_gmul, ↓z_gdiv, ↓z_gmod, ↓z_len_t, ↓z_len_l, ↓z_tuple, ↓z_list, ↓z_int_i, ↓z_int_b, ↓z_bool_i, ↓z_bool_b, ↓z_abs, ↓z_min2, ↓z_max2, ↓z_sum, ↓z_app, ↓z_pop, startD, seq_tup, ty_ii, ty_ib, ty_it, ty_bi, ty_bb, ty_bt, ty_tt, ty_ti, ty_tb, ty_n, ty_st, ty_si, tr_bl, tr_int, tr_non, set_slot, set_nil, set_cons, sets_nil, sets_cons, wipe_nil, wipe_cons, gv_0, sv_0, gv_1, sv_1, gv_2, sv_2, gv_3, sv_3, gv_4, sv_4, gv_5, sv_5, gv_6, sv_6, gv_7, sv_7, gv_8, sv_8, gv_9, sv_9, gv_10, sv_10, gv_11, sv_11, gv_12, sv_12, gv_13, sv_13, gv_14, sv_14, gv_15, sv_15, gv_16, sv_16, gv_17, sv_17, gv_18, sv_18, gv_19, sv_19, gv_20, sv_20, gv_21, sv_21, gv_22, sv_22, gv_23, sv_23, Option.bind_some, at0, at1, at2, at3, set0, set1, set2, set3, mr_app, mr_ext, mr_pop, eqv_int, seq_end, at_end, set_end, at_e1, set_e1, seq_e1, at_e2, set_e2, seq_e2, at_e3, set_e3, seq_e3, at_e4, set_e4, seq_e4, pure_int, pure_bl, pure_non, pure_str, pure_tup, pures_nil, pures_cons, mul_l, mul_r, it_tup, it_loc, zip_tup, fu_items, fu_live, fu_zip, seq_eM, a1, seq_eS, a2, seq_eC, eC, step, hacc]
  · rintro env μ1 ⟨⟨a, b, c, rfl⟩, rfl⟩
    simp [↓z_some, ↓z_none, ↓z_ok, ↓z_exc, ↓z_bind, ↓z_wr, ↓z_ws, ↓z_ow, ↓z_nx, ↓z_rt, ↓z_br, ↓z_ct, ↓z_ex, ↓z_cons, ↓z_nil, ↓z_ret, ↓z_expr, ↓z_for, ↓z_par, ↓z_try0, ↓z_try1, ↓z_tests_nil, ↓z_var, ↓z_non, ↓z_bl, ↓z_int, ↓z_str, ↓z_gint, ↓z_bop, ↓z_neg, ↓z_not, ↓z_cmp, ↓z_cmp2, ↓z_and, ↓z_or, ↓z_ite, ↓z_tup, ↓z_lst, ↓z_ix, ↓z_slice, ↓z_o_nil, ↓z_o_cons, ↓z_sl_tup, ↓z_sl_loc, ↓z_call, ↓z_bi, ↓z_meth, ↓z_isin, ↓z_xfld, ↓z_xis, ↓z_es_nil, ↓z_es_cons, ↓z_i_seq, ↓z_i_rng1, ↓z_i_rng2, ↓z_i_zip, ↓z_lc, ↓z_lcF, ↓z_t_cons, ↓z_asg, ↓z_if, ↓z_raise, ↓z_forF, ↓z_aug, ↓z_asgS, ↓z_brk, ↓z_cnt, ↓z_pass, ↓z_ret0, ↓z_whl, ↓z_add, ↓z_sub, ↓z_mul, ↓z_div, ↓z_mod, ↓z_pow, ↓z_addt, ↓z_eq, ↓z_ne, ↓z_lt, ↓z_le, ↓z_gt, ↓z_ge, ↓z_is_b, ↓z_is_n, ↓z_is_i, ↓z_is_t, ↓z_no_b, ↓z_no_n, ↓z_no_i, ↓z_no_t, ↓z_gadd, ↓z_gsub, ↓z_gmul, ↓z_gdiv, ↓z_gmod, ↓z_len_t, ↓z_len_l, ↓z_tuple, ↓z_list, ↓z_int_i, ↓z_int_b, ↓z_bool_i, ↓z_bool_b, ↓z_abs, ↓z_min2, ↓z_max2, ↓z_sum, ↓z_app, ↓z_pop, startD, seq_tup, ty_ii, ty_ib, ty_it, ty_bi, ty_bb, ty_bt, ty_tt, ty_ti, ty_tb, ty_n, ty_st, ty_si, tr_bl, tr_int, tr_non, set_slot, set_nil, set_cons, sets_nil, sets_cons, wipe_nil, wipe_cons, gv_0, sv_0, gv_1, sv_1, gv_2, sv_2, gv_3, sv_3, gv_4, sv_4, gv_5, sv_5, gv_6, sv_6, gv_7, sv_7, gv_8, sv_8, gv_9, sv_9, gv_10, sv_10, gv_11, sv_11, gv_12, sv_12, gv_13, sv_13, gv_14, sv_14, gv_15, sv_15, gv_16, sv_16, gv_17, sv_17, gv_18, sv_18, gv_19, sv_19, gv_20, sv_20, gv_21, sv_21, gv_22, sv_22, gv_23, sv_23, Option.bind_some, at0, at1, at2, at3, set0, set1, set2, set3, mr_app, mr_ext, mr_pop, eqv_int, seq_end, at_end, set_end, at_e1, set_e1, seq_e1, at_e2, set_e2, seq_e2, at_e3, set_e3, seq_e3, at_e4, set_e4, seq_e4, pure_int, pure_bl, pure_non, pure_str, pure_tup, pures_nil, pures_cons, mul_l, mul_r, it_tup, it_loc, zip_tup, fu_items, fu_live, fu_zip, runF, take_end]
theorem law_run_ok {n : Nat} {M : List (List Cell)} {k : Nat} {s : Int} {r : List Int} {μ : Mem} (h : Pu μ) (W : Mc M k) (hs : In M s) (hr : Row k r) :
    call (n + 1) 25 [eM M, .int s, eR r] μ = .ok (.tup [eR (runF M s r).1, .int (runF M s r).2]) μ := by
  refine pu (d := m__law_run) rfl rfl h (by simp [D.pure, D.pures, pure_eR]) ?_
  simp [↓z_some, ↓z_none, ↓z_ok, ↓z_exc, ↓z_bind, ↓z_wr, ↓z_ws, ↓z_ow, ↓z_nx, ↓z_rt, ↓z_br, ↓z_ct, ↓z_ex, ↓z_cons, ↓z_nil, ↓z_ret, ↓z_expr, ↓z_for, ↓z_par, ↓z_try0, ↓z_try1, ↓z_tests_nil, ↓z_var, ↓z_non, ↓z_bl, ↓z_int, ↓z_str, ↓z_gint, ↓z_bop, ↓z_neg, ↓z_not, ↓z_cmp, ↓z_cmp2, ↓z_and, ↓z_or, ↓z_ite, ↓z_tup, ↓z_lst, ↓z_ix, ↓z_slice, ↓z_o_nil, ↓z_o_cons, ↓z_sl_tup, ↓z_sl_loc, ↓z_call, ↓z_bi, ↓z_meth, ↓z_isin, ↓z_xfld, ↓z_xis, ↓z_es_nil, ↓z_es_cons, ↓z_i_seq, ↓z_i_rng1, ↓z_i_rng2, ↓z_i_zip, ↓z_lc, ↓z_lcF, ↓z_t_cons, ↓z_asg, ↓z_if, ↓z_raise, ↓z_forF, ↓z_aug, ↓z_asgS, ↓z_brk, ↓z_cnt, ↓z_pass, ↓z_ret0, ↓z_whl, ↓z_add, ↓z_sub, ↓z_mul, ↓z_div, ↓z_mod, ↓z_pow, ↓z_addt, ↓z_eq, ↓z_ne, ↓z_lt, ↓z_le, ↓z_gt, ↓z_ge, ↓z_is_b, ↓z_is_n, ↓z_is_i, ↓z_is_t, ↓z_no_b, ↓z_no_n, ↓z_no_i, ↓z_no_t, ↓z_gadd, ↓z_gsub, ↓z_gmul, ↓z_gdiv, ↓z_gmod, ↓z_len_t, ↓z_len_l, ↓z_tuple, ↓z_list, ↓z_int_i, ↓z_int_b, ↓z_bool_i, ↓z_bool_b, ↓z_abs, ↓z_min2, ↓z_max2, ↓z_sum, ↓z_app, ↓z_pop, startD, seq_tup, ty_ii, ty_ib, ty_it, ty_bi, ty_bb, ty_bt, ty_tt, ty_ti, ty_tb, ty_n, ty_st, ty_si, tr_bl, tr_int, tr_non, set_slot, set_nil, set_cons, sets_nil, sets_cons, wipe_nil, wipe_cons, gv_0, sv_0, gv_1, sv_1, gv_2, sv_2, gv_3, sv_3, gv_4, sv_4, gv_5, sv_5, gv_6, sv_6, gv_7, sv_7, gv_8, sv_8, gv_9, sv_9, gv_10, sv_10, gv_11, sv_11, gv_12, sv_12, gv_13, sv_13, gv_14, sv_14, gv_15, sv_15, gv_16, sv_16, gv_17, sv_17, gv_18, sv_18, gv_19, sv_19, gv_20, sv_20, gv_21, sv_21, gv_22, sv_22, gv_23, sv_23, Option.bind_some, at0, at1, at2, at3, set0, set1, set2, set3, mr_app, mr_ext, mr_pop, eqv_int, seq_end, at_end, set_end, at_e1, set_e1, seq_e1, at_e2, set_e2, seq_e2, at_e3, set_e3, seq_e3, at_e4, set_e4, seq_e4, pure_int, pure_bl, pure_non, pure_str, pure_tup, pures_nil, pures_cons, mul_l, mul_r, it_tup, it_loc, zip_tup, fu_items, fu_live, fu_zip, m__law_run, eR]
  refine for_rule (it := .items (r.map .int)) (fun i env μ1 => (∃ a, env = [some (eM M), some (.int s), some (.tup (r.map .int)), some (.int ((r.take i).foldl (step M) ([], s)).2), some (.loc μ.length), a]) ∧ μ1 = μ ++ [.lst (((r.take i).foldl (step M) ([], s)).1.map .int)]) (fun _ _ _ _ => rfl) (by simp) ⟨⟨_, rfl⟩, rfl⟩ ?_ ?_
  · rintro i d env μ1 hd ⟨⟨a, rfl⟩, rfl⟩
    rw [List.getElem?_map] at hd
    obtain ⟨x, hx, rfl⟩ := Option.map_eq_some_iff.mp hd
    have hi := run_in W (r.take i) ([], s) hs fun y hy => hr.2 y (List.mem_of_mem_take hy)
    have tk : (r.take (i + 1)).foldl (step M) ([], s) = step M ((r.take i).foldl (step M) ([], s)) x := by
      rw [List.take_add_one, hx, List.foldl_append]
      rfl
    rw [tk]
    have hlen := run_len (M := M) (r.take i) ([], s)
    have hti : (r.take i).length ≤ 300 := by rw [List.length_take]; have := hr.1; omega
    generalize (r.take i).foldl (step M) ([], s) = st at hi hlen ⊢
    obtain ⟨acc, now⟩ := st
    obtain ⟨sd, e1, e2, ok⟩ := cell_get W hi (hr.2 x (List.mem_of_getElem? hx))
    have a1 : atD (M.map eS) now = some (eS sd) := at_int hi.1 (by rw [List.getElem?_map, e1]; rfl)
    have a2 : atD (sd.map eC) x = some (eC (cellAt M now x)) := at_int (hr.2 x (List.mem_of_getElem? hx)).1 (by rw [List.getElem?_map, e2]; rfl)
    have hacc : acc.length < 16000000 := by
      have hlen : acc.length = 0 + (r.take i).length := hlen
      omega
    simp [↓z_some, ↓z_none, ↓z_ok, ↓z_exc, ↓z_bind, ↓z_wr, ↓z_ws, ↓z_ow, ↓z_nx, ↓z_rt, ↓z_br, ↓z_ct, ↓z_ex, ↓z_cons, ↓z_nil, ↓z_ret, ↓z_expr, ↓z_for, ↓z_par, ↓z_try0, ↓z_try1, ↓z_tests_nil, ↓z_var, ↓z_non, ↓z_bl, ↓z_int, ↓z_str, ↓z_gint, ↓z_bop, ↓z_neg, ↓z_not, ↓z_cmp, ↓z_cmp2, ↓z_and, ↓z_or, ↓z_ite, ↓z_tup, ↓z_lst, ↓z_ix, ↓z_slice, ↓z_o_nil, ↓z_o_cons, ↓z_sl_tup, ↓z_sl_loc, ↓z_call, ↓z_bi, ↓z_meth, ↓z_isin, ↓z_xfld, ↓z_xis, ↓z_es_nil, ↓z_es_cons, ↓z_i_seq, ↓z_i_rng1, ↓z_i_rng2, ↓z_i_zip, ↓z_lc, ↓z_lcF, ↓z_t_cons, ↓z_asg, ↓z_if, ↓z_raise, ↓z_forF, ↓z_aug, ↓z_asgS, ↓z_brk, ↓z_cnt, ↓z_pass, ↓z_ret0, ↓z_whl, ↓z_add, ↓z_sub, ↓z_mul, ↓z_div, ↓z_mod, ↓z_pow, ↓z_addt, ↓z_eq, ↓z_ne, ↓z_lt, ↓z_le, ↓z_gt, ↓z_ge, ↓z_is_b, ↓z_is_n, ↓z_is_i, ↓z_is_t, ↓z_no_b, ↓z_no_n, ↓z_no_i, ↓z_no_t, ↓z_gadd, ↓z_gsub, ↓z_gmul, ↓z_gdiv, ↓z_gmod, ↓z_len_t, ↓z_len_l, ↓z_tuple, ↓z_list, ↓z_int_i, ↓z_int_b, ↓z_bool_i, ↓z_bool_b, ↓z_abs, ↓z_min2, ↓z_max2, ↓z_sum, ↓z_app, ↓z_pop, startD, seq_tup, ty_ii, ty_ib, ty_it, ty_bi, ty_bb, ty_bt, ty_tt, ty_ti, ty_tb, ty_n, ty_st, ty_si, tr_bl, tr_int, tr_non, set_slot, set_nil, set_cons, sets_nil, sets_cons, wipe_nil, wipe_cons, gv_0, sv_0, gv_1, sv_1, gv_2, sv_2, gv_3, sv_3, gv_4, sv_4, gv_5, sv_5, gv_6, sv_6, gv_7, sv_7, gv_8, sv_8, gv_9, sv_9, gv_10, sv_10, gv_11, sv_11, gv_12, sv_12, gv_13, sv_13, gv_14, sv_14, gv_15, sv_15, gv_16, sv_16, gv_17, sv_17, gv_18, sv_18, gv_19, sv_19, gv_20, sv_20, gv_21, sv_21, gv_22, sv_22, gv_23, sv_23, Option.bind_some, at0, at1, at2, at3, set0, set1, set2, set3, mr_app, mr_ext, mr_pop, eqv_int, seq_end, at_end, set_end, at_e1, set_e1, seq_e1, at_e2, set_e2, seq_e2, at_e3, set_e3, seq_e3, at_e4, set_e4, seq_e4, pure_int, pure_bl, pure_non, pure_str, pure_tup, pures_nil, pures_cons, mul_l, mul_r, it_tup, it_loc, zip_tup, fu_items, fu_live, fu_zip, seq_eM, a1, seq_eS, a2, seq_eC, eC, step, hacc]
  · rintro env μ1 ⟨⟨a, rfl⟩, rfl⟩
    simp [↓z_some, ↓z_none, ↓z_ok, ↓z_exc, ↓z_bind, ↓z_wr, ↓z_ws, ↓z_ow, ↓z_nx, ↓z_rt, ↓z_br, ↓z_ct, ↓z_ex, ↓z_cons, ↓z_nil, ↓z_ret, ↓z_expr, ↓z_for, ↓z_par, ↓z_try0, ↓z_try1, ↓z_tests_nil, ↓z_var, ↓z_non, ↓z_bl, ↓z_int, ↓z_str, ↓z_gint, ↓z_bop, ↓z_neg, ↓z_not, ↓z_cmp, ↓z_cmp2, ↓z_and, ↓z_or, ↓z_ite, ↓z_tup, ↓z_lst, ↓z_ix, ↓z_slice, ↓z_o_nil, ↓z_o_cons, ↓z_sl_tup, ↓z_sl_loc, ↓z_call, ↓z_bi, ↓z_meth, ↓z_isin, ↓z_xfld, ↓z_xis, ↓z_es_nil, ↓z_es_cons, ↓z_i_seq, ↓z_i_rng1, ↓z_i_rng2, ↓z_i_zip, ↓z_lc, ↓z_lcF, ↓z_t_cons, ↓z_asg, ↓z_if, ↓z_raise, ↓z_forF, ↓z_aug, ↓z_asgS, ↓z_brk, ↓z_cnt, ↓z_pass, ↓z_ret0, ↓z_whl, ↓z_add, ↓z_sub, ↓z_mul, ↓z_div, ↓z_mod, ↓z_pow, ↓z_addt, ↓z_eq, ↓z_ne, ↓z_lt, ↓z_le, ↓z_gt, ↓z_ge, ↓z_is_b, ↓z_is_n, ↓z_is_i, ↓z_is_t, ↓z_no_b, ↓z_no_n, ↓z_no_i, ↓z_no_t, ↓z_gadd, ↓z_gsub, ↓z_gmul, ↓z_gdiv, ↓z_gmod, ↓z_len_t, ↓z_len_l, ↓z_tuple, ↓z_list, ↓z_int_i, ↓z_int_b, ↓z_bool_i, ↓z_bool_b, ↓z_abs, ↓z_min2, ↓z_max2, ↓z_sum, ↓z_app, ↓z_pop, startD, seq_tup, ty_ii, ty_ib, ty_it, ty_bi, ty_bb, ty_bt, ty_tt, ty_ti, ty_tb, ty_n, ty_st, ty_si, tr_bl, tr_int, tr_non, set_slot, set_nil, set_cons, sets_nil, sets_cons, wipe_nil, wipe_cons, gv_0, sv_0, gv_1, sv_1, gv_2, sv_2, gv_3, sv_3, gv_4, sv_4, gv_5, sv_5, gv_6, sv_6, gv_7, sv_7, gv_8, sv_8, gv_9, sv_9, gv_10, sv_10, gv_11, sv_11, gv_12, sv_12, gv_13, sv_13, gv_14, sv_14, gv_15, sv_15, gv_16, sv_16, gv_17, sv_17, gv_18, sv_18, gv_19, sv_19, gv_20, sv_20, gv_21, sv_21, gv_22, sv_22, gv_23, sv_23, Option.bind_some, at0, at1, at2, at3, set0, set1, set2, set3, mr_app, mr_ext, mr_pop, eqv_int, seq_end, at_end, set_end, at_e1, set_e1, seq_e1, at_e2, set_e2, seq_e2, at_e3, set_e3, seq_e3, at_e4, set_e4, seq_e4, pure_int, pure_bl, pure_non, pure_str, pure_tup, pures_nil, pures_cons, mul_l, mul_r, it_tup, it_loc, zip_tup, fu_items, fu_live, fu_zip, runF, take_end]
theorem check_m {n : Nat} {M : List (List Cell)} {k : Nat} {μ : Mem} (h : Pu μ) (W : Mc M k) : call (n + 4) 6 [eM M] μ = .ok .non μ := check_machine_ok h W.few W.wf
/-- the first standing's letters -/
theorem len0 {M : List (List Cell)} {k : Nat} (W : Mc M k) : ∃ s0, M[0]? = some s0 ∧ s0.length = k :=
  ⟨M[0]'W.few.1, List.getElem?_eq_getElem W.few.1, (W.wf.std _ (List.getElem_mem _)).1⟩
theorem kk {M : List (List Cell)} {k : Nat} (W : Mc M k) : 1 ≤ (k : Int) ∧ (k : Int) ≤ 6 := by have := W.wf.lk; omega
theorem in0 {M : List (List Cell)} {k : Nat} (W : Mc M k) : In M 0 := ⟨Int.le_refl _, by have := W.few; omega⟩
theorem answers_ok {n : Nat} {M : List (List Cell)} {k : Nat} {r : List Int} {μ : Mem} (h : Pu μ) (W : Mc M k) (hr : Row k r) : call (n + 6) 11 [eM M, eR r] μ = .ok (eR (runF M 0 r).1) μ := by
  refine pu (d := m_answers) rfl rfl h (pure_eR _) ?_
  obtain ⟨s0, e0, l0⟩ := len0 W
  have c1 := check_m (n := n + 1) h W
  have c2 := check_row_ok (n := n) h (kk W) hr
  have c3 := run_ok (n := n + 4) h W (in0 W) hr
  simp [↓z_some, ↓z_none, ↓z_ok, ↓z_exc, ↓z_bind, ↓z_wr, ↓z_ws, ↓z_ow, ↓z_nx, ↓z_rt, ↓z_br, ↓z_ct, ↓z_ex, ↓z_cons, ↓z_nil, ↓z_ret, ↓z_expr, ↓z_for, ↓z_par, ↓z_try0, ↓z_try1, ↓z_tests_nil, ↓z_var, ↓z_non, ↓z_bl, ↓z_int, ↓z_str, ↓z_gint, ↓z_bop, ↓z_neg, ↓z_not, ↓z_cmp, ↓z_cmp2, ↓z_and, ↓z_or, ↓z_ite, ↓z_tup, ↓z_lst, ↓z_ix, ↓z_slice, ↓z_o_nil, ↓z_o_cons, ↓z_sl_tup, ↓z_sl_loc, ↓z_call, ↓z_bi, ↓z_meth, ↓z_isin, ↓z_xfld, ↓z_xis, ↓z_es_nil, ↓z_es_cons, ↓z_i_seq, ↓z_i_rng1, ↓z_i_rng2, ↓z_i_zip, ↓z_lc, ↓z_lcF, ↓z_t_cons, ↓z_asg, ↓z_if, ↓z_raise, ↓z_forF, ↓z_aug, ↓z_asgS, ↓z_brk, ↓z_cnt, ↓z_pass, ↓z_ret0, ↓z_whl, ↓z_add, ↓z_sub, ↓z_mul, ↓z_div, ↓z_mod, ↓z_pow, ↓z_addt, ↓z_eq, ↓z_ne, ↓z_lt, ↓z_le, ↓z_gt, ↓z_ge, ↓z_is_b, ↓z_is_n, ↓z_is_i, ↓z_is_t, ↓z_no_b, ↓z_no_n, ↓z_no_i, ↓z_no_t, ↓z_gadd, ↓z_gsub, ↓z_gmul, ↓z_gdiv, ↓z_gmod, ↓z_len_t, ↓z_len_l, ↓z_tuple, ↓z_list, ↓z_int_i, ↓z_int_b, ↓z_bool_i, ↓z_bool_b, ↓z_abs, ↓z_min2, ↓z_max2, ↓z_sum, ↓z_app, ↓z_pop, startD, seq_tup, ty_ii, ty_ib, ty_it, ty_bi, ty_bb, ty_bt, ty_tt, ty_ti, ty_tb, ty_n, ty_st, ty_si, tr_bl, tr_int, tr_non, set_slot, set_nil, set_cons, sets_nil, sets_cons, wipe_nil, wipe_cons, gv_0, sv_0, gv_1, sv_1, gv_2, sv_2, gv_3, sv_3, gv_4, sv_4, gv_5, sv_5, gv_6, sv_6, gv_7, sv_7, gv_8, sv_8, gv_9, sv_9, gv_10, sv_10, gv_11, sv_11, gv_12, sv_12, gv_13, sv_13, gv_14, sv_14, gv_15, sv_15, gv_16, sv_16, gv_17, sv_17, gv_18, sv_18, gv_19, sv_19, gv_20, sv_20, gv_21, sv_21, gv_22, sv_22, gv_23, sv_23, Option.bind_some, at0, at1, at2, at3, set0, set1, set2, set3, mr_app, mr_ext, mr_pop, eqv_int, seq_end, at_end, set_end, at_e1, set_e1, seq_e1, at_e2, set_e2, seq_e2, at_e3, set_e3, seq_e3, at_e4, set_e4, seq_e4, pure_int, pure_bl, pure_non, pure_str, pure_tup, pures_nil, pures_cons, mul_l, mul_r, it_tup, it_loc, zip_tup, fu_items, fu_live, fu_zip, m_answers, c1, c3, seq_eM, at0_eM e0, ↓z_len_eS, l0, c2]
theorem end_ok {n : Nat} {M : List (List Cell)} {k : Nat} {r : List Int} {μ : Mem} (h : Pu μ) (W : Mc M k) (hr : Row k r) : call (n + 6) 12 [eM M, eR r] μ = .ok (.int (runF M 0 r).2) μ := by
  refine pu (d := m_end) rfl rfl h rfl ?_
  obtain ⟨s0, e0, l0⟩ := len0 W
  have c1 := check_m (n := n + 1) h W
  have c2 := check_row_ok (n := n) h (kk W) hr
  have c3 := run_ok (n := n + 4) h W (in0 W) hr
  simp [↓z_some, ↓z_none, ↓z_ok, ↓z_exc, ↓z_bind, ↓z_wr, ↓z_ws, ↓z_ow, ↓z_nx, ↓z_rt, ↓z_br, ↓z_ct, ↓z_ex, ↓z_cons, ↓z_nil, ↓z_ret, ↓z_expr, ↓z_for, ↓z_par, ↓z_try0, ↓z_try1, ↓z_tests_nil, ↓z_var, ↓z_non, ↓z_bl, ↓z_int, ↓z_str, ↓z_gint, ↓z_bop, ↓z_neg, ↓z_not, ↓z_cmp, ↓z_cmp2, ↓z_and, ↓z_or, ↓z_ite, ↓z_tup, ↓z_lst, ↓z_ix, ↓z_slice, ↓z_o_nil, ↓z_o_cons, ↓z_sl_tup, ↓z_sl_loc, ↓z_call, ↓z_bi, ↓z_meth, ↓z_isin, ↓z_xfld, ↓z_xis, ↓z_es_nil, ↓z_es_cons, ↓z_i_seq, ↓z_i_rng1, ↓z_i_rng2, ↓z_i_zip, ↓z_lc, ↓z_lcF, ↓z_t_cons, ↓z_asg, ↓z_if, ↓z_raise, ↓z_forF, ↓z_aug, ↓z_asgS, ↓z_brk, ↓z_cnt, ↓z_pass, ↓z_ret0, ↓z_whl, ↓z_add, ↓z_sub, ↓z_mul, ↓z_div, ↓z_mod, ↓z_pow, ↓z_addt, ↓z_eq, ↓z_ne, ↓z_lt, ↓z_le, ↓z_gt, ↓z_ge, ↓z_is_b, ↓z_is_n, ↓z_is_i, ↓z_is_t, ↓z_no_b, ↓z_no_n, ↓z_no_i, ↓z_no_t, ↓z_gadd, ↓z_gsub, ↓z_gmul, ↓z_gdiv, ↓z_gmod, ↓z_len_t, ↓z_len_l, ↓z_tuple, ↓z_list, ↓z_int_i, ↓z_int_b, ↓z_bool_i, ↓z_bool_b, ↓z_abs, ↓z_min2, ↓z_max2, ↓z_sum, ↓z_app, ↓z_pop, startD, seq_tup, ty_ii, ty_ib, ty_it, ty_bi, ty_bb, ty_bt, ty_tt, ty_ti, ty_tb, ty_n, ty_st, ty_si, tr_bl, tr_int, tr_non, set_slot, set_nil, set_cons, sets_nil, sets_cons, wipe_nil, wipe_cons, gv_0, sv_0, gv_1, sv_1, gv_2, sv_2, gv_3, sv_3, gv_4, sv_4, gv_5, sv_5, gv_6, sv_6, gv_7, sv_7, gv_8, sv_8, gv_9, sv_9, gv_10, sv_10, gv_11, sv_11, gv_12, sv_12, gv_13, sv_13, gv_14, sv_14, gv_15, sv_15, gv_16, sv_16, gv_17, sv_17, gv_18, sv_18, gv_19, sv_19, gv_20, sv_20, gv_21, sv_21, gv_22, sv_22, gv_23, sv_23, Option.bind_some, at0, at1, at2, at3, set0, set1, set2, set3, mr_app, mr_ext, mr_pop, eqv_int, seq_end, at_end, set_end, at_e1, set_e1, seq_e1, at_e2, set_e2, seq_e2, at_e3, set_e3, seq_e3, at_e4, set_e4, seq_e4, pure_int, pure_bl, pure_non, pure_str, pure_tup, pures_nil, pures_cons, mul_l, mul_r, it_tup, it_loc, zip_tup, fu_items, fu_live, fu_zip, m_end, c1, c3, seq_eM, at0_eM e0, ↓z_len_eS, l0, c2]
theorem answers_from_ok {n : Nat} {M : List (List Cell)} {k : Nat} {s : Int} {r : List Int} {μ : Mem} (h : Pu μ) (W : Mc M k) (hs : In M s) (hr : Row k r) : call (n + 6) 13 [eM M, .int s, eR r] μ = .ok (eR (runF M s r).1) μ := by
  refine pu (d := m_answers_from) rfl rfl h (pure_eR _) ?_
  obtain ⟨s0, e0, l0⟩ := len0 W
  have c1 := check_m (n := n + 1) h W
  have c2 := check_row_ok (n := n) h (kk W) hr
  have c3 := run_ok (n := n + 4) h W hs hr
  have c4 := check_number_ok (n := n + 2) (v := s) (l := 0) (m := M.length - 1) h hs.1 (by have := hs.2; omega)
  simp [↓z_some, ↓z_none, ↓z_ok, ↓z_exc, ↓z_bind, ↓z_wr, ↓z_ws, ↓z_ow, ↓z_nx, ↓z_rt, ↓z_br, ↓z_ct, ↓z_ex, ↓z_cons, ↓z_nil, ↓z_ret, ↓z_expr, ↓z_for, ↓z_par, ↓z_try0, ↓z_try1, ↓z_tests_nil, ↓z_var, ↓z_non, ↓z_bl, ↓z_int, ↓z_str, ↓z_gint, ↓z_bop, ↓z_neg, ↓z_not, ↓z_cmp, ↓z_cmp2, ↓z_and, ↓z_or, ↓z_ite, ↓z_tup, ↓z_lst, ↓z_ix, ↓z_slice, ↓z_o_nil, ↓z_o_cons, ↓z_sl_tup, ↓z_sl_loc, ↓z_call, ↓z_bi, ↓z_meth, ↓z_isin, ↓z_xfld, ↓z_xis, ↓z_es_nil, ↓z_es_cons, ↓z_i_seq, ↓z_i_rng1, ↓z_i_rng2, ↓z_i_zip, ↓z_lc, ↓z_lcF, ↓z_t_cons, ↓z_asg, ↓z_if, ↓z_raise, ↓z_forF, ↓z_aug, ↓z_asgS, ↓z_brk, ↓z_cnt, ↓z_pass, ↓z_ret0, ↓z_whl, ↓z_add, ↓z_sub, ↓z_mul, ↓z_div, ↓z_mod, ↓z_pow, ↓z_addt, ↓z_eq, ↓z_ne, ↓z_lt, ↓z_le, ↓z_gt, ↓z_ge, ↓z_is_b, ↓z_is_n, ↓z_is_i, ↓z_is_t, ↓z_no_b, ↓z_no_n, ↓z_no_i, ↓z_no_t, ↓z_gadd, ↓z_gsub, ↓z_gmul, ↓z_gdiv, ↓z_gmod, ↓z_len_t, ↓z_len_l, ↓z_tuple, ↓z_list, ↓z_int_i, ↓z_int_b, ↓z_bool_i, ↓z_bool_b, ↓z_abs, ↓z_min2, ↓z_max2, ↓z_sum, ↓z_app, ↓z_pop, startD, seq_tup, ty_ii, ty_ib, ty_it, ty_bi, ty_bb, ty_bt, ty_tt, ty_ti, ty_tb, ty_n, ty_st, ty_si, tr_bl, tr_int, tr_non, set_slot, set_nil, set_cons, sets_nil, sets_cons, wipe_nil, wipe_cons, gv_0, sv_0, gv_1, sv_1, gv_2, sv_2, gv_3, sv_3, gv_4, sv_4, gv_5, sv_5, gv_6, sv_6, gv_7, sv_7, gv_8, sv_8, gv_9, sv_9, gv_10, sv_10, gv_11, sv_11, gv_12, sv_12, gv_13, sv_13, gv_14, sv_14, gv_15, sv_15, gv_16, sv_16, gv_17, sv_17, gv_18, sv_18, gv_19, sv_19, gv_20, sv_20, gv_21, sv_21, gv_22, sv_22, gv_23, sv_23, Option.bind_some, at0, at1, at2, at3, set0, set1, set2, set3, mr_app, mr_ext, mr_pop, eqv_int, seq_end, at_end, set_end, at_e1, set_e1, seq_e1, at_e2, set_e2, seq_e2, at_e3, set_e3, seq_e3, at_e4, set_e4, seq_e4, pure_int, pure_bl, pure_non, pure_str, pure_tup, pures_nil, pures_cons, mul_l, mul_r, it_tup, it_loc, zip_tup, fu_items, fu_live, fu_zip, m_answers_from, c1, c3, c4, seq_eM, ↓z_len_eM, at0_eM e0, ↓z_len_eS, l0, c2]
theorem law_answers_ok {n : Nat} {M : List (List Cell)} {k : Nat} {r : List Int} {μ : Mem} (h : Pu μ) (W : Mc M k) (hr : Row k r) : call (n + 2) 26 [eM M, eR r] μ = .ok (eR (runF M 0 r).1) μ := by
  refine pu (d := m__law_answers) rfl rfl h (pure_eR _) ?_
  have c3 := law_run_ok (n := n) h W (in0 W) hr
  simp [↓z_some, ↓z_none, ↓z_ok, ↓z_exc, ↓z_bind, ↓z_wr, ↓z_ws, ↓z_ow, ↓z_nx, ↓z_rt, ↓z_br, ↓z_ct, ↓z_ex, ↓z_cons, ↓z_nil, ↓z_ret, ↓z_expr, ↓z_for, ↓z_par, ↓z_try0, ↓z_try1, ↓z_tests_nil, ↓z_var, ↓z_non, ↓z_bl, ↓z_int, ↓z_str, ↓z_gint, ↓z_bop, ↓z_neg, ↓z_not, ↓z_cmp, ↓z_cmp2, ↓z_and, ↓z_or, ↓z_ite, ↓z_tup, ↓z_lst, ↓z_ix, ↓z_slice, ↓z_o_nil, ↓z_o_cons, ↓z_sl_tup, ↓z_sl_loc, ↓z_call, ↓z_bi, ↓z_meth, ↓z_isin, ↓z_xfld, ↓z_xis, ↓z_es_nil, ↓z_es_cons, ↓z_i_seq, ↓z_i_rng1, ↓z_i_rng2, ↓z_i_zip, ↓z_lc, ↓z_lcF, ↓z_t_cons, ↓z_asg, ↓z_if, ↓z_raise, ↓z_forF, ↓z_aug, ↓z_asgS, ↓z_brk, ↓z_cnt, ↓z_pass, ↓z_ret0, ↓z_whl, ↓z_add, ↓z_sub, ↓z_mul, ↓z_div, ↓z_mod, ↓z_pow, ↓z_addt, ↓z_eq, ↓z_ne, ↓z_lt, ↓z_le, ↓z_gt, ↓z_ge, ↓z_is_b, ↓z_is_n, ↓z_is_i, ↓z_is_t, ↓z_no_b, ↓z_no_n, ↓z_no_i, ↓z_no_t, ↓z_gadd, ↓z_gsub, ↓z_gmul, ↓z_gdiv, ↓z_gmod, ↓z_len_t, ↓z_len_l, ↓z_tuple, ↓z_list, ↓z_int_i, ↓z_int_b, ↓z_bool_i, ↓z_bool_b, ↓z_abs, ↓z_min2, ↓z_max2, ↓z_sum, ↓z_app, ↓z_pop, startD, seq_tup, ty_ii, ty_ib, ty_it, ty_bi, ty_bb, ty_bt, ty_tt, ty_ti, ty_tb, ty_n, ty_st, ty_si, tr_bl, tr_int, tr_non, set_slot, set_nil, set_cons, sets_nil, sets_cons, wipe_nil, wipe_cons, gv_0, sv_0, gv_1, sv_1, gv_2, sv_2, gv_3, sv_3, gv_4, sv_4, gv_5, sv_5, gv_6, sv_6, gv_7, sv_7, gv_8, sv_8, gv_9, sv_9, gv_10, sv_10, gv_11, sv_11, gv_12, sv_12, gv_13, sv_13, gv_14, sv_14, gv_15, sv_15, gv_16, sv_16, gv_17, sv_17, gv_18, sv_18, gv_19, sv_19, gv_20, sv_20, gv_21, sv_21, gv_22, sv_22, gv_23, sv_23, Option.bind_some, at0, at1, at2, at3, set0, set1, set2, set3, mr_app, mr_ext, mr_pop, eqv_int, seq_end, at_end, set_end, at_e1, set_e1, seq_e1, at_e2, set_e2, seq_e2, at_e3, set_e3, seq_e3, at_e4, set_e4, seq_e4, pure_int, pure_bl, pure_non, pure_str, pure_tup, pures_nil, pures_cons, mul_l, mul_r, it_tup, it_loc, zip_tup, fu_items, fu_live, fu_zip, m__law_answers, c3]
/-! ### the errors -/
theorem answers_bad {n : Nat} {M : List (List Cell)} {k : Nat} {r : List Int} {μ : Mem} (h : Pu μ) (W : Mc M k) (hl : r.length ≤ 300) (hr : ¬ ∀ x ∈ r, 0 ≤ x ∧ x ≤ (k : Int) - 1) : call (n + 6) 11 [eM M, eR r] μ = .exc ⟨2, [("value", eR r), ("word", .str "badrow")]⟩ μ := by
  refine px (d := m_answers) rfl rfl h (by simp [pure_eR, D.pure]) ?_
  obtain ⟨s0, e0, l0⟩ := len0 W
  have c1 := check_m (n := n + 1) h W
  have c2 := check_row_bad (n := n) h (kk W) hl hr
  simp [↓z_some, ↓z_none, ↓z_ok, ↓z_exc, ↓z_bind, ↓z_wr, ↓z_ws, ↓z_ow, ↓z_nx, ↓z_rt, ↓z_br, ↓z_ct, ↓z_ex, ↓z_cons, ↓z_nil, ↓z_ret, ↓z_expr, ↓z_for, ↓z_par, ↓z_try0, ↓z_try1, ↓z_tests_nil, ↓z_var, ↓z_non, ↓z_bl, ↓z_int, ↓z_str, ↓z_gint, ↓z_bop, ↓z_neg, ↓z_not, ↓z_cmp, ↓z_cmp2, ↓z_and, ↓z_or, ↓z_ite, ↓z_tup, ↓z_lst, ↓z_ix, ↓z_slice, ↓z_o_nil, ↓z_o_cons, ↓z_sl_tup, ↓z_sl_loc, ↓z_call, ↓z_bi, ↓z_meth, ↓z_isin, ↓z_xfld, ↓z_xis, ↓z_es_nil, ↓z_es_cons, ↓z_i_seq, ↓z_i_rng1, ↓z_i_rng2, ↓z_i_zip, ↓z_lc, ↓z_lcF, ↓z_t_cons, ↓z_asg, ↓z_if, ↓z_raise, ↓z_forF, ↓z_aug, ↓z_asgS, ↓z_brk, ↓z_cnt, ↓z_pass, ↓z_ret0, ↓z_whl, ↓z_add, ↓z_sub, ↓z_mul, ↓z_div, ↓z_mod, ↓z_pow, ↓z_addt, ↓z_eq, ↓z_ne, ↓z_lt, ↓z_le, ↓z_gt, ↓z_ge, ↓z_is_b, ↓z_is_n, ↓z_is_i, ↓z_is_t, ↓z_no_b, ↓z_no_n, ↓z_no_i, ↓z_no_t, ↓z_gadd, ↓z_gsub, ↓z_gmul, ↓z_gdiv, ↓z_gmod, ↓z_len_t, ↓z_len_l, ↓z_tuple, ↓z_list, ↓z_int_i, ↓z_int_b, ↓z_bool_i, ↓z_bool_b, ↓z_abs, ↓z_min2, ↓z_max2, ↓z_sum, ↓z_app, ↓z_pop, startD, seq_tup, ty_ii, ty_ib, ty_it, ty_bi, ty_bb, ty_bt, ty_tt, ty_ti, ty_tb, ty_n, ty_st, ty_si, tr_bl, tr_int, tr_non, set_slot, set_nil, set_cons, sets_nil, sets_cons, wipe_nil, wipe_cons, gv_0, sv_0, gv_1, sv_1, gv_2, sv_2, gv_3, sv_3, gv_4, sv_4, gv_5, sv_5, gv_6, sv_6, gv_7, sv_7, gv_8, sv_8, gv_9, sv_9, gv_10, sv_10, gv_11, sv_11, gv_12, sv_12, gv_13, sv_13, gv_14, sv_14, gv_15, sv_15, gv_16, sv_16, gv_17, sv_17, gv_18, sv_18, gv_19, sv_19, gv_20, sv_20, gv_21, sv_21, gv_22, sv_22, gv_23, sv_23, Option.bind_some, at0, at1, at2, at3, set0, set1, set2, set3, mr_app, mr_ext, mr_pop, eqv_int, seq_end, at_end, set_end, at_e1, set_e1, seq_e1, at_e2, set_e2, seq_e2, at_e3, set_e3, seq_e3, at_e4, set_e4, seq_e4, pure_int, pure_bl, pure_non, pure_str, pure_tup, pures_nil, pures_cons, mul_l, mul_r, it_tup, it_loc, zip_tup, fu_items, fu_live, fu_zip, m_answers, c1, seq_eM, at0_eM e0, ↓z_len_eS, l0, c2]
theorem answers_from_bad {n : Nat} {M : List (List Cell)} {k : Nat} {s : Int} {r : D} {μ : Mem} (h : Pu μ) (W : Mc M k) (hs : (M.length : Int) ≤ s) : call (n + 6) 13 [eM M, .int s, r] μ = .exc ⟨0, [("value", .int s), ("word", .str "badnumber")]⟩ μ := by
  refine px (d := m_answers_from) rfl rfl h rfl ?_
  have c1 := check_m (n := n + 1) h W
  have c4 := check_number_bad (n := n + 2) (v := s) (l := 0) (m := M.length - 1) h (by omega)
  simp [↓z_some, ↓z_none, ↓z_ok, ↓z_exc, ↓z_bind, ↓z_wr, ↓z_ws, ↓z_ow, ↓z_nx, ↓z_rt, ↓z_br, ↓z_ct, ↓z_ex, ↓z_cons, ↓z_nil, ↓z_ret, ↓z_expr, ↓z_for, ↓z_par, ↓z_try0, ↓z_try1, ↓z_tests_nil, ↓z_var, ↓z_non, ↓z_bl, ↓z_int, ↓z_str, ↓z_gint, ↓z_bop, ↓z_neg, ↓z_not, ↓z_cmp, ↓z_cmp2, ↓z_and, ↓z_or, ↓z_ite, ↓z_tup, ↓z_lst, ↓z_ix, ↓z_slice, ↓z_o_nil, ↓z_o_cons, ↓z_sl_tup, ↓z_sl_loc, ↓z_call, ↓z_bi, ↓z_meth, ↓z_isin, ↓z_xfld, ↓z_xis, ↓z_es_nil, ↓z_es_cons, ↓z_i_seq, ↓z_i_rng1, ↓z_i_rng2, ↓z_i_zip, ↓z_lc, ↓z_lcF, ↓z_t_cons, ↓z_asg, ↓z_if, ↓z_raise, ↓z_forF, ↓z_aug, ↓z_asgS, ↓z_brk, ↓z_cnt, ↓z_pass, ↓z_ret0, ↓z_whl, ↓z_add, ↓z_sub, ↓z_mul, ↓z_div, ↓z_mod, ↓z_pow, ↓z_addt, ↓z_eq, ↓z_ne, ↓z_lt, ↓z_le, ↓z_gt, ↓z_ge, ↓z_is_b, ↓z_is_n, ↓z_is_i, ↓z_is_t, ↓z_no_b, ↓z_no_n, ↓z_no_i, ↓z_no_t, ↓z_gadd, ↓z_gsub, ↓z_gmul, ↓z_gdiv, ↓z_gmod, ↓z_len_t, ↓z_len_l, ↓z_tuple, ↓z_list, ↓z_int_i, ↓z_int_b, ↓z_bool_i, ↓z_bool_b, ↓z_abs, ↓z_min2, ↓z_max2, ↓z_sum, ↓z_app, ↓z_pop, startD, seq_tup, ty_ii, ty_ib, ty_it, ty_bi, ty_bb, ty_bt, ty_tt, ty_ti, ty_tb, ty_n, ty_st, ty_si, tr_bl, tr_int, tr_non, set_slot, set_nil, set_cons, sets_nil, sets_cons, wipe_nil, wipe_cons, gv_0, sv_0, gv_1, sv_1, gv_2, sv_2, gv_3, sv_3, gv_4, sv_4, gv_5, sv_5, gv_6, sv_6, gv_7, sv_7, gv_8, sv_8, gv_9, sv_9, gv_10, sv_10, gv_11, sv_11, gv_12, sv_12, gv_13, sv_13, gv_14, sv_14, gv_15, sv_15, gv_16, sv_16, gv_17, sv_17, gv_18, sv_18, gv_19, sv_19, gv_20, sv_20, gv_21, sv_21, gv_22, sv_22, gv_23, sv_23, Option.bind_some, at0, at1, at2, at3, set0, set1, set2, set3, mr_app, mr_ext, mr_pop, eqv_int, seq_end, at_end, set_end, at_e1, set_e1, seq_e1, at_e2, set_e2, seq_e2, at_e3, set_e3, seq_e3, at_e4, set_e4, seq_e4, pure_int, pure_bl, pure_non, pure_str, pure_tup, pures_nil, pures_cons, mul_l, mul_r, it_tup, it_loc, zip_tup, fu_items, fu_live, fu_zip, m_answers_from, c1, c4, seq_eM, ↓z_len_eM]
end K01

namespace K01
open PySem Mn
/-! ### due, logs, first failures -/
def ansF (M : List (List Cell)) (r : List Int) : List Int := (runF M 0 r).1
structure Lt (k : Nat) (l : List (List Int)) : Prop where
  few : l.length ≤ 128
  ok : ∀ r ∈ l, Row k r
theorem due_ok {n : Nat} {M : List (List Cell)} {k : Nat} {l : List (List Int)} {μ : Mem} (h : Pu μ) (W : Mc M k) (hl : Lt k l) : call (n + 6) 14 [eM M, eL l] μ = .ok (eL (l.map (ansF M))) μ := by
  refine pu (d := m_due) rfl rfl h (pure_eL _) ?_
  obtain ⟨s0, e0, l0⟩ := len0 W
  have c1 := check_m (n := n + 1) h W
  have c2 := check_lot_ok (n := n) h (kk W) hl.few hl.ok
  simp [↓z_some, ↓z_none, ↓z_ok, ↓z_exc, ↓z_bind, ↓z_wr, ↓z_ws, ↓z_ow, ↓z_nx, ↓z_rt, ↓z_br, ↓z_ct, ↓z_ex, ↓z_cons, ↓z_nil, ↓z_ret, ↓z_expr, ↓z_for, ↓z_par, ↓z_try0, ↓z_try1, ↓z_tests_nil, ↓z_var, ↓z_non, ↓z_bl, ↓z_int, ↓z_str, ↓z_gint, ↓z_bop, ↓z_neg, ↓z_not, ↓z_cmp, ↓z_cmp2, ↓z_and, ↓z_or, ↓z_ite, ↓z_tup, ↓z_lst, ↓z_ix, ↓z_slice, ↓z_o_nil, ↓z_o_cons, ↓z_sl_tup, ↓z_sl_loc, ↓z_call, ↓z_bi, ↓z_meth, ↓z_isin, ↓z_xfld, ↓z_xis, ↓z_es_nil, ↓z_es_cons, ↓z_i_seq, ↓z_i_rng1, ↓z_i_rng2, ↓z_i_zip, ↓z_lc, ↓z_lcF, ↓z_t_cons, ↓z_asg, ↓z_if, ↓z_raise, ↓z_forF, ↓z_aug, ↓z_asgS, ↓z_brk, ↓z_cnt, ↓z_pass, ↓z_ret0, ↓z_whl, ↓z_add, ↓z_sub, ↓z_mul, ↓z_div, ↓z_mod, ↓z_pow, ↓z_addt, ↓z_eq, ↓z_ne, ↓z_lt, ↓z_le, ↓z_gt, ↓z_ge, ↓z_is_b, ↓z_is_n, ↓z_is_i, ↓z_is_t, ↓z_no_b, ↓z_no_n, ↓z_no_i, ↓z_no_t, ↓z_gadd, ↓z_gsub, ↓z_gmul, ↓z_gdiv, ↓z_gmod, ↓z_len_t, ↓z_len_l, ↓z_tuple, ↓z_list, ↓z_int_i, ↓z_int_b, ↓z_bool_i, ↓z_bool_b, ↓z_abs, ↓z_min2, ↓z_max2, ↓z_sum, ↓z_app, ↓z_pop, startD, seq_tup, ty_ii, ty_ib, ty_it, ty_bi, ty_bb, ty_bt, ty_tt, ty_ti, ty_tb, ty_n, ty_st, ty_si, tr_bl, tr_int, tr_non, set_slot, set_nil, set_cons, sets_nil, sets_cons, wipe_nil, wipe_cons, gv_0, sv_0, gv_1, sv_1, gv_2, sv_2, gv_3, sv_3, gv_4, sv_4, gv_5, sv_5, gv_6, sv_6, gv_7, sv_7, gv_8, sv_8, gv_9, sv_9, gv_10, sv_10, gv_11, sv_11, gv_12, sv_12, gv_13, sv_13, gv_14, sv_14, gv_15, sv_15, gv_16, sv_16, gv_17, sv_17, gv_18, sv_18, gv_19, sv_19, gv_20, sv_20, gv_21, sv_21, gv_22, sv_22, gv_23, sv_23, Option.bind_some, at0, at1, at2, at3, set0, set1, set2, set3, mr_app, mr_ext, mr_pop, eqv_int, seq_end, at_end, set_end, at_e1, set_e1, seq_e1, at_e2, set_e2, seq_e2, at_e3, set_e3, seq_e3, at_e4, set_e4, seq_e4, pure_int, pure_bl, pure_non, pure_str, pure_tup, pures_nil, pures_cons, mul_l, mul_r, it_tup, it_loc, zip_tup, fu_items, fu_live, fu_zip, m_due, c1, seq_eM, at0_eM e0, ↓z_len_eS, l0, c2, it_eL]
  refine lc_mapE (fun r => eR (ansF M r)) (by have := hl.few; omega) (by simp) (by simp) rfl (fun _ _ => pure_eR _) ?_ ?_
  · intro i r acc hr hm hp
    have c3 := run_ok (n := n + 4) (h.push hp) W (in0 W) (hl.ok r hm)
    simp [↓z_some, ↓z_none, ↓z_ok, ↓z_exc, ↓z_bind, ↓z_wr, ↓z_ws, ↓z_ow, ↓z_nx, ↓z_rt, ↓z_br, ↓z_ct, ↓z_ex, ↓z_cons, ↓z_nil, ↓z_ret, ↓z_expr, ↓z_for, ↓z_par, ↓z_try0, ↓z_try1, ↓z_tests_nil, ↓z_var, ↓z_non, ↓z_bl, ↓z_int, ↓z_str, ↓z_gint, ↓z_bop, ↓z_neg, ↓z_not, ↓z_cmp, ↓z_cmp2, ↓z_and, ↓z_or, ↓z_ite, ↓z_tup, ↓z_lst, ↓z_ix, ↓z_slice, ↓z_o_nil, ↓z_o_cons, ↓z_sl_tup, ↓z_sl_loc, ↓z_call, ↓z_bi, ↓z_meth, ↓z_isin, ↓z_xfld, ↓z_xis, ↓z_es_nil, ↓z_es_cons, ↓z_i_seq, ↓z_i_rng1, ↓z_i_rng2, ↓z_i_zip, ↓z_lc, ↓z_lcF, ↓z_t_cons, ↓z_asg, ↓z_if, ↓z_raise, ↓z_forF, ↓z_aug, ↓z_asgS, ↓z_brk, ↓z_cnt, ↓z_pass, ↓z_ret0, ↓z_whl, ↓z_add, ↓z_sub, ↓z_mul, ↓z_div, ↓z_mod, ↓z_pow, ↓z_addt, ↓z_eq, ↓z_ne, ↓z_lt, ↓z_le, ↓z_gt, ↓z_ge, ↓z_is_b, ↓z_is_n, ↓z_is_i, ↓z_is_t, ↓z_no_b, ↓z_no_n, ↓z_no_i, ↓z_no_t, ↓z_gadd, ↓z_gsub, ↓z_gmul, ↓z_gdiv, ↓z_gmod, ↓z_len_t, ↓z_len_l, ↓z_tuple, ↓z_list, ↓z_int_i, ↓z_int_b, ↓z_bool_i, ↓z_bool_b, ↓z_abs, ↓z_min2, ↓z_max2, ↓z_sum, ↓z_app, ↓z_pop, startD, seq_tup, ty_ii, ty_ib, ty_it, ty_bi, ty_bb, ty_bt, ty_tt, ty_ti, ty_tb, ty_n, ty_st, ty_si, tr_bl, tr_int, tr_non, set_slot, set_nil, set_cons, sets_nil, sets_cons, wipe_nil, wipe_cons, gv_0, sv_0, gv_1, sv_1, gv_2, sv_2, gv_3, sv_3, gv_4, sv_4, gv_5, sv_5, gv_6, sv_6, gv_7, sv_7, gv_8, sv_8, gv_9, sv_9, gv_10, sv_10, gv_11, sv_11, gv_12, sv_12, gv_13, sv_13, gv_14, sv_14, gv_15, sv_15, gv_16, sv_16, gv_17, sv_17, gv_18, sv_18, gv_19, sv_19, gv_20, sv_20, gv_21, sv_21, gv_22, sv_22, gv_23, sv_23, Option.bind_some, at0, at1, at2, at3, set0, set1, set2, set3, mr_app, mr_ext, mr_pop, eqv_int, seq_end, at_end, set_end, at_e1, set_e1, seq_e1, at_e2, set_e2, seq_e2, at_e3, set_e3, seq_e3, at_e4, set_e4, seq_e4, pure_int, pure_bl, pure_non, pure_str, pure_tup, pures_nil, pures_cons, mul_l, mul_r, it_tup, it_loc, zip_tup, fu_items, fu_live, fu_zip, c3, ansF]
  · simp [↓z_some, ↓z_none, ↓z_ok, ↓z_exc, ↓z_bind, ↓z_wr, ↓z_ws, ↓z_ow, ↓z_nx, ↓z_rt, ↓z_br, ↓z_ct, ↓z_ex, ↓z_cons, ↓z_nil, ↓z_ret, ↓z_expr, ↓z_for, ↓z_par, ↓z_try0, ↓z_try1, ↓z_tests_nil, ↓z_var, ↓z_non, ↓z_bl, ↓z_int, ↓z_str, ↓z_gint, ↓z_bop, ↓z_neg, ↓z_not, ↓z_cmp, ↓z_cmp2, ↓z_and, ↓z_or, ↓z_ite, ↓z_tup, ↓z_lst, ↓z_ix, ↓z_slice, ↓z_o_nil, ↓z_o_cons, ↓z_sl_tup, ↓z_sl_loc, ↓z_call, ↓z_bi, ↓z_meth, ↓z_isin, ↓z_xfld, ↓z_xis, ↓z_es_nil, ↓z_es_cons, ↓z_i_seq, ↓z_i_rng1, ↓z_i_rng2, ↓z_i_zip, ↓z_lc, ↓z_lcF, ↓z_t_cons, ↓z_asg, ↓z_if, ↓z_raise, ↓z_forF, ↓z_aug, ↓z_asgS, ↓z_brk, ↓z_cnt, ↓z_pass, ↓z_ret0, ↓z_whl, ↓z_add, ↓z_sub, ↓z_mul, ↓z_div, ↓z_mod, ↓z_pow, ↓z_addt, ↓z_eq, ↓z_ne, ↓z_lt, ↓z_le, ↓z_gt, ↓z_ge, ↓z_is_b, ↓z_is_n, ↓z_is_i, ↓z_is_t, ↓z_no_b, ↓z_no_n, ↓z_no_i, ↓z_no_t, ↓z_gadd, ↓z_gsub, ↓z_gmul, ↓z_gdiv, ↓z_gmod, ↓z_len_t, ↓z_len_l, ↓z_tuple, ↓z_list, ↓z_int_i, ↓z_int_b, ↓z_bool_i, ↓z_bool_b, ↓z_abs, ↓z_min2, ↓z_max2, ↓z_sum, ↓z_app, ↓z_pop, startD, seq_tup, ty_ii, ty_ib, ty_it, ty_bi, ty_bb, ty_bt, ty_tt, ty_ti, ty_tb, ty_n, ty_st, ty_si, tr_bl, tr_int, tr_non, set_slot, set_nil, set_cons, sets_nil, sets_cons, wipe_nil, wipe_cons, gv_0, sv_0, gv_1, sv_1, gv_2, sv_2, gv_3, sv_3, gv_4, sv_4, gv_5, sv_5, gv_6, sv_6, gv_7, sv_7, gv_8, sv_8, gv_9, sv_9, gv_10, sv_10, gv_11, sv_11, gv_12, sv_12, gv_13, sv_13, gv_14, sv_14, gv_15, sv_15, gv_16, sv_16, gv_17, sv_17, gv_18, sv_18, gv_19, sv_19, gv_20, sv_20, gv_21, sv_21, gv_22, sv_22, gv_23, sv_23, Option.bind_some, at0, at1, at2, at3, set0, set1, set2, set3, mr_app, mr_ext, mr_pop, eqv_int, seq_end, at_end, set_end, at_e1, set_e1, seq_e1, at_e2, set_e2, seq_e2, at_e3, set_e3, seq_e3, at_e4, set_e4, seq_e4, pure_int, pure_bl, pure_non, pure_str, pure_tup, pures_nil, pures_cons, mul_l, mul_r, it_tup, it_loc, zip_tup, fu_items, fu_live, fu_zip, eL, take_end]
theorem pure_tp {α : Type} {f : α → D} (h : ∀ a, (f a).pure = true) (l : List α) : (D.tup (l.map f)).pure = true := pures_map h l
def rowD (M : List (List Cell)) (r : List Int) : D := .tup [eR r, eR (ansF M r)]
theorem pure_rowD (M : List (List Cell)) (r : List Int) : (rowD M r).pure = true := by simp [rowD, D.pure, D.pures, pure_eR]
theorem zip_eL (a b : List (List Int)) (μ : Mem) : zipD μ (eL a) (eL b) = some (.items (List.zipWith (fun x y => D.tup [x, y]) (a.map eR) (b.map eR))) := rfl
theorem log_ok {n : Nat} {M : List (List Cell)} {k : Nat} {l : List (List Int)} {μ : Mem} (h : Pu μ) (W : Mc M k) (hl : Lt k l) : call (n + 7) 17 [eM M, eL l] μ = .ok (.tup (l.map (rowD M))) μ := by
  refine pu (d := m_log_of) rfl rfl h (pure_tp (pure_rowD M) l) ?_
  have c1 := due_ok (n := n) h W hl
  simp [↓z_some, ↓z_none, ↓z_ok, ↓z_exc, ↓z_bind, ↓z_wr, ↓z_ws, ↓z_ow, ↓z_nx, ↓z_rt, ↓z_br, ↓z_ct, ↓z_ex, ↓z_cons, ↓z_nil, ↓z_ret, ↓z_expr, ↓z_for, ↓z_par, ↓z_try0, ↓z_try1, ↓z_tests_nil, ↓z_var, ↓z_non, ↓z_bl, ↓z_int, ↓z_str, ↓z_gint, ↓z_bop, ↓z_neg, ↓z_not, ↓z_cmp, ↓z_cmp2, ↓z_and, ↓z_or, ↓z_ite, ↓z_tup, ↓z_lst, ↓z_ix, ↓z_slice, ↓z_o_nil, ↓z_o_cons, ↓z_sl_tup, ↓z_sl_loc, ↓z_call, ↓z_bi, ↓z_meth, ↓z_isin, ↓z_xfld, ↓z_xis, ↓z_es_nil, ↓z_es_cons, ↓z_i_seq, ↓z_i_rng1, ↓z_i_rng2, ↓z_i_zip, ↓z_lc, ↓z_lcF, ↓z_t_cons, ↓z_asg, ↓z_if, ↓z_raise, ↓z_forF, ↓z_aug, ↓z_asgS, ↓z_brk, ↓z_cnt, ↓z_pass, ↓z_ret0, ↓z_whl, ↓z_add, ↓z_sub, ↓z_mul, ↓z_div, ↓z_mod, ↓z_pow, ↓z_addt, ↓z_eq, ↓z_ne, ↓z_lt, ↓z_le, ↓z_gt, ↓z_ge, ↓z_is_b, ↓z_is_n, ↓z_is_i, ↓z_is_t, ↓z_no_b, ↓z_no_n, ↓z_no_i, ↓z_no_t, ↓z_gadd, ↓z_gsub, ↓z_gmul, ↓z_gdiv, ↓z_gmod, ↓z_len_t, ↓z_len_l, ↓z_tuple, ↓z_list, ↓z_int_i, ↓z_int_b, ↓z_bool_i, ↓z_bool_b, ↓z_abs, ↓z_min2, ↓z_max2, ↓z_sum, ↓z_app, ↓z_pop, startD, seq_tup, ty_ii, ty_ib, ty_it, ty_bi, ty_bb, ty_bt, ty_tt, ty_ti, ty_tb, ty_n, ty_st, ty_si, tr_bl, tr_int, tr_non, set_slot, set_nil, set_cons, sets_nil, sets_cons, wipe_nil, wipe_cons, gv_0, sv_0, gv_1, sv_1, gv_2, sv_2, gv_3, sv_3, gv_4, sv_4, gv_5, sv_5, gv_6, sv_6, gv_7, sv_7, gv_8, sv_8, gv_9, sv_9, gv_10, sv_10, gv_11, sv_11, gv_12, sv_12, gv_13, sv_13, gv_14, sv_14, gv_15, sv_15, gv_16, sv_16, gv_17, sv_17, gv_18, sv_18, gv_19, sv_19, gv_20, sv_20, gv_21, sv_21, gv_22, sv_22, gv_23, sv_23, Option.bind_some, at0, at1, at2, at3, set0, set1, set2, set3, mr_app, mr_ext, mr_pop, eqv_int, seq_end, at_end, set_end, at_e1, set_e1, seq_e1, at_e2, set_e2, seq_e2, at_e3, set_e3, seq_e3, at_e4, set_e4, seq_e4, pure_int, pure_bl, pure_non, pure_str, pure_tup, pures_nil, pures_cons, mul_l, mul_r, it_tup, it_loc, zip_tup, fu_items, fu_live, fu_zip, m_log_of, c1, zip_eL]
  refine lc_mapE (rowD M) (by have := hl.few; omega) (by simp) (by simp) rfl (fun _ _ => pure_rowD M _) ?_ ?_
  · intro i r acc hr hm hp
    simp [↓z_some, ↓z_none, ↓z_ok, ↓z_exc, ↓z_bind, ↓z_wr, ↓z_ws, ↓z_ow, ↓z_nx, ↓z_rt, ↓z_br, ↓z_ct, ↓z_ex, ↓z_cons, ↓z_nil, ↓z_ret, ↓z_expr, ↓z_for, ↓z_par, ↓z_try0, ↓z_try1, ↓z_tests_nil, ↓z_var, ↓z_non, ↓z_bl, ↓z_int, ↓z_str, ↓z_gint, ↓z_bop, ↓z_neg, ↓z_not, ↓z_cmp, ↓z_cmp2, ↓z_and, ↓z_or, ↓z_ite, ↓z_tup, ↓z_lst, ↓z_ix, ↓z_slice, ↓z_o_nil, ↓z_o_cons, ↓z_sl_tup, ↓z_sl_loc, ↓z_call, ↓z_bi, ↓z_meth, ↓z_isin, ↓z_xfld, ↓z_xis, ↓z_es_nil, ↓z_es_cons, ↓z_i_seq, ↓z_i_rng1, ↓z_i_rng2, ↓z_i_zip, ↓z_lc, ↓z_lcF, ↓z_t_cons, ↓z_asg, ↓z_if, ↓z_raise, ↓z_forF, ↓z_aug, ↓z_asgS, ↓z_brk, ↓z_cnt, ↓z_pass, ↓z_ret0, ↓z_whl, ↓z_add, ↓z_sub, ↓z_mul, ↓z_div, ↓z_mod, ↓z_pow, ↓z_addt, ↓z_eq, ↓z_ne, ↓z_lt, ↓z_le, ↓z_gt, ↓z_ge, ↓z_is_b, ↓z_is_n, ↓z_is_i, ↓z_is_t, ↓z_no_b, ↓z_no_n, ↓z_no_i, ↓z_no_t, ↓z_gadd, ↓z_gsub, ↓z_gmul, ↓z_gdiv, ↓z_gmod, ↓z_len_t, ↓z_len_l, ↓z_tuple, ↓z_list, ↓z_int_i, ↓z_int_b, ↓z_bool_i, ↓z_bool_b, ↓z_abs, ↓z_min2, ↓z_max2, ↓z_sum, ↓z_app, ↓z_pop, startD, seq_tup, ty_ii, ty_ib, ty_it, ty_bi, ty_bb, ty_bt, ty_tt, ty_ti, ty_tb, ty_n, ty_st, ty_si, tr_bl, tr_int, tr_non, set_slot, set_nil, set_cons, sets_nil, sets_cons, wipe_nil, wipe_cons, gv_0, sv_0, gv_1, sv_1, gv_2, sv_2, gv_3, sv_3, gv_4, sv_4, gv_5, sv_5, gv_6, sv_6, gv_7, sv_7, gv_8, sv_8, gv_9, sv_9, gv_10, sv_10, gv_11, sv_11, gv_12, sv_12, gv_13, sv_13, gv_14, sv_14, gv_15, sv_15, gv_16, sv_16, gv_17, sv_17, gv_18, sv_18, gv_19, sv_19, gv_20, sv_20, gv_21, sv_21, gv_22, sv_22, gv_23, sv_23, Option.bind_some, at0, at1, at2, at3, set0, set1, set2, set3, mr_app, mr_ext, mr_pop, eqv_int, seq_end, at_end, set_end, at_e1, set_e1, seq_e1, at_e2, set_e2, seq_e2, at_e3, set_e3, seq_e3, at_e4, set_e4, seq_e4, pure_int, pure_bl, pure_non, pure_str, pure_tup, pures_nil, pures_cons, mul_l, mul_r, it_tup, it_loc, zip_tup, fu_items, fu_live, fu_zip, rowD]
  · simp [↓z_some, ↓z_none, ↓z_ok, ↓z_exc, ↓z_bind, ↓z_wr, ↓z_ws, ↓z_ow, ↓z_nx, ↓z_rt, ↓z_br, ↓z_ct, ↓z_ex, ↓z_cons, ↓z_nil, ↓z_ret, ↓z_expr, ↓z_for, ↓z_par, ↓z_try0, ↓z_try1, ↓z_tests_nil, ↓z_var, ↓z_non, ↓z_bl, ↓z_int, ↓z_str, ↓z_gint, ↓z_bop, ↓z_neg, ↓z_not, ↓z_cmp, ↓z_cmp2, ↓z_and, ↓z_or, ↓z_ite, ↓z_tup, ↓z_lst, ↓z_ix, ↓z_slice, ↓z_o_nil, ↓z_o_cons, ↓z_sl_tup, ↓z_sl_loc, ↓z_call, ↓z_bi, ↓z_meth, ↓z_isin, ↓z_xfld, ↓z_xis, ↓z_es_nil, ↓z_es_cons, ↓z_i_seq, ↓z_i_rng1, ↓z_i_rng2, ↓z_i_zip, ↓z_lc, ↓z_lcF, ↓z_t_cons, ↓z_asg, ↓z_if, ↓z_raise, ↓z_forF, ↓z_aug, ↓z_asgS, ↓z_brk, ↓z_cnt, ↓z_pass, ↓z_ret0, ↓z_whl, ↓z_add, ↓z_sub, ↓z_mul, ↓z_div, ↓z_mod, ↓z_pow, ↓z_addt, ↓z_eq, ↓z_ne, ↓z_lt, ↓z_le, ↓z_gt, ↓z_ge, ↓z_is_b, ↓z_is_n, ↓z_is_i, ↓z_is_t, ↓z_no_b, ↓z_no_n, ↓z_no_i, ↓z_no_t, ↓z_gadd, ↓z_gsub, ↓z_gmul, ↓z_gdiv, ↓z_gmod, ↓z_len_t, ↓z_len_l, ↓z_tuple, ↓z_list, ↓z_int_i, ↓z_int_b, ↓z_bool_i, ↓z_bool_b, ↓z_abs, ↓z_min2, ↓z_max2, ↓z_sum, ↓z_app, ↓z_pop, startD, seq_tup, ty_ii, ty_ib, ty_it, ty_bi, ty_bb, ty_bt, ty_tt, ty_ti, ty_tb, ty_n, ty_st, ty_si, tr_bl, tr_int, tr_non, set_slot, set_nil, set_cons, sets_nil, sets_cons, wipe_nil, wipe_cons, gv_0, sv_0, gv_1, sv_1, gv_2, sv_2, gv_3, sv_3, gv_4, sv_4, gv_5, sv_5, gv_6, sv_6, gv_7, sv_7, gv_8, sv_8, gv_9, sv_9, gv_10, sv_10, gv_11, sv_11, gv_12, sv_12, gv_13, sv_13, gv_14, sv_14, gv_15, sv_15, gv_16, sv_16, gv_17, sv_17, gv_18, sv_18, gv_19, sv_19, gv_20, sv_20, gv_21, sv_21, gv_22, sv_22, gv_23, sv_23, Option.bind_some, at0, at1, at2, at3, set0, set1, set2, set3, mr_app, mr_ext, mr_pop, eqv_int, seq_end, at_end, set_end, at_e1, set_e1, seq_e1, at_e2, set_e2, seq_e2, at_e3, set_e3, seq_e3, at_e4, set_e4, seq_e4, pure_int, pure_bl, pure_non, pure_str, pure_tup, pures_nil, pures_cons, mul_l, mul_r, it_tup, it_loc, zip_tup, fu_items, fu_live, fu_zip, take_end]
/-! first failures -/
theorem eqv_eR (a b : List Int) : (eR a).eqv (eR b) = decide (a = b) := eqvs_ints a b
theorem shp_eR {k : Nat} (r : List Int) : (eR r).shp (k + 1) = true := shps_ints r
theorem shp_eR63 (r : List Int) : (eR r).shp 63 = true := shps_ints r
def ff (M M' : List (List Cell)) (l : List (List Int)) : Option Nat := l.findIdx? fun r => !decide (ansF M r = ansF M' r)
def ffD (M M' : List (List Cell)) (l : List (List Int)) : D := match ff M M' l with
  | some i => .int i
  | none => .non
theorem ff_some {M M' : List (List Cell)} {l : List (List Int)} {i : Nat} {r : List Int} (hr : l[i]? = some r) (h : ansF M r ≠ ansF M' r) (hb : ∀ (j : Nat) (r : List Int), j < i → l[j]? = some r → ansF M r = ansF M' r) : ffD M M' l = .int i := by
  have : ff M M' l = some i := by
    unfold ff
    obtain ⟨hi, e⟩ := List.getElem?_eq_some_iff.mp hr
    rw [List.findIdx?_eq_some_iff_getElem]
    refine ⟨hi, by simp [e, h], fun j hj => ?_⟩
    have := hb j l[j] hj (List.getElem?_eq_getElem (by omega))
    simp [this]
  unfold ffD
  rw [this]
theorem ff_none {M M' : List (List Cell)} {l : List (List Int)} (hb : ∀ (j : Nat) (r : List Int), l[j]? = some r → ansF M r = ansF M' r) : ffD M M' l = .non := by
  have : ff M M' l = none := by
    unfold ff
    rw [List.findIdx?_eq_none_iff]
    intro r hr
    obtain ⟨j, hj, e⟩ := List.mem_iff_getElem.mp hr
    have := hb j r (by rw [List.getElem?_eq_getElem hj, e])
    simp [this]
  unfold ffD
  rw [this]
theorem ff_pure (M M' : List (List Cell)) (l : List (List Int)) : (ffD M M' l).pure = true := by unfold ffD; cases ff M M' l <;> rfl
theorem first_ok {n : Nat} {M M' : List (List Cell)} {k : Nat} {l : List (List Int)} {μ : Mem} (h : Pu μ) (W : Mc M k) (W' : Mc M' k) (hl : Lt k l) : call (n + 6) 15 [eM M, eM M', eL l] μ = .ok (ffD M M' l) μ := by
  refine pu (d := m_first_failure) rfl rfl h (ff_pure ..) ?_
  obtain ⟨s0, e0, l0⟩ := len0 W
  obtain ⟨s0', e0', l0'⟩ := len0 W'
  have c1 := check_m (n := n + 1) h W
  have c1' := check_m (n := n + 1) h W'
  have c2 := check_lot_ok (n := n) h (kk W) hl.few hl.ok
  simp [↓z_some, ↓z_none, ↓z_ok, ↓z_exc, ↓z_bind, ↓z_wr, ↓z_ws, ↓z_ow, ↓z_nx, ↓z_rt, ↓z_br, ↓z_ct, ↓z_ex, ↓z_cons, ↓z_nil, ↓z_ret, ↓z_expr, ↓z_for, ↓z_par, ↓z_try0, ↓z_try1, ↓z_tests_nil, ↓z_var, ↓z_non, ↓z_bl, ↓z_int, ↓z_str, ↓z_gint, ↓z_bop, ↓z_neg, ↓z_not, ↓z_cmp, ↓z_cmp2, ↓z_and, ↓z_or, ↓z_ite, ↓z_tup, ↓z_lst, ↓z_ix, ↓z_slice, ↓z_o_nil, ↓z_o_cons, ↓z_sl_tup, ↓z_sl_loc, ↓z_call, ↓z_bi, ↓z_meth, ↓z_isin, ↓z_xfld, ↓z_xis, ↓z_es_nil, ↓z_es_cons, ↓z_i_seq, ↓z_i_rng1, ↓z_i_rng2, ↓z_i_zip, ↓z_lc, ↓z_lcF, ↓z_t_cons, ↓z_asg, ↓z_if, ↓z_raise, ↓z_forF, ↓z_aug, ↓z_asgS, ↓z_brk, ↓z_cnt, ↓z_pass, ↓z_ret0, ↓z_whl, ↓z_add, ↓z_sub, ↓z_mul, ↓z_div, ↓z_mod, ↓z_pow, ↓z_addt, ↓z_eq, ↓z_ne, ↓z_lt, ↓z_le, ↓z_gt, ↓z_ge, ↓z_is_b, ↓z_is_n, ↓z_is_i, ↓z_is_t, ↓z_no_b, ↓z_no_n, ↓z_no_i, ↓z_no_t, ↓z_gadd, ↓z_gsub, ↓z_gmul, ↓z_gdiv, ↓z_gmod, ↓z_len_t, ↓z_len_l, ↓z_tuple, ↓z_list, ↓z_int_i, ↓z_int_b, ↓z_bool_i, ↓z_bool_b, ↓z_abs, ↓z_min2, ↓z_max2, ↓z_sum, ↓z_app, ↓z_pop, startD, seq_tup, ty_ii, ty_ib, ty_it, ty_bi, ty_bb, ty_bt, ty_tt, ty_ti, ty_tb, ty_n, ty_st, ty_si, tr_bl, tr_int, tr_non, set_slot, set_nil, set_cons, sets_nil, sets_cons, wipe_nil, wipe_cons, gv_0, sv_0, gv_1, sv_1, gv_2, sv_2, gv_3, sv_3, gv_4, sv_4, gv_5, sv_5, gv_6, sv_6, gv_7, sv_7, gv_8, sv_8, gv_9, sv_9, gv_10, sv_10, gv_11, sv_11, gv_12, sv_12, gv_13, sv_13, gv_14, sv_14, gv_15, sv_15, gv_16, sv_16, gv_17, sv_17, gv_18, sv_18, gv_19, sv_19, gv_20, sv_20, gv_21, sv_21, gv_22, sv_22, gv_23, sv_23, Option.bind_some, at0, at1, at2, at3, set0, set1, set2, set3, mr_app, mr_ext, mr_pop, eqv_int, seq_end, at_end, set_end, at_e1, set_e1, seq_e1, at_e2, set_e2, seq_e2, at_e3, set_e3, seq_e3, at_e4, set_e4, seq_e4, pure_int, pure_bl, pure_non, pure_str, pure_tup, pures_nil, pures_cons, mul_l, mul_r, it_tup, it_loc, zip_tup, fu_items, fu_live, fu_zip, m_first_failure, c1, c1', seq_eM, at0_eM e0, at0_eM e0', ↓z_len_eS, ↓z_len_eL, l0, l0', c2, eqM_shp, shp_int]
  refine ⟨by have := hl.few; omega, ?_⟩
  refine for_rule (it := .items (rngD 0 l.length)) (fun i env μ1 => (∃ a, env = [some (eM M), some (eM M'), some (eL l), a]) ∧ μ1 = μ ∧ ∀ (j : Nat) (r : List Int), j < i → l[j]? = some r → ansF M r = ansF M' r) (fun _ _ _ _ => rfl) rfl ⟨⟨_, rfl⟩, rfl, fun j r hj => absurd hj (Nat.not_lt_zero _)⟩ ?_ ?_
  · rintro i d env μ1 hd ⟨⟨a, rfl⟩, rfl, hb⟩
    obtain ⟨rfl, hi⟩ := rngD_at hd
    have er : l[i]? = some l[i] := List.getElem?_eq_getElem (by omega)
    have hr := hl.ok _ (List.mem_of_getElem? er)
    generalize l[i]'(by omega) = r at er hr
    have c3 := run_ok (n := n + 4) h W (in0 W) hr
    have c3' := run_ok (n := n + 4) h W' (in0 W') hr
    by_cases c : (runF M 0 r).1 = (runF M' 0 r).1
    · simp [↓z_some, ↓z_none, ↓z_ok, ↓z_exc, ↓z_bind, ↓z_wr, ↓z_ws, ↓z_ow, ↓z_nx, ↓z_rt, ↓z_br, ↓z_ct, ↓z_ex, ↓z_cons, ↓z_nil, ↓z_ret, ↓z_expr, ↓z_for, ↓z_par, ↓z_try0, ↓z_try1, ↓z_tests_nil, ↓z_var, ↓z_non, ↓z_bl, ↓z_int, ↓z_str, ↓z_gint, ↓z_bop, ↓z_neg, ↓z_not, ↓z_cmp, ↓z_cmp2, ↓z_and, ↓z_or, ↓z_ite, ↓z_tup, ↓z_lst, ↓z_ix, ↓z_slice, ↓z_o_nil, ↓z_o_cons, ↓z_sl_tup, ↓z_sl_loc, ↓z_call, ↓z_bi, ↓z_meth, ↓z_isin, ↓z_xfld, ↓z_xis, ↓z_es_nil, ↓z_es_cons, ↓z_i_seq, ↓z_i_rng1, ↓z_i_rng2, ↓z_i_zip, ↓z_lc, ↓z_lcF, ↓z_t_cons, ↓z_asg, ↓z_if, ↓z_raise, ↓z_forF, ↓z_aug, ↓z_asgS, ↓z_brk, ↓z_cnt, ↓z_pass, ↓z_ret0, ↓z_whl, ↓z_add, ↓z_sub, ↓z_mul, ↓z_div, ↓z_mod, ↓z_pow, ↓z_addt, ↓z_eq, ↓z_ne, ↓z_lt, ↓z_le, ↓z_gt, ↓z_ge, ↓z_is_b, ↓z_is_n, ↓z_is_i, ↓z_is_t, ↓z_no_b, ↓z_no_n, ↓z_no_i, ↓z_no_t, ↓z_gadd, ↓z_gsub, ↓z_gmul, ↓z_gdiv, ↓z_gmod, ↓z_len_t, ↓z_len_l, ↓z_tuple, ↓z_list, ↓z_int_i, ↓z_int_b, ↓z_bool_i, ↓z_bool_b, ↓z_abs, ↓z_min2, ↓z_max2, ↓z_sum, ↓z_app, ↓z_pop, startD, seq_tup, ty_ii, ty_ib, ty_it, ty_bi, ty_bb, ty_bt, ty_tt, ty_ti, ty_tb, ty_n, ty_st, ty_si, tr_bl, tr_int, tr_non, set_slot, set_nil, set_cons, sets_nil, sets_cons, wipe_nil, wipe_cons, gv_0, sv_0, gv_1, sv_1, gv_2, sv_2, gv_3, sv_3, gv_4, sv_4, gv_5, sv_5, gv_6, sv_6, gv_7, sv_7, gv_8, sv_8, gv_9, sv_9, gv_10, sv_10, gv_11, sv_11, gv_12, sv_12, gv_13, sv_13, gv_14, sv_14, gv_15, sv_15, gv_16, sv_16, gv_17, sv_17, gv_18, sv_18, gv_19, sv_19, gv_20, sv_20, gv_21, sv_21, gv_22, sv_22, gv_23, sv_23, Option.bind_some, at0, at1, at2, at3, set0, set1, set2, set3, mr_app, mr_ext, mr_pop, eqv_int, seq_end, at_end, set_end, at_e1, set_e1, seq_e1, at_e2, set_e2, seq_e2, at_e3, set_e3, seq_e3, at_e4, set_e4, seq_e4, pure_int, pure_bl, pure_non, pure_str, pure_tup, pures_nil, pures_cons, mul_l, mul_r, it_tup, it_loc, zip_tup, fu_items, fu_live, fu_zip, seq_eL, at_eL er, c3, c3', eqM_shp, shp_eR63, eqv_eR, c]
      intro j r' hj hr'
      rcases Nat.lt_succ_iff_lt_or_eq.mp hj with hj | rfl
      · exact hb j r' hj hr'
      · rw [er] at hr'
        cases hr'
        exact c
    · simp [↓z_some, ↓z_none, ↓z_ok, ↓z_exc, ↓z_bind, ↓z_wr, ↓z_ws, ↓z_ow, ↓z_nx, ↓z_rt, ↓z_br, ↓z_ct, ↓z_ex, ↓z_cons, ↓z_nil, ↓z_ret, ↓z_expr, ↓z_for, ↓z_par, ↓z_try0, ↓z_try1, ↓z_tests_nil, ↓z_var, ↓z_non, ↓z_bl, ↓z_int, ↓z_str, ↓z_gint, ↓z_bop, ↓z_neg, ↓z_not, ↓z_cmp, ↓z_cmp2, ↓z_and, ↓z_or, ↓z_ite, ↓z_tup, ↓z_lst, ↓z_ix, ↓z_slice, ↓z_o_nil, ↓z_o_cons, ↓z_sl_tup, ↓z_sl_loc, ↓z_call, ↓z_bi, ↓z_meth, ↓z_isin, ↓z_xfld, ↓z_xis, ↓z_es_nil, ↓z_es_cons, ↓z_i_seq, ↓z_i_rng1, ↓z_i_rng2, ↓z_i_zip, ↓z_lc, ↓z_lcF, ↓z_t_cons, ↓z_asg, ↓z_if, ↓z_raise, ↓z_forF, ↓z_aug, ↓z_asgS, ↓z_brk, ↓z_cnt, ↓z_pass, ↓z_ret0, ↓z_whl, ↓z_add, ↓z_sub, ↓z_mul, ↓z_div, ↓z_mod, ↓z_pow, ↓z_addt, ↓z_eq, ↓z_ne, ↓z_lt, ↓z_le, ↓z_gt, ↓z_ge, ↓z_is_b, ↓z_is_n, ↓z_is_i, ↓z_is_t, ↓z_no_b, ↓z_no_n, ↓z_no_i, ↓z_no_t, ↓z_gadd, ↓z_gsub, ↓z_gmul, ↓z_gdiv, ↓z_gmod, ↓z_len_t, ↓z_len_l, ↓z_tuple, ↓z_list, ↓z_int_i, ↓z_int_b, ↓z_bool_i, ↓z_bool_b, ↓z_abs, ↓z_min2, ↓z_max2, ↓z_sum, ↓z_app, ↓z_pop, startD, seq_tup, ty_ii, ty_ib, ty_it, ty_bi, ty_bb, ty_bt, ty_tt, ty_ti, ty_tb, ty_n, ty_st, ty_si, tr_bl, tr_int, tr_non, set_slot, set_nil, set_cons, sets_nil, sets_cons, wipe_nil, wipe_cons, gv_0, sv_0, gv_1, sv_1, gv_2, sv_2, gv_3, sv_3, gv_4, sv_4, gv_5, sv_5, gv_6, sv_6, gv_7, sv_7, gv_8, sv_8, gv_9, sv_9, gv_10, sv_10, gv_11, sv_11, gv_12, sv_12, gv_13, sv_13, gv_14, sv_14, gv_15, sv_15, gv_16, sv_16, gv_17, sv_17, gv_18, sv_18, gv_19, sv_19, gv_20, sv_20, gv_21, sv_21, gv_22, sv_22, gv_23, sv_23, Option.bind_some, at0, at1, at2, at3, set0, set1, set2, set3, mr_app, mr_ext, mr_pop, eqv_int, seq_end, at_end, set_end, at_e1, set_e1, seq_e1, at_e2, set_e2, seq_e2, at_e3, set_e3, seq_e3, at_e4, set_e4, seq_e4, pure_int, pure_bl, pure_non, pure_str, pure_tup, pures_nil, pures_cons, mul_l, mul_r, it_tup, it_loc, zip_tup, fu_items, fu_live, fu_zip, seq_eL, at_eL er, c3, c3', eqM_shp, shp_eR63, eqv_eR, c]
      exact (ff_some er c hb).symm
  · rintro env μ1 ⟨⟨a, rfl⟩, rfl, hb⟩
    rw [rng_len] at hb
    simp [↓z_some, ↓z_none, ↓z_ok, ↓z_exc, ↓z_bind, ↓z_wr, ↓z_ws, ↓z_ow, ↓z_nx, ↓z_rt, ↓z_br, ↓z_ct, ↓z_ex, ↓z_cons, ↓z_nil, ↓z_ret, ↓z_expr, ↓z_for, ↓z_par, ↓z_try0, ↓z_try1, ↓z_tests_nil, ↓z_var, ↓z_non, ↓z_bl, ↓z_int, ↓z_str, ↓z_gint, ↓z_bop, ↓z_neg, ↓z_not, ↓z_cmp, ↓z_cmp2, ↓z_and, ↓z_or, ↓z_ite, ↓z_tup, ↓z_lst, ↓z_ix, ↓z_slice, ↓z_o_nil, ↓z_o_cons, ↓z_sl_tup, ↓z_sl_loc, ↓z_call, ↓z_bi, ↓z_meth, ↓z_isin, ↓z_xfld, ↓z_xis, ↓z_es_nil, ↓z_es_cons, ↓z_i_seq, ↓z_i_rng1, ↓z_i_rng2, ↓z_i_zip, ↓z_lc, ↓z_lcF, ↓z_t_cons, ↓z_asg, ↓z_if, ↓z_raise, ↓z_forF, ↓z_aug, ↓z_asgS, ↓z_brk, ↓z_cnt, ↓z_pass, ↓z_ret0, ↓z_whl, ↓z_add, ↓z_sub, ↓z_mul, ↓z_div, ↓z_mod, ↓z_pow, ↓z_addt, ↓z_eq, ↓z_ne, ↓z_lt, ↓z_le, ↓z_gt, ↓z_ge, ↓z_is_b, ↓z_is_n, ↓z_is_i, ↓z_is_t, ↓z_no_b, ↓z_no_n, ↓z_no_i, ↓z_no_t, ↓z_gadd, ↓z_gsub, ↓z_gmul, ↓z_gdiv, ↓z_gmod, ↓z_len_t, ↓z_len_l, ↓z_tuple, ↓z_list, ↓z_int_i, ↓z_int_b, ↓z_bool_i, ↓z_bool_b, ↓z_abs, ↓z_min2, ↓z_max2, ↓z_sum, ↓z_app, ↓z_pop, startD, seq_tup, ty_ii, ty_ib, ty_it, ty_bi, ty_bb, ty_bt, ty_tt, ty_ti, ty_tb, ty_n, ty_st, ty_si, tr_bl, tr_int, tr_non, set_slot, set_nil, set_cons, sets_nil, sets_cons, wipe_nil, wipe_cons, gv_0, sv_0, gv_1, sv_1, gv_2, sv_2, gv_3, sv_3, gv_4, sv_4, gv_5, sv_5, gv_6, sv_6, gv_7, sv_7, gv_8, sv_8, gv_9, sv_9, gv_10, sv_10, gv_11, sv_11, gv_12, sv_12, gv_13, sv_13, gv_14, sv_14, gv_15, sv_15, gv_16, sv_16, gv_17, sv_17, gv_18, sv_18, gv_19, sv_19, gv_20, sv_20, gv_21, sv_21, gv_22, sv_22, gv_23, sv_23, Option.bind_some, at0, at1, at2, at3, set0, set1, set2, set3, mr_app, mr_ext, mr_pop, eqv_int, seq_end, at_end, set_end, at_e1, set_e1, seq_e1, at_e2, set_e2, seq_e2, at_e3, set_e3, seq_e3, at_e4, set_e4, seq_e4, pure_int, pure_bl, pure_non, pure_str, pure_tup, pures_nil, pures_cons, mul_l, mul_r, it_tup, it_loc, zip_tup, fu_items, fu_live, fu_zip]
    refine (ff_none fun j r hr => hb j r ?_ hr).symm
    have := (List.getElem?_eq_some_iff.mp hr).1
    omega
theorem first_bad {n : Nat} {M M' : List (List Cell)} {k k' : Nat} {l : List (List Int)} {μ : Mem} (h : Pu μ) (W : Mc M k) (W' : Mc M' k') (hl : Lt k l) (hk : k' ≠ k) : call (n + 6) 15 [eM M, eM M', eL l] μ = .exc ⟨4, [("word", .str "unfit")]⟩ μ := by
  refine px (d := m_first_failure) rfl rfl h rfl ?_
  obtain ⟨s0, e0, l0⟩ := len0 W
  obtain ⟨s0', e0', l0'⟩ := len0 W'
  have c1 := check_m (n := n + 1) h W
  have c1' := check_m (n := n + 1) h W'
  have c2 := check_lot_ok (n := n) h (kk W) hl.few hl.ok
  have hk2 : ¬ (k' : Int) = k := by omega
  simp [↓z_some, ↓z_none, ↓z_ok, ↓z_exc, ↓z_bind, ↓z_wr, ↓z_ws, ↓z_ow, ↓z_nx, ↓z_rt, ↓z_br, ↓z_ct, ↓z_ex, ↓z_cons, ↓z_nil, ↓z_ret, ↓z_expr, ↓z_for, ↓z_par, ↓z_try0, ↓z_try1, ↓z_tests_nil, ↓z_var, ↓z_non, ↓z_bl, ↓z_int, ↓z_str, ↓z_gint, ↓z_bop, ↓z_neg, ↓z_not, ↓z_cmp, ↓z_cmp2, ↓z_and, ↓z_or, ↓z_ite, ↓z_tup, ↓z_lst, ↓z_ix, ↓z_slice, ↓z_o_nil, ↓z_o_cons, ↓z_sl_tup, ↓z_sl_loc, ↓z_call, ↓z_bi, ↓z_meth, ↓z_isin, ↓z_xfld, ↓z_xis, ↓z_es_nil, ↓z_es_cons, ↓z_i_seq, ↓z_i_rng1, ↓z_i_rng2, ↓z_i_zip, ↓z_lc, ↓z_lcF, ↓z_t_cons, ↓z_asg, ↓z_if, ↓z_raise, ↓z_forF, ↓z_aug, ↓z_asgS, ↓z_brk, ↓z_cnt, ↓z_pass, ↓z_ret0, ↓z_whl, ↓z_add, ↓z_sub, ↓z_mul, ↓z_div, ↓z_mod, ↓z_pow, ↓z_addt, ↓z_eq, ↓z_ne, ↓z_lt, ↓z_le, ↓z_gt, ↓z_ge, ↓z_is_b, ↓z_is_n, ↓z_is_i, ↓z_is_t, ↓z_no_b, ↓z_no_n, ↓z_no_i, ↓z_no_t, ↓z_gadd, ↓z_gsub, ↓z_gmul, ↓z_gdiv, ↓z_gmod, ↓z_len_t, ↓z_len_l, ↓z_tuple, ↓z_list, ↓z_int_i, ↓z_int_b, ↓z_bool_i, ↓z_bool_b, ↓z_abs, ↓z_min2, ↓z_max2, ↓z_sum, ↓z_app, ↓z_pop, startD, seq_tup, ty_ii, ty_ib, ty_it, ty_bi, ty_bb, ty_bt, ty_tt, ty_ti, ty_tb, ty_n, ty_st, ty_si, tr_bl, tr_int, tr_non, set_slot, set_nil, set_cons, sets_nil, sets_cons, wipe_nil, wipe_cons, gv_0, sv_0, gv_1, sv_1, gv_2, sv_2, gv_3, sv_3, gv_4, sv_4, gv_5, sv_5, gv_6, sv_6, gv_7, sv_7, gv_8, sv_8, gv_9, sv_9, gv_10, sv_10, gv_11, sv_11, gv_12, sv_12, gv_13, sv_13, gv_14, sv_14, gv_15, sv_15, gv_16, sv_16, gv_17, sv_17, gv_18, sv_18, gv_19, sv_19, gv_20, sv_20, gv_21, sv_21, gv_22, sv_22, gv_23, sv_23, Option.bind_some, at0, at1, at2, at3, set0, set1, set2, set3, mr_app, mr_ext, mr_pop, eqv_int, seq_end, at_end, set_end, at_e1, set_e1, seq_e1, at_e2, set_e2, seq_e2, at_e3, set_e3, seq_e3, at_e4, set_e4, seq_e4, pure_int, pure_bl, pure_non, pure_str, pure_tup, pures_nil, pures_cons, mul_l, mul_r, it_tup, it_loc, zip_tup, fu_items, fu_live, fu_zip, m_first_failure, c1, c1', seq_eM, at0_eM e0, at0_eM e0', ↓z_len_eS, ↓z_len_eL, l0, l0', c2, eqM_shp, shp_int, hk2, mk0_4]
theorem isn {M M' : List (List Cell)} {l : List (List Int)} {μ : Mem} {Q : D → Mem → Prop} {E : Exn → Mem → Prop} : WR Q E (copD .is (ffD M M' l) .non μ) = Q (.bl ((ff M M' l).isNone)) μ := by
  unfold ffD
  cases ff M M' l <;> rfl
theorem isnt {M M' : List (List Cell)} {l : List (List Int)} {μ : Mem} {Q : D → Mem → Prop} {E : Exn → Mem → Prop} : WR Q E (copD .isNot (ffD M M' l) .non μ) = Q (.bl ((ff M M' l).isSome)) μ := by
  unfold ffD
  cases ff M M' l <;> rfl
theorem passes_ok {n : Nat} {M M' : List (List Cell)} {k : Nat} {l : List (List Int)} {μ : Mem} (h : Pu μ) (W : Mc M k) (W' : Mc M' k) (hl : Lt k l) : call (n + 7) 16 [eM M, eM M', eL l] μ = .ok (.bl (ff M M' l).isNone) μ := by
  refine pu (d := m_passes) rfl rfl h rfl ?_
  have c1 := first_ok (n := n) h W W' hl
  simp [↓z_some, ↓z_none, ↓z_ok, ↓z_exc, ↓z_bind, ↓z_wr, ↓z_ws, ↓z_ow, ↓z_nx, ↓z_rt, ↓z_br, ↓z_ct, ↓z_ex, ↓z_cons, ↓z_nil, ↓z_ret, ↓z_expr, ↓z_for, ↓z_par, ↓z_try0, ↓z_try1, ↓z_tests_nil, ↓z_var, ↓z_non, ↓z_bl, ↓z_int, ↓z_str, ↓z_gint, ↓z_bop, ↓z_neg, ↓z_not, ↓z_cmp, ↓z_cmp2, ↓z_and, ↓z_or, ↓z_ite, ↓z_tup, ↓z_lst, ↓z_ix, ↓z_slice, ↓z_o_nil, ↓z_o_cons, ↓z_sl_tup, ↓z_sl_loc, ↓z_call, ↓z_bi, ↓z_meth, ↓z_isin, ↓z_xfld, ↓z_xis, ↓z_es_nil, ↓z_es_cons, ↓z_i_seq, ↓z_i_rng1, ↓z_i_rng2, ↓z_i_zip, ↓z_lc, ↓z_lcF, ↓z_t_cons, ↓z_asg, ↓z_if, ↓z_raise, ↓z_forF, ↓z_aug, ↓z_asgS, ↓z_brk, ↓z_cnt, ↓z_pass, ↓z_ret0, ↓z_whl, ↓z_add, ↓z_sub, ↓z_mul, ↓z_div, ↓z_mod, ↓z_pow, ↓z_addt, ↓z_eq, ↓z_ne, ↓z_lt, ↓z_le, ↓z_gt, ↓z_ge, ↓z_is_b, ↓z_is_n, ↓z_is_i, ↓z_is_t, ↓z_no_b, ↓z_no_n, ↓z_no_i, ↓z_no_t, ↓z_gadd, ↓z_gsub, ↓z_gmul, ↓z_gdiv, ↓z_gmod, ↓z_len_t, ↓z_len_l, ↓z_tuple, ↓z_list, ↓z_int_i, ↓z_int_b, ↓z_bool_i, ↓z_bool_b, ↓z_abs, ↓z_min2, ↓z_max2, ↓z_sum, ↓z_app, ↓z_pop, startD, seq_tup, ty_ii, ty_ib, ty_it, ty_bi, ty_bb, ty_bt, ty_tt, ty_ti, ty_tb, ty_n, ty_st, ty_si, tr_bl, tr_int, tr_non, set_slot, set_nil, set_cons, sets_nil, sets_cons, wipe_nil, wipe_cons, gv_0, sv_0, gv_1, sv_1, gv_2, sv_2, gv_3, sv_3, gv_4, sv_4, gv_5, sv_5, gv_6, sv_6, gv_7, sv_7, gv_8, sv_8, gv_9, sv_9, gv_10, sv_10, gv_11, sv_11, gv_12, sv_12, gv_13, sv_13, gv_14, sv_14, gv_15, sv_15, gv_16, sv_16, gv_17, sv_17, gv_18, sv_18, gv_19, sv_19, gv_20, sv_20, gv_21, sv_21, gv_22, sv_22, gv_23, sv_23, Option.bind_some, at0, at1, at2, at3, set0, set1, set2, set3, mr_app, mr_ext, mr_pop, eqv_int, seq_end, at_end, set_end, at_e1, set_e1, seq_e1, at_e2, set_e2, seq_e2, at_e3, set_e3, seq_e3, at_e4, set_e4, seq_e4, pure_int, pure_bl, pure_non, pure_str, pure_tup, pures_nil, pures_cons, mul_l, mul_r, it_tup, it_loc, zip_tup, fu_items, fu_live, fu_zip, m_passes, c1, ↓isn]
theorem law_failure_ok {n : Nat} {M M' : List (List Cell)} {k : Nat} {l : List (List Int)} {μ : Mem} (h : Pu μ) (W : Mc M k) (W' : Mc M' k) (hl : Lt k l) : call (n + 3) 30 [eM M, eM M', eL l] μ = .ok (ffD M M' l) μ := by
  refine pu (d := m__law_failure) rfl rfl h (ff_pure ..) ?_
  simp [↓z_some, ↓z_none, ↓z_ok, ↓z_exc, ↓z_bind, ↓z_wr, ↓z_ws, ↓z_ow, ↓z_nx, ↓z_rt, ↓z_br, ↓z_ct, ↓z_ex, ↓z_cons, ↓z_nil, ↓z_ret, ↓z_expr, ↓z_for, ↓z_par, ↓z_try0, ↓z_try1, ↓z_tests_nil, ↓z_var, ↓z_non, ↓z_bl, ↓z_int, ↓z_str, ↓z_gint, ↓z_bop, ↓z_neg, ↓z_not, ↓z_cmp, ↓z_cmp2, ↓z_and, ↓z_or, ↓z_ite, ↓z_tup, ↓z_lst, ↓z_ix, ↓z_slice, ↓z_o_nil, ↓z_o_cons, ↓z_sl_tup, ↓z_sl_loc, ↓z_call, ↓z_bi, ↓z_meth, ↓z_isin, ↓z_xfld, ↓z_xis, ↓z_es_nil, ↓z_es_cons, ↓z_i_seq, ↓z_i_rng1, ↓z_i_rng2, ↓z_i_zip, ↓z_lc, ↓z_lcF, ↓z_t_cons, ↓z_asg, ↓z_if, ↓z_raise, ↓z_forF, ↓z_aug, ↓z_asgS, ↓z_brk, ↓z_cnt, ↓z_pass, ↓z_ret0, ↓z_whl, ↓z_add, ↓z_sub, ↓z_mul, ↓z_div, ↓z_mod, ↓z_pow, ↓z_addt, ↓z_eq, ↓z_ne, ↓z_lt, ↓z_le, ↓z_gt, ↓z_ge, ↓z_is_b, ↓z_is_n, ↓z_is_i, ↓z_is_t, ↓z_no_b, ↓z_no_n, ↓z_no_i, ↓z_no_t, ↓z_gadd, ↓z_gsub, ↓z_gmul, ↓z_gdiv, ↓z_gmod, ↓z_len_t, ↓z_len_l, ↓z_tuple, ↓z_list, ↓z_int_i, ↓z_int_b, ↓z_bool_i, ↓z_bool_b, ↓z_abs, ↓z_min2, ↓z_max2, ↓z_sum, ↓z_app, ↓z_pop, startD, seq_tup, ty_ii, ty_ib, ty_it, ty_bi, ty_bb, ty_bt, ty_tt, ty_ti, ty_tb, ty_n, ty_st, ty_si, tr_bl, tr_int, tr_non, set_slot, set_nil, set_cons, sets_nil, sets_cons, wipe_nil, wipe_cons, gv_0, sv_0, gv_1, sv_1, gv_2, sv_2, gv_3, sv_3, gv_4, sv_4, gv_5, sv_5, gv_6, sv_6, gv_7, sv_7, gv_8, sv_8, gv_9, sv_9, gv_10, sv_10, gv_11, sv_11, gv_12, sv_12, gv_13, sv_13, gv_14, sv_14, gv_15, sv_15, gv_16, sv_16, gv_17, sv_17, gv_18, sv_18, gv_19, sv_19, gv_20, sv_20, gv_21, sv_21, gv_22, sv_22, gv_23, sv_23, Option.bind_some, at0, at1, at2, at3, set0, set1, set2, set3, mr_app, mr_ext, mr_pop, eqv_int, seq_end, at_end, set_end, at_e1, set_e1, seq_e1, at_e2, set_e2, seq_e2, at_e3, set_e3, seq_e3, at_e4, set_e4, seq_e4, pure_int, pure_bl, pure_non, pure_str, pure_tup, pures_nil, pures_cons, mul_l, mul_r, it_tup, it_loc, zip_tup, fu_items, fu_live, fu_zip, m__law_failure, ↓z_len_eL]
  refine ⟨by have := hl.few; omega, ?_⟩
  refine for_rule (it := .items (rngD 0 l.length)) (fun i env μ1 => (∃ a, env = [some (eM M), some (eM M'), some (eL l), a]) ∧ μ1 = μ ∧ ∀ (j : Nat) (r : List Int), j < i → l[j]? = some r → ansF M r = ansF M' r) (fun _ _ _ _ => rfl) rfl ⟨⟨_, rfl⟩, rfl, fun j r hj => absurd hj (Nat.not_lt_zero _)⟩ ?_ ?_
  · rintro i d env μ1 hd ⟨⟨a, rfl⟩, rfl, hb⟩
    obtain ⟨rfl, hi⟩ := rngD_at hd
    have er : l[i]? = some l[i] := List.getElem?_eq_getElem (by omega)
    have hr := hl.ok _ (List.mem_of_getElem? er)
    generalize l[i]'(by omega) = r at er hr
    have c3 := law_answers_ok (n := n) h W hr
    have c3' := law_answers_ok (n := n) h W' hr
    by_cases c : (runF M 0 r).1 = (runF M' 0 r).1
    · simp [↓z_some, ↓z_none, ↓z_ok, ↓z_exc, ↓z_bind, ↓z_wr, ↓z_ws, ↓z_ow, ↓z_nx, ↓z_rt, ↓z_br, ↓z_ct, ↓z_ex, ↓z_cons, ↓z_nil, ↓z_ret, ↓z_expr, ↓z_for, ↓z_par, ↓z_try0, ↓z_try1, ↓z_tests_nil, ↓z_var, ↓z_non, ↓z_bl, ↓z_int, ↓z_str, ↓z_gint, ↓z_bop, ↓z_neg, ↓z_not, ↓z_cmp, ↓z_cmp2, ↓z_and, ↓z_or, ↓z_ite, ↓z_tup, ↓z_lst, ↓z_ix, ↓z_slice, ↓z_o_nil, ↓z_o_cons, ↓z_sl_tup, ↓z_sl_loc, ↓z_call, ↓z_bi, ↓z_meth, ↓z_isin, ↓z_xfld, ↓z_xis, ↓z_es_nil, ↓z_es_cons, ↓z_i_seq, ↓z_i_rng1, ↓z_i_rng2, ↓z_i_zip, ↓z_lc, ↓z_lcF, ↓z_t_cons, ↓z_asg, ↓z_if, ↓z_raise, ↓z_forF, ↓z_aug, ↓z_asgS, ↓z_brk, ↓z_cnt, ↓z_pass, ↓z_ret0, ↓z_whl, ↓z_add, ↓z_sub, ↓z_mul, ↓z_div, ↓z_mod, ↓z_pow, ↓z_addt, ↓z_eq, ↓z_ne, ↓z_lt, ↓z_le, ↓z_gt, ↓z_ge, ↓z_is_b, ↓z_is_n, ↓z_is_i, ↓z_is_t, ↓z_no_b, ↓z_no_n, ↓z_no_i, ↓z_no_t, ↓z_gadd, ↓z_gsub, ↓z_gmul, ↓z_gdiv, ↓z_gmod, ↓z_len_t, ↓z_len_l, ↓z_tuple, ↓z_list, ↓z_int_i, ↓z_int_b, ↓z_bool_i, ↓z_bool_b, ↓z_abs, ↓z_min2, ↓z_max2, ↓z_sum, ↓z_app, ↓z_pop, startD, seq_tup, ty_ii, ty_ib, ty_it, ty_bi, ty_bb, ty_bt, ty_tt, ty_ti, ty_tb, ty_n, ty_st, ty_si, tr_bl, tr_int, tr_non, set_slot, set_nil, set_cons, sets_nil, sets_cons, wipe_nil, wipe_cons, gv_0, sv_0, gv_1, sv_1, gv_2, sv_2, gv_3, sv_3, gv_4, sv_4, gv_5, sv_5, gv_6, sv_6, gv_7, sv_7, gv_8, sv_8, gv_9, sv_9, gv_10, sv_10, gv_11, sv_11, gv_12, sv_12, gv_13, sv_13, gv_14, sv_14, gv_15, sv_15, gv_16, sv_16, gv_17, sv_17, gv_18, sv_18, gv_19, sv_19, gv_20, sv_20, gv_21, sv_21, gv_22, sv_22, gv_23, sv_23, Option.bind_some, at0, at1, at2, at3, set0, set1, set2, set3, mr_app, mr_ext, mr_pop, eqv_int, seq_end, at_end, set_end, at_e1, set_e1, seq_e1, at_e2, set_e2, seq_e2, at_e3, set_e3, seq_e3, at_e4, set_e4, seq_e4, pure_int, pure_bl, pure_non, pure_str, pure_tup, pures_nil, pures_cons, mul_l, mul_r, it_tup, it_loc, zip_tup, fu_items, fu_live, fu_zip, seq_eL, at_eL er, c3, c3', eqM_shp, shp_eR63, eqv_eR, c]
      intro j r' hj hr'
      rcases Nat.lt_succ_iff_lt_or_eq.mp hj with hj | rfl
      · exact hb j r' hj hr'
      · rw [er] at hr'
        cases hr'
        exact c
    · simp [↓z_some, ↓z_none, ↓z_ok, ↓z_exc, ↓z_bind, ↓z_wr, ↓z_ws, ↓z_ow, ↓z_nx, ↓z_rt, ↓z_br, ↓z_ct, ↓z_ex, ↓z_cons, ↓z_nil, ↓z_ret, ↓z_expr, ↓z_for, ↓z_par, ↓z_try0, ↓z_try1, ↓z_tests_nil, ↓z_var, ↓z_non, ↓z_bl, ↓z_int, ↓z_str, ↓z_gint, ↓z_bop, ↓z_neg, ↓z_not, ↓z_cmp, ↓z_cmp2, ↓z_and, ↓z_or, ↓z_ite, ↓z_tup, ↓z_lst, ↓z_ix, ↓z_slice, ↓z_o_nil, ↓z_o_cons, ↓z_sl_tup, ↓z_sl_loc, ↓z_call, ↓z_bi, ↓z_meth, ↓z_isin, ↓z_xfld, ↓z_xis, ↓z_es_nil, ↓z_es_cons, ↓z_i_seq, ↓z_i_rng1, ↓z_i_rng2, ↓z_i_zip, ↓z_lc, ↓z_lcF, ↓z_t_cons, ↓z_asg, ↓z_if, ↓z_raise, ↓z_forF, ↓z_aug, ↓z_asgS, ↓z_brk, ↓z_cnt, ↓z_pass, ↓z_ret0, ↓z_whl, ↓z_add, ↓z_sub, ↓z_mul, ↓z_div, ↓z_mod, ↓z_pow, ↓z_addt, ↓z_eq, ↓z_ne, ↓z_lt, ↓z_le, ↓z_gt, ↓z_ge, ↓z_is_b, ↓z_is_n, ↓z_is_i, ↓z_is_t, ↓z_no_b, ↓z_no_n, ↓z_no_i, ↓z_no_t, ↓z_gadd, ↓z_gsub, ↓z_gmul, ↓z_gdiv, ↓z_gmod, ↓z_len_t, ↓z_len_l, ↓z_tuple, ↓z_list, ↓z_int_i, ↓z_int_b, ↓z_bool_i, ↓z_bool_b, ↓z_abs, ↓z_min2, ↓z_max2, ↓z_sum, ↓z_app, ↓z_pop, startD, seq_tup, ty_ii, ty_ib, ty_it, ty_bi, ty_bb, ty_bt, ty_tt, ty_ti, ty_tb, ty_n, ty_st, ty_si, tr_bl, tr_int, tr_non, set_slot, set_nil, set_cons, sets_nil, sets_cons, wipe_nil, wipe_cons, gv_0, sv_0, gv_1, sv_1, gv_2, sv_2, gv_3, sv_3, gv_4, sv_4, gv_5, sv_5, gv_6, sv_6, gv_7, sv_7, gv_8, sv_8, gv_9, sv_9, gv_10, sv_10, gv_11, sv_11, gv_12, sv_12, gv_13, sv_13, gv_14, sv_14, gv_15, sv_15, gv_16, sv_16, gv_17, sv_17, gv_18, sv_18, gv_19, sv_19, gv_20, sv_20, gv_21, sv_21, gv_22, sv_22, gv_23, sv_23, Option.bind_some, at0, at1, at2, at3, set0, set1, set2, set3, mr_app, mr_ext, mr_pop, eqv_int, seq_end, at_end, set_end, at_e1, set_e1, seq_e1, at_e2, set_e2, seq_e2, at_e3, set_e3, seq_e3, at_e4, set_e4, seq_e4, pure_int, pure_bl, pure_non, pure_str, pure_tup, pures_nil, pures_cons, mul_l, mul_r, it_tup, it_loc, zip_tup, fu_items, fu_live, fu_zip, seq_eL, at_eL er, c3, c3', eqM_shp, shp_eR63, eqv_eR, c]
      exact (ff_some er c hb).symm
  · rintro env μ1 ⟨⟨a, rfl⟩, rfl, hb⟩
    rw [rng_len] at hb
    simp [↓z_some, ↓z_none, ↓z_ok, ↓z_exc, ↓z_bind, ↓z_wr, ↓z_ws, ↓z_ow, ↓z_nx, ↓z_rt, ↓z_br, ↓z_ct, ↓z_ex, ↓z_cons, ↓z_nil, ↓z_ret, ↓z_expr, ↓z_for, ↓z_par, ↓z_try0, ↓z_try1, ↓z_tests_nil, ↓z_var, ↓z_non, ↓z_bl, ↓z_int, ↓z_str, ↓z_gint, ↓z_bop, ↓z_neg, ↓z_not, ↓z_cmp, ↓z_cmp2, ↓z_and, ↓z_or, ↓z_ite, ↓z_tup, ↓z_lst, ↓z_ix, ↓z_slice, ↓z_o_nil, ↓z_o_cons, ↓z_sl_tup, ↓z_sl_loc, ↓z_call, ↓z_bi, ↓z_meth, ↓z_isin, ↓z_xfld, ↓z_xis, ↓z_es_nil, ↓z_es_cons, ↓z_i_seq, ↓z_i_rng1, ↓z_i_rng2, ↓z_i_zip, ↓z_lc, ↓z_lcF, ↓z_t_cons, ↓z_asg, ↓z_if, ↓z_raise, ↓z_forF, ↓z_aug, ↓z_asgS, ↓z_brk, ↓z_cnt, ↓z_pass, ↓z_ret0, ↓z_whl, ↓z_add, ↓z_sub, ↓z_mul, ↓z_div, ↓z_mod, ↓z_pow, ↓z_addt, ↓z_eq, ↓z_ne, ↓z_lt, ↓z_le, ↓z_gt, ↓z_ge, ↓z_is_b, ↓z_is_n, ↓z_is_i, ↓z_is_t, ↓z_no_b, ↓z_no_n, ↓z_no_i, ↓z_no_t, ↓z_gadd, ↓z_gsub, ↓z_gmul, ↓z_gdiv, ↓z_gmod, ↓z_len_t, ↓z_len_l, ↓z_tuple, ↓z_list, ↓z_int_i, ↓z_int_b, ↓z_bool_i, ↓z_bool_b, ↓z_abs, ↓z_min2, ↓z_max2, ↓z_sum, ↓z_app, ↓z_pop, startD, seq_tup, ty_ii, ty_ib, ty_it, ty_bi, ty_bb, ty_bt, ty_tt, ty_ti, ty_tb, ty_n, ty_st, ty_si, tr_bl, tr_int, tr_non, set_slot, set_nil, set_cons, sets_nil, sets_cons, wipe_nil, wipe_cons, gv_0, sv_0, gv_1, sv_1, gv_2, sv_2, gv_3, sv_3, gv_4, sv_4, gv_5, sv_5, gv_6, sv_6, gv_7, sv_7, gv_8, sv_8, gv_9, sv_9, gv_10, sv_10, gv_11, sv_11, gv_12, sv_12, gv_13, sv_13, gv_14, sv_14, gv_15, sv_15, gv_16, sv_16, gv_17, sv_17, gv_18, sv_18, gv_19, sv_19, gv_20, sv_20, gv_21, sv_21, gv_22, sv_22, gv_23, sv_23, Option.bind_some, at0, at1, at2, at3, set0, set1, set2, set3, mr_app, mr_ext, mr_pop, eqv_int, seq_end, at_end, set_end, at_e1, set_e1, seq_e1, at_e2, set_e2, seq_e2, at_e3, set_e3, seq_e3, at_e4, set_e4, seq_e4, pure_int, pure_bl, pure_non, pure_str, pure_tup, pures_nil, pures_cons, mul_l, mul_r, it_tup, it_loc, zip_tup, fu_items, fu_live, fu_zip]
    refine (ff_none fun j r hr => hb j r ?_ hr).symm
    have := (List.getElem?_eq_some_iff.mp hr).1
    omega
theorem tells_ok {n : Nat} {a b : Bool} {μ : Mem} (h : Pu μ) : call (n + 1) 19 [.bl a, .bl b] μ = .ok (.bl (a == b)) μ := by
  refine pu (d := m__law_tells) rfl rfl h rfl ?_
  simp [↓z_some, ↓z_none, ↓z_ok, ↓z_exc, ↓z_bind, ↓z_wr, ↓z_ws, ↓z_ow, ↓z_nx, ↓z_rt, ↓z_br, ↓z_ct, ↓z_ex, ↓z_cons, ↓z_nil, ↓z_ret, ↓z_expr, ↓z_for, ↓z_par, ↓z_try0, ↓z_try1, ↓z_tests_nil, ↓z_var, ↓z_non, ↓z_bl, ↓z_int, ↓z_str, ↓z_gint, ↓z_bop, ↓z_neg, ↓z_not, ↓z_cmp, ↓z_cmp2, ↓z_and, ↓z_or, ↓z_ite, ↓z_tup, ↓z_lst, ↓z_ix, ↓z_slice, ↓z_o_nil, ↓z_o_cons, ↓z_sl_tup, ↓z_sl_loc, ↓z_call, ↓z_bi, ↓z_meth, ↓z_isin, ↓z_xfld, ↓z_xis, ↓z_es_nil, ↓z_es_cons, ↓z_i_seq, ↓z_i_rng1, ↓z_i_rng2, ↓z_i_zip, ↓z_lc, ↓z_lcF, ↓z_t_cons, ↓z_asg, ↓z_if, ↓z_raise, ↓z_forF, ↓z_aug, ↓z_asgS, ↓z_brk, ↓z_cnt, ↓z_pass, ↓z_ret0, ↓z_whl, ↓z_add, ↓z_sub, ↓z_mul, ↓z_div, ↓z_mod, ↓z_pow, ↓z_addt, ↓z_eq, ↓z_ne, ↓z_lt, ↓z_le, ↓z_gt, ↓z_ge, ↓z_is_b, ↓z_is_n, ↓z_is_i, ↓z_is_t, ↓z_no_b, ↓z_no_n, ↓z_no_i, ↓z_no_t, ↓z_gadd, ↓z_gsub, ↓z_gmul, ↓z_gdiv, ↓z_gmod, ↓z_len_t, ↓z_len_l, ↓z_tuple, ↓z_list, ↓z_int_i, ↓z_int_b, ↓z_bool_i, ↓z_bool_b, ↓z_abs, ↓z_min2, ↓z_max2, ↓z_sum, ↓z_app, ↓z_pop, startD, seq_tup, ty_ii, ty_ib, ty_it, ty_bi, ty_bb, ty_bt, ty_tt, ty_ti, ty_tb, ty_n, ty_st, ty_si, tr_bl, tr_int, tr_non, set_slot, set_nil, set_cons, sets_nil, sets_cons, wipe_nil, wipe_cons, gv_0, sv_0, gv_1, sv_1, gv_2, sv_2, gv_3, sv_3, gv_4, sv_4, gv_5, sv_5, gv_6, sv_6, gv_7, sv_7, gv_8, sv_8, gv_9, sv_9, gv_10, sv_10, gv_11, sv_11, gv_12, sv_12, gv_13, sv_13, gv_14, sv_14, gv_15, sv_15, gv_16, sv_16, gv_17, sv_17, gv_18, sv_18, gv_19, sv_19, gv_20, sv_20, gv_21, sv_21, gv_22, sv_22, gv_23, sv_23, Option.bind_some, at0, at1, at2, at3, set0, set1, set2, set3, mr_app, mr_ext, mr_pop, eqv_int, seq_end, at_end, set_end, at_e1, set_e1, seq_e1, at_e2, set_e2, seq_e2, at_e3, set_e3, seq_e3, at_e4, set_e4, seq_e4, pure_int, pure_bl, pure_non, pure_str, pure_tup, pures_nil, pures_cons, mul_l, mul_r, it_tup, it_loc, zip_tup, fu_items, fu_live, fu_zip, m__law_tells]
  cases a <;> cases b <;> simp
theorem numbers_ok {n : Nat} {r : List Int} {μ : Mem} (h : Pu μ) : call (n + 2) 27 [eR r] μ = .ok (.bl true) μ := by
  refine pu (d := m__law_numbers) rfl rfl h rfl ?_
  simp [↓z_some, ↓z_none, ↓z_ok, ↓z_exc, ↓z_bind, ↓z_wr, ↓z_ws, ↓z_ow, ↓z_nx, ↓z_rt, ↓z_br, ↓z_ct, ↓z_ex, ↓z_cons, ↓z_nil, ↓z_ret, ↓z_expr, ↓z_for, ↓z_par, ↓z_try0, ↓z_try1, ↓z_tests_nil, ↓z_var, ↓z_non, ↓z_bl, ↓z_int, ↓z_str, ↓z_gint, ↓z_bop, ↓z_neg, ↓z_not, ↓z_cmp, ↓z_cmp2, ↓z_and, ↓z_or, ↓z_ite, ↓z_tup, ↓z_lst, ↓z_ix, ↓z_slice, ↓z_o_nil, ↓z_o_cons, ↓z_sl_tup, ↓z_sl_loc, ↓z_call, ↓z_bi, ↓z_meth, ↓z_isin, ↓z_xfld, ↓z_xis, ↓z_es_nil, ↓z_es_cons, ↓z_i_seq, ↓z_i_rng1, ↓z_i_rng2, ↓z_i_zip, ↓z_lc, ↓z_lcF, ↓z_t_cons, ↓z_asg, ↓z_if, ↓z_raise, ↓z_forF, ↓z_aug, ↓z_asgS, ↓z_brk, ↓z_cnt, ↓z_pass, ↓z_ret0, ↓z_whl, ↓z_add, ↓z_sub, ↓z_mul, ↓z_div, ↓z_mod, ↓z_pow, ↓z_addt, ↓z_eq, ↓z_ne, ↓z_lt, ↓z_le, ↓z_gt, ↓z_ge, ↓z_is_b, ↓z_is_n, ↓z_is_i, ↓z_is_t, ↓z_no_b, ↓z_no_n, ↓z_no_i, ↓z_no_t, ↓z_gadd, ↓z_gsub, ↓z_gmul, ↓z_gdiv, ↓z_gmod, ↓z_len_t, ↓z_len_l, ↓z_tuple, ↓z_list, ↓z_int_i, ↓z_int_b, ↓z_bool_i, ↓z_bool_b, ↓z_abs, ↓z_min2, ↓z_max2, ↓z_sum, ↓z_app, ↓z_pop, startD, seq_tup, ty_ii, ty_ib, ty_it, ty_bi, ty_bb, ty_bt, ty_tt, ty_ti, ty_tb, ty_n, ty_st, ty_si, tr_bl, tr_int, tr_non, set_slot, set_nil, set_cons, sets_nil, sets_cons, wipe_nil, wipe_cons, gv_0, sv_0, gv_1, sv_1, gv_2, sv_2, gv_3, sv_3, gv_4, sv_4, gv_5, sv_5, gv_6, sv_6, gv_7, sv_7, gv_8, sv_8, gv_9, sv_9, gv_10, sv_10, gv_11, sv_11, gv_12, sv_12, gv_13, sv_13, gv_14, sv_14, gv_15, sv_15, gv_16, sv_16, gv_17, sv_17, gv_18, sv_18, gv_19, sv_19, gv_20, sv_20, gv_21, sv_21, gv_22, sv_22, gv_23, sv_23, Option.bind_some, at0, at1, at2, at3, set0, set1, set2, set3, mr_app, mr_ext, mr_pop, eqv_int, seq_end, at_end, set_end, at_e1, set_e1, seq_e1, at_e2, set_e2, seq_e2, at_e3, set_e3, seq_e3, at_e4, set_e4, seq_e4, pure_int, pure_bl, pure_non, pure_str, pure_tup, pures_nil, pures_cons, mul_l, mul_r, it_tup, it_loc, zip_tup, fu_items, fu_live, fu_zip, m__law_numbers, ty_eR, it_eR]
  refine for_rule (it := .items (r.map .int)) (fun i env μ1 => (∃ a, env = [some (eR r), a]) ∧ μ1 = μ) (fun _ _ _ _ => rfl) (by simp) ⟨⟨_, rfl⟩, rfl⟩ ?_ ?_
  · rintro i d env μ1 hd ⟨⟨a, rfl⟩, rfl⟩
    rw [List.getElem?_map] at hd
    obtain ⟨x, hx, rfl⟩ := Option.map_eq_some_iff.mp hd
    have c := law_is_int_int (n := n) (i := x) h
    simp [↓z_some, ↓z_none, ↓z_ok, ↓z_exc, ↓z_bind, ↓z_wr, ↓z_ws, ↓z_ow, ↓z_nx, ↓z_rt, ↓z_br, ↓z_ct, ↓z_ex, ↓z_cons, ↓z_nil, ↓z_ret, ↓z_expr, ↓z_for, ↓z_par, ↓z_try0, ↓z_try1, ↓z_tests_nil, ↓z_var, ↓z_non, ↓z_bl, ↓z_int, ↓z_str, ↓z_gint, ↓z_bop, ↓z_neg, ↓z_not, ↓z_cmp, ↓z_cmp2, ↓z_and, ↓z_or, ↓z_ite, ↓z_tup, ↓z_lst, ↓z_ix, ↓z_slice, ↓z_o_nil, ↓z_o_cons, ↓z_sl_tup, ↓z_sl_loc, ↓z_call, ↓z_bi, ↓z_meth, ↓z_isin, ↓z_xfld, ↓z_xis, ↓z_es_nil, ↓z_es_cons, ↓z_i_seq, ↓z_i_rng1, ↓z_i_rng2, ↓z_i_zip, ↓z_lc, ↓z_lcF, ↓z_t_cons, ↓z_asg, ↓z_if, ↓z_raise, ↓z_forF, ↓z_aug, ↓z_asgS, ↓z_brk, ↓z_cnt, ↓z_pass, ↓z_ret0, ↓z_whl, ↓z_add, ↓z_sub, ↓z_mul, ↓z_div, ↓z_mod, ↓z_pow, ↓z_addt, ↓z_eq, ↓z_ne, ↓z_lt, ↓z_le, ↓z_gt, ↓z_ge, ↓z_is_b, ↓z_is_n, ↓z_is_i, ↓z_is_t, ↓z_no_b, ↓z_no_n, ↓z_no_i, ↓z_no_t, ↓z_gadd, ↓z_gsub, ↓z_gmul, ↓z_gdiv, ↓z_gmod, ↓z_len_t, ↓z_len_l, ↓z_tuple, ↓z_list, ↓z_int_i, ↓z_int_b, ↓z_bool_i, ↓z_bool_b, ↓z_abs, ↓z_min2, ↓z_max2, ↓z_sum, ↓z_app, ↓z_pop, startD, seq_tup, ty_ii, ty_ib, ty_it, ty_bi, ty_bb, ty_bt, ty_tt, ty_ti, ty_tb, ty_n, ty_st, ty_si, tr_bl, tr_int, tr_non, set_slot, set_nil, set_cons, sets_nil, sets_cons, wipe_nil, wipe_cons, gv_0, sv_0, gv_1, sv_1, gv_2, sv_2, gv_3, sv_3, gv_4, sv_4, gv_5, sv_5, gv_6, sv_6, gv_7, sv_7, gv_8, sv_8, gv_9, sv_9, gv_10, sv_10, gv_11, sv_11, gv_12, sv_12, gv_13, sv_13, gv_14, sv_14, gv_15, sv_15, gv_16, sv_16, gv_17, sv_17, gv_18, sv_18, gv_19, sv_19, gv_20, sv_20, gv_21, sv_21, gv_22, sv_22, gv_23, sv_23, Option.bind_some, at0, at1, at2, at3, set0, set1, set2, set3, mr_app, mr_ext, mr_pop, eqv_int, seq_end, at_end, set_end, at_e1, set_e1, seq_e1, at_e2, set_e2, seq_e2, at_e3, set_e3, seq_e3, at_e4, set_e4, seq_e4, pure_int, pure_bl, pure_non, pure_str, pure_tup, pures_nil, pures_cons, mul_l, mul_r, it_tup, it_loc, zip_tup, fu_items, fu_live, fu_zip, c]
  · rintro env μ1 ⟨⟨a, rfl⟩, rfl⟩
    simp [↓z_some, ↓z_none, ↓z_ok, ↓z_exc, ↓z_bind, ↓z_wr, ↓z_ws, ↓z_ow, ↓z_nx, ↓z_rt, ↓z_br, ↓z_ct, ↓z_ex, ↓z_cons, ↓z_nil, ↓z_ret, ↓z_expr, ↓z_for, ↓z_par, ↓z_try0, ↓z_try1, ↓z_tests_nil, ↓z_var, ↓z_non, ↓z_bl, ↓z_int, ↓z_str, ↓z_gint, ↓z_bop, ↓z_neg, ↓z_not, ↓z_cmp, ↓z_cmp2, ↓z_and, ↓z_or, ↓z_ite, ↓z_tup, ↓z_lst, ↓z_ix, ↓z_slice, ↓z_o_nil, ↓z_o_cons, ↓z_sl_tup, ↓z_sl_loc, ↓z_call, ↓z_bi, ↓z_meth, ↓z_isin, ↓z_xfld, ↓z_xis, ↓z_es_nil, ↓z_es_cons, ↓z_i_seq, ↓z_i_rng1, ↓z_i_rng2, ↓z_i_zip, ↓z_lc, ↓z_lcF, ↓z_t_cons, ↓z_asg, ↓z_if, ↓z_raise, ↓z_forF, ↓z_aug, ↓z_asgS, ↓z_brk, ↓z_cnt, ↓z_pass, ↓z_ret0, ↓z_whl, ↓z_add, ↓z_sub, ↓z_mul, ↓z_div, ↓z_mod, ↓z_pow, ↓z_addt, ↓z_eq, ↓z_ne, ↓z_lt, ↓z_le, ↓z_gt, ↓z_ge, ↓z_is_b, ↓z_is_n, ↓z_is_i, ↓z_is_t, ↓z_no_b, ↓z_no_n, ↓z_no_i, ↓z_no_t, ↓z_gadd, ↓z_gsub, ↓z_gmul, ↓z_gdiv, ↓z_gmod, ↓z_len_t, ↓z_len_l, ↓z_tuple, ↓z_list, ↓z_int_i, ↓z_int_b, ↓z_bool_i, ↓z_bool_b, ↓z_abs, ↓z_min2, ↓z_max2, ↓z_sum, ↓z_app, ↓z_pop, startD, seq_tup, ty_ii, ty_ib, ty_it, ty_bi, ty_bb, ty_bt, ty_tt, ty_ti, ty_tb, ty_n, ty_st, ty_si, tr_bl, tr_int, tr_non, set_slot, set_nil, set_cons, sets_nil, sets_cons, wipe_nil, wipe_cons, gv_0, sv_0, gv_1, sv_1, gv_2, sv_2, gv_3, sv_3, gv_4, sv_4, gv_5, sv_5, gv_6, sv_6, gv_7, sv_7, gv_8, sv_8, gv_9, sv_9, gv_10, sv_10, gv_11, sv_11, gv_12, sv_12, gv_13, sv_13, gv_14, sv_14, gv_15, sv_15, gv_16, sv_16, gv_17, sv_17, gv_18, sv_18, gv_19, sv_19, gv_20, sv_20, gv_21, sv_21, gv_22, sv_22, gv_23, sv_23, Option.bind_some, at0, at1, at2, at3, set0, set1, set2, set3, mr_app, mr_ext, mr_pop, eqv_int, seq_end, at_end, set_end, at_e1, set_e1, seq_e1, at_e2, set_e2, seq_e2, at_e3, set_e3, seq_e3, at_e4, set_e4, seq_e4, pure_int, pure_bl, pure_non, pure_str, pure_tup, pures_nil, pures_cons, mul_l, mul_r, it_tup, it_loc, zip_tup, fu_items, fu_live, fu_zip]
theorem shp_eL63 (l : List (List Int)) : (eL l).shp 63 = true := shps_all (k := 62) fun x hx => by
  obtain ⟨r, _, rfl⟩ := List.mem_map.mp hx
  exact shp_eR r
theorem shp_rowD (M : List (List Cell)) (l : List (List Int)) : (D.tup (l.map (rowD M))).shp 63 = true := shps_all (k := 62) fun x hx => by
  obtain ⟨r, _, rfl⟩ := List.mem_map.mp hx
  show D.shps 61 [eR r, eR (ansF M r)] = true
  rw [shps_cons, shps_cons, shp_eR, shp_eR, shps_nil]
  rfl
theorem asked_ok {n : Nat} {M : List (List Cell)} {k : Nat} {l : List (List Int)} {s : Int} {μ : Mem} (h : Pu μ) (W : Mc M k) (hl : Lt k l) (hs : In M s) : call (n + 8) 31 [eM M, eL l, .int s] μ = .ok (.bl true) μ := by
  refine pu (d := m__law_asked) rfl rfl h rfl ?_
  simp [↓z_some, ↓z_none, ↓z_ok, ↓z_exc, ↓z_bind, ↓z_wr, ↓z_ws, ↓z_ow, ↓z_nx, ↓z_rt, ↓z_br, ↓z_ct, ↓z_ex, ↓z_cons, ↓z_nil, ↓z_ret, ↓z_expr, ↓z_for, ↓z_par, ↓z_try0, ↓z_try1, ↓z_tests_nil, ↓z_var, ↓z_non, ↓z_bl, ↓z_int, ↓z_str, ↓z_gint, ↓z_bop, ↓z_neg, ↓z_not, ↓z_cmp, ↓z_cmp2, ↓z_and, ↓z_or, ↓z_ite, ↓z_tup, ↓z_lst, ↓z_ix, ↓z_slice, ↓z_o_nil, ↓z_o_cons, ↓z_sl_tup, ↓z_sl_loc, ↓z_call, ↓z_bi, ↓z_meth, ↓z_isin, ↓z_xfld, ↓z_xis, ↓z_es_nil, ↓z_es_cons, ↓z_i_seq, ↓z_i_rng1, ↓z_i_rng2, ↓z_i_zip, ↓z_lc, ↓z_lcF, ↓z_t_cons, ↓z_asg, ↓z_if, ↓z_raise, ↓z_forF, ↓z_aug, ↓z_asgS, ↓z_brk, ↓z_cnt, ↓z_pass, ↓z_ret0, ↓z_whl, ↓z_add, ↓z_sub, ↓z_mul, ↓z_div, ↓z_mod, ↓z_pow, ↓z_addt, ↓z_eq, ↓z_ne, ↓z_lt, ↓z_le, ↓z_gt, ↓z_ge, ↓z_is_b, ↓z_is_n, ↓z_is_i, ↓z_is_t, ↓z_no_b, ↓z_no_n, ↓z_no_i, ↓z_no_t, ↓z_gadd, ↓z_gsub, ↓z_gmul, ↓z_gdiv, ↓z_gmod, ↓z_len_t, ↓z_len_l, ↓z_tuple, ↓z_list, ↓z_int_i, ↓z_int_b, ↓z_bool_i, ↓z_bool_b, ↓z_abs, ↓z_min2, ↓z_max2, ↓z_sum, ↓z_app, ↓z_pop, startD, seq_tup, ty_ii, ty_ib, ty_it, ty_bi, ty_bb, ty_bt, ty_tt, ty_ti, ty_tb, ty_n, ty_st, ty_si, tr_bl, tr_int, tr_non, set_slot, set_nil, set_cons, sets_nil, sets_cons, wipe_nil, wipe_cons, gv_0, sv_0, gv_1, sv_1, gv_2, sv_2, gv_3, sv_3, gv_4, sv_4, gv_5, sv_5, gv_6, sv_6, gv_7, sv_7, gv_8, sv_8, gv_9, sv_9, gv_10, sv_10, gv_11, sv_11, gv_12, sv_12, gv_13, sv_13, gv_14, sv_14, gv_15, sv_15, gv_16, sv_16, gv_17, sv_17, gv_18, sv_18, gv_19, sv_19, gv_20, sv_20, gv_21, sv_21, gv_22, sv_22, gv_23, sv_23, Option.bind_some, at0, at1, at2, at3, set0, set1, set2, set3, mr_app, mr_ext, mr_pop, eqv_int, seq_end, at_end, set_end, at_e1, set_e1, seq_e1, at_e2, set_e2, seq_e2, at_e3, set_e3, seq_e3, at_e4, set_e4, seq_e4, pure_int, pure_bl, pure_non, pure_str, pure_tup, pures_nil, pures_cons, mul_l, mul_r, it_tup, it_loc, zip_tup, fu_items, fu_live, fu_zip, m__law_asked, it_eL]
  refine for_rule (it := .items (l.map eR)) (fun i env μ1 => (∃ a b c d, env = [some (eM M), some (eL l), some (.int s), a, none, b, c, d, none]) ∧ μ1 = μ) (fun _ _ _ _ => rfl) (by simp) ⟨⟨_, _, _, _, rfl⟩, rfl⟩ ?_ ?_
  · rintro i d env μ1 hd ⟨⟨a, b, c, e, rfl⟩, rfl⟩
    rw [List.getElem?_map] at hd
    obtain ⟨r, er, rfl⟩ := Option.map_eq_some_iff.mp hd
    have hr := hl.ok _ (List.mem_of_getElem? er)
    have c1 := law_run_ok (n := n + 6) h W (in0 W) hr
    have c2 := law_run_ok (n := n + 6) h W hs hr
    have c3 := answers_ok (n := n + 1) h W hr
    have c4 := end_ok (n := n + 1) h W hr
    have c5 := answers_from_ok (n := n + 1) h W hs hr
    have c6 := numbers_ok (n := n + 5) (r := (runF M 0 r).1) h
    simp [↓z_some, ↓z_none, ↓z_ok, ↓z_exc, ↓z_bind, ↓z_wr, ↓z_ws, ↓z_ow, ↓z_nx, ↓z_rt, ↓z_br, ↓z_ct, ↓z_ex, ↓z_cons, ↓z_nil, ↓z_ret, ↓z_expr, ↓z_for, ↓z_par, ↓z_try0, ↓z_try1, ↓z_tests_nil, ↓z_var, ↓z_non, ↓z_bl, ↓z_int, ↓z_str, ↓z_gint, ↓z_bop, ↓z_neg, ↓z_not, ↓z_cmp, ↓z_cmp2, ↓z_and, ↓z_or, ↓z_ite, ↓z_tup, ↓z_lst, ↓z_ix, ↓z_slice, ↓z_o_nil, ↓z_o_cons, ↓z_sl_tup, ↓z_sl_loc, ↓z_call, ↓z_bi, ↓z_meth, ↓z_isin, ↓z_xfld, ↓z_xis, ↓z_es_nil, ↓z_es_cons, ↓z_i_seq, ↓z_i_rng1, ↓z_i_rng2, ↓z_i_zip, ↓z_lc, ↓z_lcF, ↓z_t_cons, ↓z_asg, ↓z_if, ↓z_raise, ↓z_forF, ↓z_aug, ↓z_asgS, ↓z_brk, ↓z_cnt, ↓z_pass, ↓z_ret0, ↓z_whl, ↓z_add, ↓z_sub, ↓z_mul, ↓z_div, ↓z_mod, ↓z_pow, ↓z_addt, ↓z_eq, ↓z_ne, ↓z_lt, ↓z_le, ↓z_gt, ↓z_ge, ↓z_is_b, ↓z_is_n, ↓z_is_i, ↓z_is_t, ↓z_no_b, ↓z_no_n, ↓z_no_i, ↓z_no_t, ↓z_gadd, ↓z_gsub, ↓z_gmul, ↓z_gdiv, ↓z_gmod, ↓z_len_t, ↓z_len_l, ↓z_tuple, ↓z_list, ↓z_int_i, ↓z_int_b, ↓z_bool_i, ↓z_bool_b, ↓z_abs, ↓z_min2, ↓z_max2, ↓z_sum, ↓z_app, ↓z_pop, startD, seq_tup, ty_ii, ty_ib, ty_it, ty_bi, ty_bb, ty_bt, ty_tt, ty_ti, ty_tb, ty_n, ty_st, ty_si, tr_bl, tr_int, tr_non, set_slot, set_nil, set_cons, sets_nil, sets_cons, wipe_nil, wipe_cons, gv_0, sv_0, gv_1, sv_1, gv_2, sv_2, gv_3, sv_3, gv_4, sv_4, gv_5, sv_5, gv_6, sv_6, gv_7, sv_7, gv_8, sv_8, gv_9, sv_9, gv_10, sv_10, gv_11, sv_11, gv_12, sv_12, gv_13, sv_13, gv_14, sv_14, gv_15, sv_15, gv_16, sv_16, gv_17, sv_17, gv_18, sv_18, gv_19, sv_19, gv_20, sv_20, gv_21, sv_21, gv_22, sv_22, gv_23, sv_23, Option.bind_some, at0, at1, at2, at3, set0, set1, set2, set3, mr_app, mr_ext, mr_pop, eqv_int, seq_end, at_end, set_end, at_e1, set_e1, seq_e1, at_e2, set_e2, seq_e2, at_e3, set_e3, seq_e3, at_e4, set_e4, seq_e4, pure_int, pure_bl, pure_non, pure_str, pure_tup, pures_nil, pures_cons, mul_l, mul_r, it_tup, it_loc, zip_tup, fu_items, fu_live, fu_zip, c1, c2, c3, c4, c5, c6, eqM_shp, shp_eR63, eqv_refl, shp_int]
  · rintro env μ1 ⟨⟨a, b, c, e, rfl⟩, rfl⟩
    simp [↓z_some, ↓z_none, ↓z_ok, ↓z_exc, ↓z_bind, ↓z_wr, ↓z_ws, ↓z_ow, ↓z_nx, ↓z_rt, ↓z_br, ↓z_ct, ↓z_ex, ↓z_cons, ↓z_nil, ↓z_ret, ↓z_expr, ↓z_for, ↓z_par, ↓z_try0, ↓z_try1, ↓z_tests_nil, ↓z_var, ↓z_non, ↓z_bl, ↓z_int, ↓z_str, ↓z_gint, ↓z_bop, ↓z_neg, ↓z_not, ↓z_cmp, ↓z_cmp2, ↓z_and, ↓z_or, ↓z_ite, ↓z_tup, ↓z_lst, ↓z_ix, ↓z_slice, ↓z_o_nil, ↓z_o_cons, ↓z_sl_tup, ↓z_sl_loc, ↓z_call, ↓z_bi, ↓z_meth, ↓z_isin, ↓z_xfld, ↓z_xis, ↓z_es_nil, ↓z_es_cons, ↓z_i_seq, ↓z_i_rng1, ↓z_i_rng2, ↓z_i_zip, ↓z_lc, ↓z_lcF, ↓z_t_cons, ↓z_asg, ↓z_if, ↓z_raise, ↓z_forF, ↓z_aug, ↓z_asgS, ↓z_brk, ↓z_cnt, ↓z_pass, ↓z_ret0, ↓z_whl, ↓z_add, ↓z_sub, ↓z_mul, ↓z_div, ↓z_mod, ↓z_pow, ↓z_addt, ↓z_eq, ↓z_ne, ↓z_lt, ↓z_le, ↓z_gt, ↓z_ge, ↓z_is_b, ↓z_is_n, ↓z_is_i, ↓z_is_t, ↓z_no_b, ↓z_no_n, ↓z_no_i, ↓z_no_t, ↓z_gadd, ↓z_gsub, ↓z_gmul, ↓z_gdiv, ↓z_gmod, ↓z_len_t, ↓z_len_l, ↓z_tuple, ↓z_list, ↓z_int_i, ↓z_int_b, ↓z_bool_i, ↓z_bool_b, ↓z_abs, ↓z_min2, ↓z_max2, ↓z_sum, ↓z_app, ↓z_pop, startD, seq_tup, ty_ii, ty_ib, ty_it, ty_bi, ty_bb, ty_bt, ty_tt, ty_ti, ty_tb, ty_n, ty_st, ty_si, tr_bl, tr_int, tr_non, set_slot, set_nil, set_cons, sets_nil, sets_cons, wipe_nil, wipe_cons, gv_0, sv_0, gv_1, sv_1, gv_2, sv_2, gv_3, sv_3, gv_4, sv_4, gv_5, sv_5, gv_6, sv_6, gv_7, sv_7, gv_8, sv_8, gv_9, sv_9, gv_10, sv_10, gv_11, sv_11, gv_12, sv_12, gv_13, sv_13, gv_14, sv_14, gv_15, sv_15, gv_16, sv_16, gv_17, sv_17, gv_18, sv_18, gv_19, sv_19, gv_20, sv_20, gv_21, sv_21, gv_22, sv_22, gv_23, sv_23, Option.bind_some, at0, at1, at2, at3, set0, set1, set2, set3, mr_app, mr_ext, mr_pop, eqv_int, seq_end, at_end, set_end, at_e1, set_e1, seq_e1, at_e2, set_e2, seq_e2, at_e3, set_e3, seq_e3, at_e4, set_e4, seq_e4, pure_int, pure_bl, pure_non, pure_str, pure_tup, pures_nil, pures_cons, mul_l, mul_r, it_tup, it_loc, zip_tup, fu_items, fu_live, fu_zip, it_eL]
    refine lc_mapE (fun r => eR (ansF M r)) (by have := hl.few; omega) (by simp) (by simp) rfl (fun _ _ => pure_eR _) ?_ ?_
    · intro i r acc hr hm hp
      have c3 := law_answers_ok (n := n + 5) (h.push hp) W (hl.ok r hm)
      simp [↓z_some, ↓z_none, ↓z_ok, ↓z_exc, ↓z_bind, ↓z_wr, ↓z_ws, ↓z_ow, ↓z_nx, ↓z_rt, ↓z_br, ↓z_ct, ↓z_ex, ↓z_cons, ↓z_nil, ↓z_ret, ↓z_expr, ↓z_for, ↓z_par, ↓z_try0, ↓z_try1, ↓z_tests_nil, ↓z_var, ↓z_non, ↓z_bl, ↓z_int, ↓z_str, ↓z_gint, ↓z_bop, ↓z_neg, ↓z_not, ↓z_cmp, ↓z_cmp2, ↓z_and, ↓z_or, ↓z_ite, ↓z_tup, ↓z_lst, ↓z_ix, ↓z_slice, ↓z_o_nil, ↓z_o_cons, ↓z_sl_tup, ↓z_sl_loc, ↓z_call, ↓z_bi, ↓z_meth, ↓z_isin, ↓z_xfld, ↓z_xis, ↓z_es_nil, ↓z_es_cons, ↓z_i_seq, ↓z_i_rng1, ↓z_i_rng2, ↓z_i_zip, ↓z_lc, ↓z_lcF, ↓z_t_cons, ↓z_asg, ↓z_if, ↓z_raise, ↓z_forF, ↓z_aug, ↓z_asgS, ↓z_brk, ↓z_cnt, ↓z_pass, ↓z_ret0, ↓z_whl, ↓z_add, ↓z_sub, ↓z_mul, ↓z_div, ↓z_mod, ↓z_pow, ↓z_addt, ↓z_eq, ↓z_ne, ↓z_lt, ↓z_le, ↓z_gt, ↓z_ge, ↓z_is_b, ↓z_is_n, ↓z_is_i, ↓z_is_t, ↓z_no_b, ↓z_no_n, ↓z_no_i, ↓z_no_t, ↓z_gadd, ↓z_gsub, ↓z_gmul, ↓z_gdiv, ↓z_gmod, ↓z_len_t, ↓z_len_l, ↓z_tuple, ↓z_list, ↓z_int_i, ↓z_int_b, ↓z_bool_i, ↓z_bool_b, ↓z_abs, ↓z_min2, ↓z_max2, ↓z_sum, ↓z_app, ↓z_pop, startD, seq_tup, ty_ii, ty_ib, ty_it, ty_bi, ty_bb, ty_bt, ty_tt, ty_ti, ty_tb, ty_n, ty_st, ty_si, tr_bl, tr_int, tr_non, set_slot, set_nil, set_cons, sets_nil, sets_cons, wipe_nil, wipe_cons, gv_0, sv_0, gv_1, sv_1, gv_2, sv_2, gv_3, sv_3, gv_4, sv_4, gv_5, sv_5, gv_6, sv_6, gv_7, sv_7, gv_8, sv_8, gv_9, sv_9, gv_10, sv_10, gv_11, sv_11, gv_12, sv_12, gv_13, sv_13, gv_14, sv_14, gv_15, sv_15, gv_16, sv_16, gv_17, sv_17, gv_18, sv_18, gv_19, sv_19, gv_20, sv_20, gv_21, sv_21, gv_22, sv_22, gv_23, sv_23, Option.bind_some, at0, at1, at2, at3, set0, set1, set2, set3, mr_app, mr_ext, mr_pop, eqv_int, seq_end, at_end, set_end, at_e1, set_e1, seq_e1, at_e2, set_e2, seq_e2, at_e3, set_e3, seq_e3, at_e4, set_e4, seq_e4, pure_int, pure_bl, pure_non, pure_str, pure_tup, pures_nil, pures_cons, mul_l, mul_r, it_tup, it_loc, zip_tup, fu_items, fu_live, fu_zip, c3, ansF]
    · have hG : D.pures (l.map fun r => eR (ansF M r)) = true := pures_map (fun r => pure_eR _) l
      have c7 := due_ok (n := n + 1) (h.push hG) W hl
      have c8 := log_ok (n := n) (h.push hG) W hl
      have e3 : D.tup (l.map fun r => eR (ansF M r)) = eL (l.map (ansF M)) := by simp [eL]
      simp [↓z_some, ↓z_none, ↓z_ok, ↓z_exc, ↓z_bind, ↓z_wr, ↓z_ws, ↓z_ow, ↓z_nx, ↓z_rt, ↓z_br, ↓z_ct, ↓z_ex, ↓z_cons, ↓z_nil, ↓z_ret, ↓z_expr, ↓z_for, ↓z_par, ↓z_try0, ↓z_try1, ↓z_tests_nil, ↓z_var, ↓z_non, ↓z_bl, ↓z_int, ↓z_str, ↓z_gint, ↓z_bop, ↓z_neg, ↓z_not, ↓z_cmp, ↓z_cmp2, ↓z_and, ↓z_or, ↓z_ite, ↓z_tup, ↓z_lst, ↓z_ix, ↓z_slice, ↓z_o_nil, ↓z_o_cons, ↓z_sl_tup, ↓z_sl_loc, ↓z_call, ↓z_bi, ↓z_meth, ↓z_isin, ↓z_xfld, ↓z_xis, ↓z_es_nil, ↓z_es_cons, ↓z_i_seq, ↓z_i_rng1, ↓z_i_rng2, ↓z_i_zip, ↓z_lc, ↓z_lcF, ↓z_t_cons, ↓z_asg, ↓z_if, ↓z_raise, ↓z_forF, ↓z_aug, ↓z_asgS, ↓z_brk, ↓z_cnt, ↓z_pass, ↓z_ret0, ↓z_whl, ↓z_add, ↓z_sub, ↓z_mul, ↓z_div, ↓z_mod, ↓z_pow, ↓z_addt, ↓z_eq, ↓z_ne, ↓z_lt, ↓z_le, ↓z_gt, ↓z_ge, ↓z_is_b, ↓z_is_n, ↓z_is_i, ↓z_is_t, ↓z_no_b, ↓z_no_n, ↓z_no_i, ↓z_no_t, ↓z_gadd, ↓z_gsub, ↓z_gmul, ↓z_gdiv, ↓z_gmod, ↓z_len_t, ↓z_len_l, ↓z_tuple, ↓z_list, ↓z_int_i, ↓z_int_b, ↓z_bool_i, ↓z_bool_b, ↓z_abs, ↓z_min2, ↓z_max2, ↓z_sum, ↓z_app, ↓z_pop, startD, seq_tup, ty_ii, ty_ib, ty_it, ty_bi, ty_bb, ty_bt, ty_tt, ty_ti, ty_tb, ty_n, ty_st, ty_si, tr_bl, tr_int, tr_non, set_slot, set_nil, set_cons, sets_nil, sets_cons, wipe_nil, wipe_cons, gv_0, sv_0, gv_1, sv_1, gv_2, sv_2, gv_3, sv_3, gv_4, sv_4, gv_5, sv_5, gv_6, sv_6, gv_7, sv_7, gv_8, sv_8, gv_9, sv_9, gv_10, sv_10, gv_11, sv_11, gv_12, sv_12, gv_13, sv_13, gv_14, sv_14, gv_15, sv_15, gv_16, sv_16, gv_17, sv_17, gv_18, sv_18, gv_19, sv_19, gv_20, sv_20, gv_21, sv_21, gv_22, sv_22, gv_23, sv_23, Option.bind_some, at0, at1, at2, at3, set0, set1, set2, set3, mr_app, mr_ext, mr_pop, eqv_int, seq_end, at_end, set_end, at_e1, set_e1, seq_e1, at_e2, set_e2, seq_e2, at_e3, set_e3, seq_e3, at_e4, set_e4, seq_e4, pure_int, pure_bl, pure_non, pure_str, pure_tup, pures_nil, pures_cons, mul_l, mul_r, it_tup, it_loc, zip_tup, fu_items, fu_live, fu_zip, c7, e3, eqM_shp, shp_eL63, eqv_refl, ↓z_len_eL, c8]
      refine ⟨by have := hl.few; omega, ?_⟩
      rw [rng_map]
      refine lc_mapE (μ := μ1 ++ [.lst (l.map fun r => eR (ansF M r))]) (fun i => rowD M (l.getD i [])) (by have := hl.few; simp; omega) (by simp) (by simp) (by simp) (fun _ _ => pure_rowD M _) ?_ ?_
      · intro i j acc hj hm hp
        have hjl : j < l.length := by simpa using hm
        have ej : l[j]? = some l[j] := List.getElem?_eq_getElem hjl
        have ej2 : (l.map (ansF M))[j]? = some (ansF M l[j]) := by rw [List.getElem?_map, ej]; rfl
        have e4 : l.getD j [] = l[j] := by simp [hjl]
        rw [e4]
        simp [↓z_some, ↓z_none, ↓z_ok, ↓z_exc, ↓z_bind, ↓z_wr, ↓z_ws, ↓z_ow, ↓z_nx, ↓z_rt, ↓z_br, ↓z_ct, ↓z_ex, ↓z_cons, ↓z_nil, ↓z_ret, ↓z_expr, ↓z_for, ↓z_par, ↓z_try0, ↓z_try1, ↓z_tests_nil, ↓z_var, ↓z_non, ↓z_bl, ↓z_int, ↓z_str, ↓z_gint, ↓z_bop, ↓z_neg, ↓z_not, ↓z_cmp, ↓z_cmp2, ↓z_and, ↓z_or, ↓z_ite, ↓z_tup, ↓z_lst, ↓z_ix, ↓z_slice, ↓z_o_nil, ↓z_o_cons, ↓z_sl_tup, ↓z_sl_loc, ↓z_call, ↓z_bi, ↓z_meth, ↓z_isin, ↓z_xfld, ↓z_xis, ↓z_es_nil, ↓z_es_cons, ↓z_i_seq, ↓z_i_rng1, ↓z_i_rng2, ↓z_i_zip, ↓z_lc, ↓z_lcF, ↓z_t_cons, ↓z_asg, ↓z_if, ↓z_raise, ↓z_forF, ↓z_aug, ↓z_asgS, ↓z_brk, ↓z_cnt, ↓z_pass, ↓z_ret0, ↓z_whl, ↓z_add, ↓z_sub, ↓z_mul, ↓z_div, ↓z_mod, ↓z_pow, ↓z_addt, ↓z_eq, ↓z_ne, ↓z_lt, ↓z_le, ↓z_gt, ↓z_ge, ↓z_is_b, ↓z_is_n, ↓z_is_i, ↓z_is_t, ↓z_no_b, ↓z_no_n, ↓z_no_i, ↓z_no_t, ↓z_gadd, ↓z_gsub, ↓z_gmul, ↓z_gdiv, ↓z_gmod, ↓z_len_t, ↓z_len_l, ↓z_tuple, ↓z_list, ↓z_int_i, ↓z_int_b, ↓z_bool_i, ↓z_bool_b, ↓z_abs, ↓z_min2, ↓z_max2, ↓z_sum, ↓z_app, ↓z_pop, startD, seq_tup, ty_ii, ty_ib, ty_it, ty_bi, ty_bb, ty_bt, ty_tt, ty_ti, ty_tb, ty_n, ty_st, ty_si, tr_bl, tr_int, tr_non, set_slot, set_nil, set_cons, sets_nil, sets_cons, wipe_nil, wipe_cons, gv_0, sv_0, gv_1, sv_1, gv_2, sv_2, gv_3, sv_3, gv_4, sv_4, gv_5, sv_5, gv_6, sv_6, gv_7, sv_7, gv_8, sv_8, gv_9, sv_9, gv_10, sv_10, gv_11, sv_11, gv_12, sv_12, gv_13, sv_13, gv_14, sv_14, gv_15, sv_15, gv_16, sv_16, gv_17, sv_17, gv_18, sv_18, gv_19, sv_19, gv_20, sv_20, gv_21, sv_21, gv_22, sv_22, gv_23, sv_23, Option.bind_some, at0, at1, at2, at3, set0, set1, set2, set3, mr_app, mr_ext, mr_pop, eqv_int, seq_end, at_end, set_end, at_e1, set_e1, seq_e1, at_e2, set_e2, seq_e2, at_e3, set_e3, seq_e3, at_e4, set_e4, seq_e4, pure_int, pure_bl, pure_non, pure_str, pure_tup, pures_nil, pures_cons, mul_l, mul_r, it_tup, it_loc, zip_tup, fu_items, fu_live, fu_zip, seq_eL, at_eL ej, at_eL ej2, rowD, -List.getElem?_eq_getElem, -List.map_map]
      · rw [map_getD]
        simp [↓z_some, ↓z_none, ↓z_ok, ↓z_exc, ↓z_bind, ↓z_wr, ↓z_ws, ↓z_ow, ↓z_nx, ↓z_rt, ↓z_br, ↓z_ct, ↓z_ex, ↓z_cons, ↓z_nil, ↓z_ret, ↓z_expr, ↓z_for, ↓z_par, ↓z_try0, ↓z_try1, ↓z_tests_nil, ↓z_var, ↓z_non, ↓z_bl, ↓z_int, ↓z_str, ↓z_gint, ↓z_bop, ↓z_neg, ↓z_not, ↓z_cmp, ↓z_cmp2, ↓z_and, ↓z_or, ↓z_ite, ↓z_tup, ↓z_lst, ↓z_ix, ↓z_slice, ↓z_o_nil, ↓z_o_cons, ↓z_sl_tup, ↓z_sl_loc, ↓z_call, ↓z_bi, ↓z_meth, ↓z_isin, ↓z_xfld, ↓z_xis, ↓z_es_nil, ↓z_es_cons, ↓z_i_seq, ↓z_i_rng1, ↓z_i_rng2, ↓z_i_zip, ↓z_lc, ↓z_lcF, ↓z_t_cons, ↓z_asg, ↓z_if, ↓z_raise, ↓z_forF, ↓z_aug, ↓z_asgS, ↓z_brk, ↓z_cnt, ↓z_pass, ↓z_ret0, ↓z_whl, ↓z_add, ↓z_sub, ↓z_mul, ↓z_div, ↓z_mod, ↓z_pow, ↓z_addt, ↓z_eq, ↓z_ne, ↓z_lt, ↓z_le, ↓z_gt, ↓z_ge, ↓z_is_b, ↓z_is_n, ↓z_is_i, ↓z_is_t, ↓z_no_b, ↓z_no_n, ↓z_no_i, ↓z_no_t, ↓z_gadd, ↓z_gsub, ↓z_gmul, ↓z_gdiv, ↓z_gmod, ↓z_len_t, ↓z_len_l, ↓z_tuple, ↓z_list, ↓z_int_i, ↓z_int_b, ↓z_bool_i, ↓z_bool_b, ↓z_abs, ↓z_min2, ↓z_max2, ↓z_sum, ↓z_app, ↓z_pop, startD, seq_tup, ty_ii, ty_ib, ty_it, ty_bi, ty_bb, ty_bt, ty_tt, ty_ti, ty_tb, ty_n, ty_st, ty_si, tr_bl, tr_int, tr_non, set_slot, set_nil, set_cons, sets_nil, sets_cons, wipe_nil, wipe_cons, gv_0, sv_0, gv_1, sv_1, gv_2, sv_2, gv_3, sv_3, gv_4, sv_4, gv_5, sv_5, gv_6, sv_6, gv_7, sv_7, gv_8, sv_8, gv_9, sv_9, gv_10, sv_10, gv_11, sv_11, gv_12, sv_12, gv_13, sv_13, gv_14, sv_14, gv_15, sv_15, gv_16, sv_16, gv_17, sv_17, gv_18, sv_18, gv_19, sv_19, gv_20, sv_20, gv_21, sv_21, gv_22, sv_22, gv_23, sv_23, Option.bind_some, at0, at1, at2, at3, set0, set1, set2, set3, mr_app, mr_ext, mr_pop, eqv_int, seq_end, at_end, set_end, at_e1, set_e1, seq_e1, at_e2, set_e2, seq_e2, at_e3, set_e3, seq_e3, at_e4, set_e4, seq_e4, pure_int, pure_bl, pure_non, pure_str, pure_tup, pures_nil, pures_cons, mul_l, mul_r, it_tup, it_loc, zip_tup, fu_items, fu_live, fu_zip, eqM_shp, shp_rowD, eqv_refl, take_end]
end K01

namespace K01
open PySem Mn
/-! ### what is refused -/
theorem due_bad {n : Nat} {M : List (List Cell)} {k : Nat} {l m : List (List Int)} {r : List Int} {μ : Mem} (h : Pu μ) (W : Mc M k) (hl : (l ++ r :: m).length ≤ 128) (hr : ∀ r ∈ l, Row k r) (h1 : r.length ≤ 300) (h2 : ¬ ∀ x ∈ r, 0 ≤ x ∧ x ≤ (k : Int) - 1) :
    call (n + 6) 14 [eM M, eL (l ++ r :: m)] μ = .exc ⟨3, [("place", .int l.length), ("word", .str "badlot")]⟩ μ := by
  refine px (d := m_due) rfl rfl h rfl ?_
  obtain ⟨s0, e0, l0⟩ := len0 W
  have c1 := check_m (n := n + 1) h W
  have c2 := check_lot_bad (n := n) (m := m) h (kk W) hl hr h1 h2
  simp [↓z_some, ↓z_none, ↓z_ok, ↓z_exc, ↓z_bind, ↓z_wr, ↓z_ws, ↓z_ow, ↓z_nx, ↓z_rt, ↓z_br, ↓z_ct, ↓z_ex, ↓z_cons, ↓z_nil, ↓z_ret, ↓z_expr, ↓z_for, ↓z_par, ↓z_try0, ↓z_try1, ↓z_tests_nil, ↓z_var, ↓z_non, ↓z_bl, ↓z_int, ↓z_str, ↓z_gint, ↓z_bop, ↓z_neg, ↓z_not, ↓z_cmp, ↓z_cmp2, ↓z_and, ↓z_or, ↓z_ite, ↓z_tup, ↓z_lst, ↓z_ix, ↓z_slice, ↓z_o_nil, ↓z_o_cons, ↓z_sl_tup, ↓z_sl_loc, ↓z_call, ↓z_bi, ↓z_meth, ↓z_isin, ↓z_xfld, ↓z_xis, ↓z_es_nil, ↓z_es_cons, ↓z_i_seq, ↓z_i_rng1, ↓z_i_rng2, ↓z_i_zip, ↓z_lc, ↓z_lcF, ↓z_t_cons, ↓z_asg, ↓z_if, ↓z_raise, ↓z_forF, ↓z_aug, ↓z_asgS, ↓z_brk, ↓z_cnt, ↓z_pass, ↓z_ret0, ↓z_whl, ↓z_add, ↓z_sub, ↓z_mul, ↓z_div, ↓z_mod, ↓z_pow, ↓z_addt, ↓z_eq, ↓z_ne, ↓z_lt, ↓z_le, ↓z_gt, ↓z_ge, ↓z_is_b, ↓z_is_n, ↓z_is_i, ↓z_is_t, ↓z_no_b, ↓z_no_n, ↓z_no_i, ↓z_no_t, ↓z_gadd, ↓z_gsub, ↓z_gmul, ↓z_gdiv, ↓z_gmod, ↓z_len_t, ↓z_len_l, ↓z_tuple, ↓z_list, ↓z_int_i, ↓z_int_b, ↓z_bool_i, ↓z_bool_b, ↓z_abs, ↓z_min2, ↓z_max2, ↓z_sum, ↓z_app, ↓z_pop, startD, seq_tup, ty_ii, ty_ib, ty_it, ty_bi, ty_bb, ty_bt, ty_tt, ty_ti, ty_tb, ty_n, ty_st, ty_si, tr_bl, tr_int, tr_non, set_slot, set_nil, set_cons, sets_nil, sets_cons, wipe_nil, wipe_cons, gv_0, sv_0, gv_1, sv_1, gv_2, sv_2, gv_3, sv_3, gv_4, sv_4, gv_5, sv_5, gv_6, sv_6, gv_7, sv_7, gv_8, sv_8, gv_9, sv_9, gv_10, sv_10, gv_11, sv_11, gv_12, sv_12, gv_13, sv_13, gv_14, sv_14, gv_15, sv_15, gv_16, sv_16, gv_17, sv_17, gv_18, sv_18, gv_19, sv_19, gv_20, sv_20, gv_21, sv_21, gv_22, sv_22, gv_23, sv_23, Option.bind_some, at0, at1, at2, at3, set0, set1, set2, set3, mr_app, mr_ext, mr_pop, eqv_int, seq_end, at_end, set_end, at_e1, set_e1, seq_e1, at_e2, set_e2, seq_e2, at_e3, set_e3, seq_e3, at_e4, set_e4, seq_e4, pure_int, pure_bl, pure_non, pure_str, pure_tup, pures_nil, pures_cons, mul_l, mul_r, it_tup, it_loc, zip_tup, fu_items, fu_live, fu_zip, m_due, c1, seq_eM, at0_eM e0, ↓z_len_eS, l0, c2]
theorem end_bad {n : Nat} {M : List (List Cell)} {k : Nat} {r : D} {μ : Mem} (h : Pu μ) (W : Mc M k) (hf : M.length ≤ 63) : call (n + 6) 12 [.tup (M.map eS ++ [.tup []]), r] μ = .exc ⟨1, [("reason", .str "standing"), ("place", .tup [.int M.length]), ("word", .str "badmachine")]⟩ μ := by
  refine px (d := m_end) rfl rfl h rfl ?_
  have W1 : WfN M k (M.length + 1) := ⟨W.wf.lk, fun s hs => ⟨(W.wf.std s hs).1, fun c hc => by have := (W.wf.std s hs).2 c hc; unfold OkC at this ⊢; omega⟩⟩
  have c1 := check_machine_bad (n := n + 1) h ⟨W.few.1, hf⟩ W1 rfl (by simp)
  simp [↓z_some, ↓z_none, ↓z_ok, ↓z_exc, ↓z_bind, ↓z_wr, ↓z_ws, ↓z_ow, ↓z_nx, ↓z_rt, ↓z_br, ↓z_ct, ↓z_ex, ↓z_cons, ↓z_nil, ↓z_ret, ↓z_expr, ↓z_for, ↓z_par, ↓z_try0, ↓z_try1, ↓z_tests_nil, ↓z_var, ↓z_non, ↓z_bl, ↓z_int, ↓z_str, ↓z_gint, ↓z_bop, ↓z_neg, ↓z_not, ↓z_cmp, ↓z_cmp2, ↓z_and, ↓z_or, ↓z_ite, ↓z_tup, ↓z_lst, ↓z_ix, ↓z_slice, ↓z_o_nil, ↓z_o_cons, ↓z_sl_tup, ↓z_sl_loc, ↓z_call, ↓z_bi, ↓z_meth, ↓z_isin, ↓z_xfld, ↓z_xis, ↓z_es_nil, ↓z_es_cons, ↓z_i_seq, ↓z_i_rng1, ↓z_i_rng2, ↓z_i_zip, ↓z_lc, ↓z_lcF, ↓z_t_cons, ↓z_asg, ↓z_if, ↓z_raise, ↓z_forF, ↓z_aug, ↓z_asgS, ↓z_brk, ↓z_cnt, ↓z_pass, ↓z_ret0, ↓z_whl, ↓z_add, ↓z_sub, ↓z_mul, ↓z_div, ↓z_mod, ↓z_pow, ↓z_addt, ↓z_eq, ↓z_ne, ↓z_lt, ↓z_le, ↓z_gt, ↓z_ge, ↓z_is_b, ↓z_is_n, ↓z_is_i, ↓z_is_t, ↓z_no_b, ↓z_no_n, ↓z_no_i, ↓z_no_t, ↓z_gadd, ↓z_gsub, ↓z_gmul, ↓z_gdiv, ↓z_gmod, ↓z_len_t, ↓z_len_l, ↓z_tuple, ↓z_list, ↓z_int_i, ↓z_int_b, ↓z_bool_i, ↓z_bool_b, ↓z_abs, ↓z_min2, ↓z_max2, ↓z_sum, ↓z_app, ↓z_pop, startD, seq_tup, ty_ii, ty_ib, ty_it, ty_bi, ty_bb, ty_bt, ty_tt, ty_ti, ty_tb, ty_n, ty_st, ty_si, tr_bl, tr_int, tr_non, set_slot, set_nil, set_cons, sets_nil, sets_cons, wipe_nil, wipe_cons, gv_0, sv_0, gv_1, sv_1, gv_2, sv_2, gv_3, sv_3, gv_4, sv_4, gv_5, sv_5, gv_6, sv_6, gv_7, sv_7, gv_8, sv_8, gv_9, sv_9, gv_10, sv_10, gv_11, sv_11, gv_12, sv_12, gv_13, sv_13, gv_14, sv_14, gv_15, sv_15, gv_16, sv_16, gv_17, sv_17, gv_18, sv_18, gv_19, sv_19, gv_20, sv_20, gv_21, sv_21, gv_22, sv_22, gv_23, sv_23, Option.bind_some, at0, at1, at2, at3, set0, set1, set2, set3, mr_app, mr_ext, mr_pop, eqv_int, seq_end, at_end, set_end, at_e1, set_e1, seq_e1, at_e2, set_e2, seq_e2, at_e3, set_e3, seq_e3, at_e4, set_e4, seq_e4, pure_int, pure_bl, pure_non, pure_str, pure_tup, pures_nil, pures_cons, mul_l, mul_r, it_tup, it_loc, zip_tup, fu_items, fu_live, fu_zip, m_end, c1]
theorem z_add_eM {M : List (List Cell)} {ys : List D} {Q : D → Mem → Prop} {E : Exn → Mem → Prop} {μ : Mem} : WR Q E (bopD .add (eM M) (.tup ys) μ) = (M.length + ys.length ≤ 16000000 ∧ Q (.tup (M.map eS ++ ys)) μ) := by
  unfold eM
  rw [z_addt, List.length_map]
def toldD (at' s M : Int) : List D := [.tup [.str "row", .bl true, .bl false], .tup [.str "lot", .int at', .bl true, .bl false], .tup [.str "number", .int s, .bl true], .tup [.str "machine", .str "standing", .tup [.int M], .bl true]]
theorem refused_wp {n : Nat} {M : List (List Cell)} {k : Nat} {l m : List (List Int)} {r : List Int} {s : Int} {μ : Mem} {Q : D → Mem → Prop} {E : Exn → Mem → Prop} (h : Pu μ) (W : Mc M k) (hf : M.length ≤ 63) (hl : (l ++ r :: m).length ≤ 128) (hr : ∀ r ∈ l, Row k r) (h1 : r.length ≤ 300) (h2 : ¬ ∀ x ∈ r, 0 ≤ x ∧ x ≤ (k : Int) - 1) (hs : (M.length : Int) ≤ s)
    (hQ : Q (.loc μ.length) (μ ++ [.lst (toldD l.length s M.length)])) : WR Q E (call (n + 7) 28 [eM M, eR r, eL (l ++ r :: m), .int s] μ) := by
  refine pwl (d := m__law_refused) rfl rfl ?_
  have c1 := fun (xs : List D) (hx : D.pures xs = true) => answers_bad (n := n) (h.push hx) W h1 h2
  have c2 := fun (xs : List D) (hx : D.pures xs = true) => due_bad (n := n) (m := m) (h.push hx) W hl hr h1 h2
  have c3 := fun (xs : List D) (hx : D.pures xs = true) => answers_from_bad (n := n) (r := eR r) (h.push hx) W hs
  have c4 := fun (xs : List D) (hx : D.pures xs = true) => end_bad (n := n) (r := eR r) (h.push hx) W hf
  have i1 : M.length + 1 ≤ 16000000 := by omega
  have d1 := c1 [] rfl
  have k1 : ∀ a b c : D, List.lookup ("place" : Str) [(("reason" : Str), a), (("place" : Str), b), (("word" : Str), c)] = some b := fun _ _ _ => rfl
  simp [↓z_some, ↓z_none, ↓z_ok, ↓z_exc, ↓z_bind, ↓z_wr, ↓z_ws, ↓z_ow, ↓z_nx, ↓z_rt, ↓z_br, ↓z_ct, ↓z_ex, ↓z_cons, ↓z_nil, ↓z_ret, ↓z_expr, ↓z_for, ↓z_par, ↓z_try0, ↓z_try1, ↓z_tests_nil, ↓z_var, ↓z_non, ↓z_bl, ↓z_int, ↓z_str, ↓z_gint, ↓z_bop, ↓z_neg, ↓z_not, ↓z_cmp, ↓z_cmp2, ↓z_and, ↓z_or, ↓z_ite, ↓z_tup, ↓z_lst, ↓z_ix, ↓z_slice, ↓z_o_nil, ↓z_o_cons, ↓z_sl_tup, ↓z_sl_loc, ↓z_call, ↓z_bi, ↓z_meth, ↓z_isin, ↓z_xfld, ↓z_xis, ↓z_es_nil, ↓z_es_cons, ↓z_i_seq, ↓z_i_rng1, ↓z_i_rng2, ↓z_i_zip, ↓z_lc, ↓z_lcF, ↓z_t_cons, ↓z_asg, ↓z_if, ↓z_raise, ↓z_forF, ↓z_aug, ↓z_asgS, ↓z_brk, ↓z_cnt, ↓z_pass, ↓z_ret0, ↓z_whl, ↓z_add, ↓z_sub, ↓z_mul, ↓z_div, ↓z_mod, ↓z_pow, ↓z_addt, ↓z_eq, ↓z_ne, ↓z_lt, ↓z_le, ↓z_gt, ↓z_ge, ↓z_is_b, ↓z_is_n, ↓z_is_i, ↓z_is_t, ↓z_no_b, ↓z_no_n, ↓z_no_i, ↓z_no_t, ↓z_gadd, ↓z_gsub, ↓z_gmul, ↓z_gdiv, ↓z_gmod, ↓z_len_t, ↓z_len_l, ↓z_tuple, ↓z_list, ↓z_int_i, ↓z_int_b, ↓z_bool_i, ↓z_bool_b, ↓z_abs, ↓z_min2, ↓z_max2, ↓z_sum, ↓z_app, ↓z_pop, startD, seq_tup, ty_ii, ty_ib, ty_it, ty_bi, ty_bb, ty_bt, ty_tt, ty_ti, ty_tb, ty_n, ty_st, ty_si, tr_bl, tr_int, tr_non, set_slot, set_nil, set_cons, sets_nil, sets_cons, wipe_nil, wipe_cons, gv_0, sv_0, gv_1, sv_1, gv_2, sv_2, gv_3, sv_3, gv_4, sv_4, gv_5, sv_5, gv_6, sv_6, gv_7, sv_7, gv_8, sv_8, gv_9, sv_9, gv_10, sv_10, gv_11, sv_11, gv_12, sv_12, gv_13, sv_13, gv_14, sv_14, gv_15, sv_15, gv_16, sv_16, gv_17, sv_17, gv_18, sv_18, gv_19, sv_19, gv_20, sv_20, gv_21, sv_21, gv_22, sv_22, gv_23, sv_23, Option.bind_some, at0, at1, at2, at3, set0, set1, set2, set3, mr_app, mr_ext, mr_pop, eqv_int, seq_end, at_end, set_end, at_e1, set_e1, seq_e1, at_e2, set_e2, seq_e2, at_e3, set_e3, seq_e3, at_e4, set_e4, seq_e4, pure_int, pure_bl, pure_non, pure_str, pure_tup, pures_nil, pures_cons, mul_l, mul_r, it_tup, it_loc, zip_tup, fu_items, fu_live, fu_zip, m__law_refused, d1, k1, c2, c3, c4, xc_own, xc_ve, par0_eq, lk_hd, ↓z_add_eM, i1]
  exact hQ
end K01

namespace K01
open PySem Mn
theorem mc_of {M : List (List Cell)} {k : Nat} {A : Int} (W : WfM M k A) (hA : A ≤ 99) (hl : M.length ≤ 64) (hk : 1 ≤ k ∧ k ≤ 6) : Mc M k := ⟨⟨W.few, hl⟩, hk, fun s hs => ⟨(W.std s hs).1, fun c hc => by have := (W.std s hs).2 c hc; unfold OkC; omega⟩⟩
theorem z_add_eR {r : List Int} {ys : List D} {Q : D → Mem → Prop} {E : Exn → Mem → Prop} {μ : Mem} : WR Q E (bopD .add (eR r) (.tup ys) μ) = (r.length + ys.length ≤ 16000000 ∧ Q (.tup (r.map D.int ++ ys)) μ) := by
  unfold eR
  rw [z_addt, List.length_map]
theorem z_add_tR {r : List Int} {ys : List D} {Q : D → Mem → Prop} {E : Exn → Mem → Prop} {μ : Mem} : WR Q E (bopD .add (.tup ys) (eR r) μ) = (ys.length + r.length ≤ 16000000 ∧ Q (.tup (ys ++ r.map D.int)) μ) := by
  unfold eR
  rw [z_addt, List.length_map]
theorem z_add_eS {r : List Cell} {ys : List D} {Q : D → Mem → Prop} {E : Exn → Mem → Prop} {μ : Mem} : WR Q E (bopD .add (eS r) (.tup ys) μ) = (r.length + ys.length ≤ 16000000 ∧ Q (.tup (r.map eC ++ ys)) μ) := by
  unfold eS
  rw [z_addt, List.length_map]
theorem ff_eq (M M' : List (List Cell)) (l : List (List Int)) (μ : Mem) : eqM (ffD M M' l) (ffD M M' l) μ = some true := by
  have : (ffD M M' l).shp 63 = true := by unfold ffD; cases ff M M' l <;> rfl
  rw [eqM_shp this this, eqv_refl]
theorem law_wp {n : Nat} {ns : List Int} (hl : ns.length ≤ 63) : WR (fun d _ => d = .bl true) (fun _ _ => False) (call (n + 9) 32 [.loc 0] [.ro (ns.map D.int)]) := by
  refine pw (d := m_law) rfl rfl ?_
  have p0 : Pu [.ro (ns.map D.int)] := fun o ho => by simp at ho; subst ho; exact pures_map (fun _ => rfl) ns
  simp [↓z_some, ↓z_none, ↓z_ok, ↓z_exc, ↓z_bind, ↓z_wr, ↓z_ws, ↓z_ow, ↓z_nx, ↓z_rt, ↓z_br, ↓z_ct, ↓z_ex, ↓z_cons, ↓z_nil, ↓z_ret, ↓z_expr, ↓z_for, ↓z_par, ↓z_try0, ↓z_try1, ↓z_tests_nil, ↓z_var, ↓z_non, ↓z_bl, ↓z_int, ↓z_str, ↓z_gint, ↓z_bop, ↓z_neg, ↓z_not, ↓z_cmp, ↓z_cmp2, ↓z_and, ↓z_or, ↓z_ite, ↓z_tup, ↓z_lst, ↓z_ix, ↓z_slice, ↓z_o_nil, ↓z_o_cons, ↓z_sl_tup, ↓z_sl_loc, ↓z_call, ↓z_bi, ↓z_meth, ↓z_isin, ↓z_xfld, ↓z_xis, ↓z_es_nil, ↓z_es_cons, ↓z_i_seq, ↓z_i_rng1, ↓z_i_rng2, ↓z_i_zip, ↓z_lc, ↓z_lcF, ↓z_t_cons, ↓z_asg, ↓z_if, ↓z_raise, ↓z_forF, ↓z_aug, ↓z_asgS, ↓z_brk, ↓z_cnt, ↓z_pass, ↓z_ret0, ↓z_whl, ↓z_add, ↓z_sub, ↓z_mul, ↓z_div, ↓z_mod, ↓z_pow, ↓z_addt, ↓z_eq, ↓z_ne, ↓z_lt, ↓z_le, ↓z_gt, ↓z_ge, ↓z_is_b, ↓z_is_n, ↓z_is_i, ↓z_is_t, ↓z_no_b, ↓z_no_n, ↓z_no_i, ↓z_no_t, ↓z_gadd, ↓z_gsub, ↓z_gmul, ↓z_gdiv, ↓z_gmod, ↓z_len_t, ↓z_len_l, ↓z_tuple, ↓z_list, ↓z_int_i, ↓z_int_b, ↓z_bool_i, ↓z_bool_b, ↓z_abs, ↓z_min2, ↓z_max2, ↓z_sum, ↓z_app, ↓z_pop, startD, seq_tup, ty_ii, ty_ib, ty_it, ty_bi, ty_bb, ty_bt, ty_tt, ty_ti, ty_tb, ty_n, ty_st, ty_si, tr_bl, tr_int, tr_non, set_slot, set_nil, set_cons, sets_nil, sets_cons, wipe_nil, wipe_cons, gv_0, sv_0, gv_1, sv_1, gv_2, sv_2, gv_3, sv_3, gv_4, sv_4, gv_5, sv_5, gv_6, sv_6, gv_7, sv_7, gv_8, sv_8, gv_9, sv_9, gv_10, sv_10, gv_11, sv_11, gv_12, sv_12, gv_13, sv_13, gv_14, sv_14, gv_15, sv_15, gv_16, sv_16, gv_17, sv_17, gv_18, sv_18, gv_19, sv_19, gv_20, sv_20, gv_21, sv_21, gv_22, sv_22, gv_23, sv_23, Option.bind_some, at0, at1, at2, at3, set0, set1, set2, set3, mr_app, mr_ext, mr_pop, eqv_int, seq_end, at_end, set_end, at_e1, set_e1, seq_e1, at_e2, set_e2, seq_e2, at_e3, set_e3, seq_e3, at_e4, set_e4, seq_e4, pure_int, pure_bl, pure_non, pure_str, pure_tup, pures_nil, pures_cons, mul_l, mul_r, it_tup, it_loc, zip_tup, fu_items, fu_live, fu_zip, m_law]
  refine bag_wp p0 (ns := ns) rfl hl (by omega) fun μ1 l1 N1 g1 s1 hl1 hs1 hb1 hp1 => ?_
  have r1 : μ1[0]? = some (.ro (ns.map D.int)) := hs1 0 (by simp)
  have l10 : 1 ≤ l1 := by simpa using hl1
  have F1 : Fr l1 g1 s1 0 μ1 μ1 := Fr.refl hp1 hb1 (by omega) (by omega)
  clear hs1
  simp [↓z_some, ↓z_none, ↓z_ok, ↓z_exc, ↓z_bind, ↓z_wr, ↓z_ws, ↓z_ow, ↓z_nx, ↓z_rt, ↓z_br, ↓z_ct, ↓z_ex, ↓z_cons, ↓z_nil, ↓z_ret, ↓z_expr, ↓z_for, ↓z_par, ↓z_try0, ↓z_try1, ↓z_tests_nil, ↓z_var, ↓z_non, ↓z_bl, ↓z_int, ↓z_str, ↓z_gint, ↓z_bop, ↓z_neg, ↓z_not, ↓z_cmp, ↓z_cmp2, ↓z_and, ↓z_or, ↓z_ite, ↓z_tup, ↓z_lst, ↓z_ix, ↓z_slice, ↓z_o_nil, ↓z_o_cons, ↓z_sl_tup, ↓z_sl_loc, ↓z_call, ↓z_bi, ↓z_meth, ↓z_isin, ↓z_xfld, ↓z_xis, ↓z_es_nil, ↓z_es_cons, ↓z_i_seq, ↓z_i_rng1, ↓z_i_rng2, ↓z_i_zip, ↓z_lc, ↓z_lcF, ↓z_t_cons, ↓z_asg, ↓z_if, ↓z_raise, ↓z_forF, ↓z_aug, ↓z_asgS, ↓z_brk, ↓z_cnt, ↓z_pass, ↓z_ret0, ↓z_whl, ↓z_add, ↓z_sub, ↓z_mul, ↓z_div, ↓z_mod, ↓z_pow, ↓z_addt, ↓z_eq, ↓z_ne, ↓z_lt, ↓z_le, ↓z_gt, ↓z_ge, ↓z_is_b, ↓z_is_n, ↓z_is_i, ↓z_is_t, ↓z_no_b, ↓z_no_n, ↓z_no_i, ↓z_no_t, ↓z_gadd, ↓z_gsub, ↓z_gmul, ↓z_gdiv, ↓z_gmod, ↓z_len_t, ↓z_len_l, ↓z_tuple, ↓z_list, ↓z_int_i, ↓z_int_b, ↓z_bool_i, ↓z_bool_b, ↓z_abs, ↓z_min2, ↓z_max2, ↓z_sum, ↓z_app, ↓z_pop, startD, seq_tup, ty_ii, ty_ib, ty_it, ty_bi, ty_bb, ty_bt, ty_tt, ty_ti, ty_tb, ty_n, ty_st, ty_si, tr_bl, tr_int, tr_non, set_slot, set_nil, set_cons, sets_nil, sets_cons, wipe_nil, wipe_cons, gv_0, sv_0, gv_1, sv_1, gv_2, sv_2, gv_3, sv_3, gv_4, sv_4, gv_5, sv_5, gv_6, sv_6, gv_7, sv_7, gv_8, sv_8, gv_9, sv_9, gv_10, sv_10, gv_11, sv_11, gv_12, sv_12, gv_13, sv_13, gv_14, sv_14, gv_15, sv_15, gv_16, sv_16, gv_17, sv_17, gv_18, sv_18, gv_19, sv_19, gv_20, sv_20, gv_21, sv_21, gv_22, sv_22, gv_23, sv_23, Option.bind_some, at0, at1, at2, at3, set0, set1, set2, set3, mr_app, mr_ext, mr_pop, eqv_int, seq_end, at_end, set_end, at_e1, set_e1, seq_e1, at_e2, set_e2, seq_e2, at_e3, set_e3, seq_e3, at_e4, set_e4, seq_e4, pure_int, pure_bl, pure_non, pure_str, pure_tup, pures_nil, pures_cons, mul_l, mul_r, it_tup, it_loc, zip_tup, fu_items, fu_live, fu_zip]
  refine take_fr F1 (by omega) (by omega) fun d1 N2 c2 x1 x2 x3 x4 F2 => ?_
  simp [↓z_some, ↓z_none, ↓z_ok, ↓z_exc, ↓z_bind, ↓z_wr, ↓z_ws, ↓z_ow, ↓z_nx, ↓z_rt, ↓z_br, ↓z_ct, ↓z_ex, ↓z_cons, ↓z_nil, ↓z_ret, ↓z_expr, ↓z_for, ↓z_par, ↓z_try0, ↓z_try1, ↓z_tests_nil, ↓z_var, ↓z_non, ↓z_bl, ↓z_int, ↓z_str, ↓z_gint, ↓z_bop, ↓z_neg, ↓z_not, ↓z_cmp, ↓z_cmp2, ↓z_and, ↓z_or, ↓z_ite, ↓z_tup, ↓z_lst, ↓z_ix, ↓z_slice, ↓z_o_nil, ↓z_o_cons, ↓z_sl_tup, ↓z_sl_loc, ↓z_call, ↓z_bi, ↓z_meth, ↓z_isin, ↓z_xfld, ↓z_xis, ↓z_es_nil, ↓z_es_cons, ↓z_i_seq, ↓z_i_rng1, ↓z_i_rng2, ↓z_i_zip, ↓z_lc, ↓z_lcF, ↓z_t_cons, ↓z_asg, ↓z_if, ↓z_raise, ↓z_forF, ↓z_aug, ↓z_asgS, ↓z_brk, ↓z_cnt, ↓z_pass, ↓z_ret0, ↓z_whl, ↓z_add, ↓z_sub, ↓z_mul, ↓z_div, ↓z_mod, ↓z_pow, ↓z_addt, ↓z_eq, ↓z_ne, ↓z_lt, ↓z_le, ↓z_gt, ↓z_ge, ↓z_is_b, ↓z_is_n, ↓z_is_i, ↓z_is_t, ↓z_no_b, ↓z_no_n, ↓z_no_i, ↓z_no_t, ↓z_gadd, ↓z_gsub, ↓z_gmul, ↓z_gdiv, ↓z_gmod, ↓z_len_t, ↓z_len_l, ↓z_tuple, ↓z_list, ↓z_int_i, ↓z_int_b, ↓z_bool_i, ↓z_bool_b, ↓z_abs, ↓z_min2, ↓z_max2, ↓z_sum, ↓z_app, ↓z_pop, startD, seq_tup, ty_ii, ty_ib, ty_it, ty_bi, ty_bb, ty_bt, ty_tt, ty_ti, ty_tb, ty_n, ty_st, ty_si, tr_bl, tr_int, tr_non, set_slot, set_nil, set_cons, sets_nil, sets_cons, wipe_nil, wipe_cons, gv_0, sv_0, gv_1, sv_1, gv_2, sv_2, gv_3, sv_3, gv_4, sv_4, gv_5, sv_5, gv_6, sv_6, gv_7, sv_7, gv_8, sv_8, gv_9, sv_9, gv_10, sv_10, gv_11, sv_11, gv_12, sv_12, gv_13, sv_13, gv_14, sv_14, gv_15, sv_15, gv_16, sv_16, gv_17, sv_17, gv_18, sv_18, gv_19, sv_19, gv_20, sv_20, gv_21, sv_21, gv_22, sv_22, gv_23, sv_23, Option.bind_some, at0, at1, at2, at3, set0, set1, set2, set3, mr_app, mr_ext, mr_pop, eqv_int, seq_end, at_end, set_end, at_e1, set_e1, seq_e1, at_e2, set_e2, seq_e2, at_e3, set_e3, seq_e3, at_e4, set_e4, seq_e4, pure_int, pure_bl, pure_non, pure_str, pure_tup, pures_nil, pures_cons, mul_l, mul_r, it_tup, it_loc, zip_tup, fu_items, fu_live, fu_zip]
  obtain ⟨k, hk⟩ : ∃ k : Nat, 1 + d1 = k := ⟨(1 + d1).toNat, by omega⟩
  rw [hk]
  refine take_fr F2.re (by omega) (by omega) fun d2 N3 c3 y1 y2 y3 y4 F3 => ?_
  simp only [List.set_set] at F3 ⊢
  simp [↓z_some, ↓z_none, ↓z_ok, ↓z_exc, ↓z_bind, ↓z_wr, ↓z_ws, ↓z_ow, ↓z_nx, ↓z_rt, ↓z_br, ↓z_ct, ↓z_ex, ↓z_nil, ↓z_ret, ↓z_expr, ↓z_for, ↓z_par, ↓z_try0, ↓z_try1, ↓z_tests_nil, ↓z_var, ↓z_non, ↓z_bl, ↓z_int, ↓z_str, ↓z_gint, ↓z_bop, ↓z_neg, ↓z_not, ↓z_cmp, ↓z_cmp2, ↓z_and, ↓z_or, ↓z_ite, ↓z_tup, ↓z_lst, ↓z_ix, ↓z_slice, ↓z_o_nil, ↓z_o_cons, ↓z_sl_tup, ↓z_sl_loc, ↓z_call, ↓z_bi, ↓z_meth, ↓z_isin, ↓z_xfld, ↓z_xis, ↓z_es_nil, ↓z_es_cons, ↓z_i_seq, ↓z_i_rng1, ↓z_i_rng2, ↓z_i_zip, ↓z_lc, ↓z_lcF, ↓z_t_cons, ↓z_asg, ↓z_if, ↓z_raise, ↓z_forF, ↓z_aug, ↓z_asgS, ↓z_brk, ↓z_cnt, ↓z_pass, ↓z_ret0, ↓z_whl, ↓z_add, ↓z_sub, ↓z_mul, ↓z_div, ↓z_mod, ↓z_pow, ↓z_addt, ↓z_eq, ↓z_ne, ↓z_lt, ↓z_le, ↓z_gt, ↓z_ge, ↓z_is_b, ↓z_is_n, ↓z_is_i, ↓z_is_t, ↓z_no_b, ↓z_no_n, ↓z_no_i, ↓z_no_t, ↓z_gadd, ↓z_gsub, ↓z_gmul, ↓z_gdiv, ↓z_gmod, ↓z_len_t, ↓z_len_l, ↓z_tuple, ↓z_list, ↓z_int_i, ↓z_int_b, ↓z_bool_i, ↓z_bool_b, ↓z_abs, ↓z_min2, ↓z_max2, ↓z_sum, ↓z_app, ↓z_pop, startD, seq_tup, ty_ii, ty_ib, ty_it, ty_bi, ty_bb, ty_bt, ty_tt, ty_ti, ty_tb, ty_n, ty_st, ty_si, tr_bl, tr_int, tr_non, set_slot, set_nil, set_cons, sets_nil, sets_cons, wipe_nil, wipe_cons, gv_0, sv_0, gv_1, sv_1, gv_2, sv_2, gv_3, sv_3, gv_4, sv_4, gv_5, sv_5, gv_6, sv_6, gv_7, sv_7, gv_8, sv_8, gv_9, sv_9, gv_10, sv_10, gv_11, sv_11, gv_12, sv_12, gv_13, sv_13, gv_14, sv_14, gv_15, sv_15, gv_16, sv_16, gv_17, sv_17, gv_18, sv_18, gv_19, sv_19, gv_20, sv_20, gv_21, sv_21, gv_22, sv_22, gv_23, sv_23, Option.bind_some, at0, at1, at2, at3, set0, set1, set2, set3, mr_app, mr_ext, mr_pop, eqv_int, seq_end, at_end, set_end, at_e1, set_e1, seq_e1, at_e2, set_e2, seq_e2, at_e3, set_e3, seq_e3, at_e4, set_e4, seq_e4, pure_int, pure_bl, pure_non, pure_str, pure_tup, pures_nil, pures_cons, mul_l, mul_r, it_tup, it_loc, zip_tup, fu_items, fu_live, fu_zip]
  refine machine_wp F3.re (by omega) (by omega) (by omega) (by omega) fun M N4 c4 ml mo z3 z4 F4 => ?_
  simp only [List.set_set] at F4 ⊢
  rw [z_cons]
  have W0 : WfM M k 2 := ⟨by omega, fun s hs => ⟨by have := (mo s hs).1; omega, fun c hc => by have := (mo s hs).2 c hc; omega⟩⟩
  have hk6 : 1 ≤ k ∧ k ≤ 4 := by omega
  refine wp_cut (fun env μ => ∃ M d, WfM M k 99 ∧ M.length ≤ 5 ∧ env = [some (.loc 0), some (.loc l1), some (.int k), some (eM M), none, none, none, none, none, none, none, none, none, d, none] ∧ Pu μ ∧ μ[0]? = some (.ro (ns.map D.int))) ?_ ?_
  · simp [↓z_some, ↓z_none, ↓z_ok, ↓z_exc, ↓z_bind, ↓z_wr, ↓z_ws, ↓z_ow, ↓z_nx, ↓z_rt, ↓z_br, ↓z_ct, ↓z_ex, ↓z_cons, ↓z_nil, ↓z_ret, ↓z_expr, ↓z_for, ↓z_par, ↓z_try0, ↓z_try1, ↓z_tests_nil, ↓z_var, ↓z_non, ↓z_bl, ↓z_int, ↓z_str, ↓z_gint, ↓z_bop, ↓z_neg, ↓z_not, ↓z_cmp, ↓z_cmp2, ↓z_and, ↓z_or, ↓z_ite, ↓z_tup, ↓z_lst, ↓z_ix, ↓z_slice, ↓z_o_nil, ↓z_o_cons, ↓z_sl_tup, ↓z_sl_loc, ↓z_call, ↓z_bi, ↓z_meth, ↓z_isin, ↓z_xfld, ↓z_xis, ↓z_es_nil, ↓z_es_cons, ↓z_i_seq, ↓z_i_rng1, ↓z_i_rng2, ↓z_i_zip, ↓z_lc, ↓z_lcF, ↓z_t_cons, ↓z_asg, ↓z_if, ↓z_raise, ↓z_forF, ↓z_aug, ↓z_asgS, ↓z_brk, ↓z_cnt, ↓z_pass, ↓z_ret0, ↓z_whl, ↓z_add, ↓z_sub, ↓z_mul, ↓z_div, ↓z_mod, ↓z_pow, ↓z_addt, ↓z_eq, ↓z_ne, ↓z_lt, ↓z_le, ↓z_gt, ↓z_ge, ↓z_is_b, ↓z_is_n, ↓z_is_i, ↓z_is_t, ↓z_no_b, ↓z_no_n, ↓z_no_i, ↓z_no_t, ↓z_gadd, ↓z_gsub, ↓z_gmul, ↓z_gdiv, ↓z_gmod, ↓z_len_t, ↓z_len_l, ↓z_tuple, ↓z_list, ↓z_int_i, ↓z_int_b, ↓z_bool_i, ↓z_bool_b, ↓z_abs, ↓z_min2, ↓z_max2, ↓z_sum, ↓z_app, ↓z_pop, startD, seq_tup, ty_ii, ty_ib, ty_it, ty_bi, ty_bb, ty_bt, ty_tt, ty_ti, ty_tb, ty_n, ty_st, ty_si, tr_bl, tr_int, tr_non, set_slot, set_nil, set_cons, sets_nil, sets_cons, wipe_nil, wipe_cons, gv_0, sv_0, gv_1, sv_1, gv_2, sv_2, gv_3, sv_3, gv_4, sv_4, gv_5, sv_5, gv_6, sv_6, gv_7, sv_7, gv_8, sv_8, gv_9, sv_9, gv_10, sv_10, gv_11, sv_11, gv_12, sv_12, gv_13, sv_13, gv_14, sv_14, gv_15, sv_15, gv_16, sv_16, gv_17, sv_17, gv_18, sv_18, gv_19, sv_19, gv_20, sv_20, gv_21, sv_21, gv_22, sv_22, gv_23, sv_23, Option.bind_some, at0, at1, at2, at3, set0, set1, set2, set3, mr_app, mr_ext, mr_pop, eqv_int, seq_end, at_end, set_end, at_e1, set_e1, seq_e1, at_e2, set_e2, seq_e2, at_e3, set_e3, seq_e3, at_e4, set_e4, seq_e4, pure_int, pure_bl, pure_non, pure_str, pure_tup, pures_nil, pures_cons, mul_l, mul_r, it_tup, it_loc, zip_tup, fu_items, fu_live, fu_zip]
    refine take_fr F4.re (by omega) (by omega) fun d3 N5 c5 u1 u2 u3 u4 F5 => ?_
    (try simp only [List.set_set] at F5 ⊢)
    have r2 : (μ1.set l1 (bagO N5 g1 s1 c5))[0]? = some (.ro (ns.map D.int)) := by rw [List.getElem?_set_ne (by omega)]; exact r1
    have p2 := F5.pu
    generalize μ1.set l1 (bagO N5 g1 s1 c5) = μ2 at r2 p2 ⊢
    simp [↓z_some, ↓z_none, ↓z_ok, ↓z_exc, ↓z_bind, ↓z_wr, ↓z_ws, ↓z_ow, ↓z_nx, ↓z_rt, ↓z_br, ↓z_ct, ↓z_ex, ↓z_cons, ↓z_nil, ↓z_ret, ↓z_expr, ↓z_for, ↓z_par, ↓z_try0, ↓z_try1, ↓z_tests_nil, ↓z_var, ↓z_non, ↓z_bl, ↓z_int, ↓z_str, ↓z_gint, ↓z_bop, ↓z_neg, ↓z_not, ↓z_cmp, ↓z_cmp2, ↓z_and, ↓z_or, ↓z_ite, ↓z_tup, ↓z_lst, ↓z_ix, ↓z_slice, ↓z_o_nil, ↓z_o_cons, ↓z_sl_tup, ↓z_sl_loc, ↓z_call, ↓z_bi, ↓z_meth, ↓z_isin, ↓z_xfld, ↓z_xis, ↓z_es_nil, ↓z_es_cons, ↓z_i_seq, ↓z_i_rng1, ↓z_i_rng2, ↓z_i_zip, ↓z_lc, ↓z_lcF, ↓z_t_cons, ↓z_asg, ↓z_if, ↓z_raise, ↓z_forF, ↓z_aug, ↓z_asgS, ↓z_brk, ↓z_cnt, ↓z_pass, ↓z_ret0, ↓z_whl, ↓z_add, ↓z_sub, ↓z_mul, ↓z_div, ↓z_mod, ↓z_pow, ↓z_addt, ↓z_eq, ↓z_ne, ↓z_lt, ↓z_le, ↓z_gt, ↓z_ge, ↓z_is_b, ↓z_is_n, ↓z_is_i, ↓z_is_t, ↓z_no_b, ↓z_no_n, ↓z_no_i, ↓z_no_t, ↓z_gadd, ↓z_gsub, ↓z_gmul, ↓z_gdiv, ↓z_gmod, ↓z_len_t, ↓z_len_l, ↓z_tuple, ↓z_list, ↓z_int_i, ↓z_int_b, ↓z_bool_i, ↓z_bool_b, ↓z_abs, ↓z_min2, ↓z_max2, ↓z_sum, ↓z_app, ↓z_pop, startD, seq_tup, ty_ii, ty_ib, ty_it, ty_bi, ty_bb, ty_bt, ty_tt, ty_ti, ty_tb, ty_n, ty_st, ty_si, tr_bl, tr_int, tr_non, set_slot, set_nil, set_cons, sets_nil, sets_cons, wipe_nil, wipe_cons, gv_0, sv_0, gv_1, sv_1, gv_2, sv_2, gv_3, sv_3, gv_4, sv_4, gv_5, sv_5, gv_6, sv_6, gv_7, sv_7, gv_8, sv_8, gv_9, sv_9, gv_10, sv_10, gv_11, sv_11, gv_12, sv_12, gv_13, sv_13, gv_14, sv_14, gv_15, sv_15, gv_16, sv_16, gv_17, sv_17, gv_18, sv_18, gv_19, sv_19, gv_20, sv_20, gv_21, sv_21, gv_22, sv_22, gv_23, sv_23, Option.bind_some, at0, at1, at2, at3, set0, set1, set2, set3, mr_app, mr_ext, mr_pop, eqv_int, seq_end, at_end, set_end, at_e1, set_e1, seq_e1, at_e2, set_e2, seq_e2, at_e3, set_e3, seq_e3, at_e4, set_e4, seq_e4, pure_int, pure_bl, pure_non, pure_str, pure_tup, pures_nil, pures_cons, mul_l, mul_r, it_tup, it_loc, zip_tup, fu_items, fu_live, fu_zip, eqM_shp, shp_int]
    obtain ⟨s0, e0⟩ := len0' W0.few
    have w0 := W0.std s0 (List.mem_of_getElem? e0)
    obtain ⟨c0, f0⟩ : ∃ c0, s0[0]? = some c0 := ⟨s0[0]'(by omega), List.getElem?_eq_getElem (by omega)⟩
    by_cases e : d3 = 0
    · simp [↓z_some, ↓z_none, ↓z_ok, ↓z_exc, ↓z_bind, ↓z_wr, ↓z_ws, ↓z_ow, ↓z_nx, ↓z_rt, ↓z_br, ↓z_ct, ↓z_ex, ↓z_cons, ↓z_nil, ↓z_ret, ↓z_expr, ↓z_for, ↓z_par, ↓z_try0, ↓z_try1, ↓z_tests_nil, ↓z_var, ↓z_non, ↓z_bl, ↓z_int, ↓z_str, ↓z_gint, ↓z_bop, ↓z_neg, ↓z_not, ↓z_cmp, ↓z_cmp2, ↓z_and, ↓z_or, ↓z_ite, ↓z_tup, ↓z_lst, ↓z_ix, ↓z_slice, ↓z_o_nil, ↓z_o_cons, ↓z_sl_tup, ↓z_sl_loc, ↓z_call, ↓z_bi, ↓z_meth, ↓z_isin, ↓z_xfld, ↓z_xis, ↓z_es_nil, ↓z_es_cons, ↓z_i_seq, ↓z_i_rng1, ↓z_i_rng2, ↓z_i_zip, ↓z_lc, ↓z_lcF, ↓z_t_cons, ↓z_asg, ↓z_if, ↓z_raise, ↓z_forF, ↓z_aug, ↓z_asgS, ↓z_brk, ↓z_cnt, ↓z_pass, ↓z_ret0, ↓z_whl, ↓z_add, ↓z_sub, ↓z_mul, ↓z_div, ↓z_mod, ↓z_pow, ↓z_addt, ↓z_eq, ↓z_ne, ↓z_lt, ↓z_le, ↓z_gt, ↓z_ge, ↓z_is_b, ↓z_is_n, ↓z_is_i, ↓z_is_t, ↓z_no_b, ↓z_no_n, ↓z_no_i, ↓z_no_t, ↓z_gadd, ↓z_gsub, ↓z_gmul, ↓z_gdiv, ↓z_gmod, ↓z_len_t, ↓z_len_l, ↓z_tuple, ↓z_list, ↓z_int_i, ↓z_int_b, ↓z_bool_i, ↓z_bool_b, ↓z_abs, ↓z_min2, ↓z_max2, ↓z_sum, ↓z_app, ↓z_pop, startD, seq_tup, ty_ii, ty_ib, ty_it, ty_bi, ty_bb, ty_bt, ty_tt, ty_ti, ty_tb, ty_n, ty_st, ty_si, tr_bl, tr_int, tr_non, set_slot, set_nil, set_cons, sets_nil, sets_cons, wipe_nil, wipe_cons, gv_0, sv_0, gv_1, sv_1, gv_2, sv_2, gv_3, sv_3, gv_4, sv_4, gv_5, sv_5, gv_6, sv_6, gv_7, sv_7, gv_8, sv_8, gv_9, sv_9, gv_10, sv_10, gv_11, sv_11, gv_12, sv_12, gv_13, sv_13, gv_14, sv_14, gv_15, sv_15, gv_16, sv_16, gv_17, sv_17, gv_18, sv_18, gv_19, sv_19, gv_20, sv_20, gv_21, sv_21, gv_22, sv_22, gv_23, sv_23, Option.bind_some, at0, at1, at2, at3, set0, set1, set2, set3, mr_app, mr_ext, mr_pop, eqv_int, seq_end, at_end, set_end, at_e1, set_e1, seq_e1, at_e2, set_e2, seq_e2, at_e3, set_e3, seq_e3, at_e4, set_e4, seq_e4, pure_int, pure_bl, pure_non, pure_str, pure_tup, pures_nil, pures_cons, mul_l, mul_r, it_tup, it_loc, zip_tup, fu_items, fu_live, fu_zip, e, seq_eM, at0_eM e0, seq_eS, at0_eS f0, seq_eC, ↓z_sl_eM, ↓z_sl_eS]
      have b1 : (cutD (s0.map eC) (some 1) none).length ≤ s0.length := by simpa using cut_len (xs := s0.map eC)
      have b2 : (cutD (M.map eS) (some 1) none).length ≤ M.length := by simpa using cut_len (xs := M.map eS)
      refine ⟨by omega, by omega, ((99, c0.2) :: s0.drop 1) :: M.drop 1, ⟨by simp, ?_⟩, by simp; omega, ?_, p2, r2⟩
      · have hlen : (((99, c0.2) :: s0.drop 1) :: M.drop 1).length = M.length := by simp; have := W0.few; omega
        intro s hs
        rw [hlen]
        rcases List.mem_cons.mp hs with rfl | hs
        · refine ⟨by simp; omega, fun c hc => ?_⟩
          rcases List.mem_cons.mp hc with rfl | hc
          · exact ⟨by simp, (w0.2 c0 (List.mem_of_getElem? f0)).2⟩
          · have := w0.2 c (List.mem_of_mem_drop hc)
            omega
        · have := W0.std s (List.mem_of_mem_drop hs)
          exact ⟨this.1, fun c hc => by have := this.2 c hc; omega⟩
      · rw [cut_hi (by omega), cut_hi (by omega)]
        simp [eM, eS, eC]
    · simp [↓z_some, ↓z_none, ↓z_ok, ↓z_exc, ↓z_bind, ↓z_wr, ↓z_ws, ↓z_ow, ↓z_nx, ↓z_rt, ↓z_br, ↓z_ct, ↓z_ex, ↓z_cons, ↓z_nil, ↓z_ret, ↓z_expr, ↓z_for, ↓z_par, ↓z_try0, ↓z_try1, ↓z_tests_nil, ↓z_var, ↓z_non, ↓z_bl, ↓z_int, ↓z_str, ↓z_gint, ↓z_bop, ↓z_neg, ↓z_not, ↓z_cmp, ↓z_cmp2, ↓z_and, ↓z_or, ↓z_ite, ↓z_tup, ↓z_lst, ↓z_ix, ↓z_slice, ↓z_o_nil, ↓z_o_cons, ↓z_sl_tup, ↓z_sl_loc, ↓z_call, ↓z_bi, ↓z_meth, ↓z_isin, ↓z_xfld, ↓z_xis, ↓z_es_nil, ↓z_es_cons, ↓z_i_seq, ↓z_i_rng1, ↓z_i_rng2, ↓z_i_zip, ↓z_lc, ↓z_lcF, ↓z_t_cons, ↓z_asg, ↓z_if, ↓z_raise, ↓z_forF, ↓z_aug, ↓z_asgS, ↓z_brk, ↓z_cnt, ↓z_pass, ↓z_ret0, ↓z_whl, ↓z_add, ↓z_sub, ↓z_mul, ↓z_div, ↓z_mod, ↓z_pow, ↓z_addt, ↓z_eq, ↓z_ne, ↓z_lt, ↓z_le, ↓z_gt, ↓z_ge, ↓z_is_b, ↓z_is_n, ↓z_is_i, ↓z_is_t, ↓z_no_b, ↓z_no_n, ↓z_no_i, ↓z_no_t, ↓z_gadd, ↓z_gsub, ↓z_gmul, ↓z_gdiv, ↓z_gmod, ↓z_len_t, ↓z_len_l, ↓z_tuple, ↓z_list, ↓z_int_i, ↓z_int_b, ↓z_bool_i, ↓z_bool_b, ↓z_abs, ↓z_min2, ↓z_max2, ↓z_sum, ↓z_app, ↓z_pop, startD, seq_tup, ty_ii, ty_ib, ty_it, ty_bi, ty_bb, ty_bt, ty_tt, ty_ti, ty_tb, ty_n, ty_st, ty_si, tr_bl, tr_int, tr_non, set_slot, set_nil, set_cons, sets_nil, sets_cons, wipe_nil, wipe_cons, gv_0, sv_0, gv_1, sv_1, gv_2, sv_2, gv_3, sv_3, gv_4, sv_4, gv_5, sv_5, gv_6, sv_6, gv_7, sv_7, gv_8, sv_8, gv_9, sv_9, gv_10, sv_10, gv_11, sv_11, gv_12, sv_12, gv_13, sv_13, gv_14, sv_14, gv_15, sv_15, gv_16, sv_16, gv_17, sv_17, gv_18, sv_18, gv_19, sv_19, gv_20, sv_20, gv_21, sv_21, gv_22, sv_22, gv_23, sv_23, Option.bind_some, at0, at1, at2, at3, set0, set1, set2, set3, mr_app, mr_ext, mr_pop, eqv_int, seq_end, at_end, set_end, at_e1, set_e1, seq_e1, at_e2, set_e2, seq_e2, at_e3, set_e3, seq_e3, at_e4, set_e4, seq_e4, pure_int, pure_bl, pure_non, pure_str, pure_tup, pures_nil, pures_cons, mul_l, mul_r, it_tup, it_loc, zip_tup, fu_items, fu_live, fu_zip, e]
      exact ⟨M, ⟨W0.few, fun s hs => ⟨(W0.std s hs).1, fun c hc => by have := (W0.std s hs).2 c hc; omega⟩⟩, by omega, rfl, p2, r2⟩
  · clear hb1 hp1 r1 F1 F2 F3 F4 W0 mo ml p0
    rintro env μ ⟨M, d, W99, ml, rfl, pμ, r2⟩
    have W := mc_of W99 (by omega) (by omega) (show 1 ≤ k ∧ k ≤ 6 by omega)
    (try simp [↓z_some, ↓z_none, ↓z_ok, ↓z_exc, ↓z_bind, ↓z_wr, ↓z_ws, ↓z_ow, ↓z_nx, ↓z_rt, ↓z_br, ↓z_ct, ↓z_ex, ↓z_cons, ↓z_nil, ↓z_ret, ↓z_expr, ↓z_for, ↓z_par, ↓z_try0, ↓z_try1, ↓z_tests_nil, ↓z_var, ↓z_non, ↓z_bl, ↓z_int, ↓z_str, ↓z_gint, ↓z_bop, ↓z_neg, ↓z_not, ↓z_cmp, ↓z_cmp2, ↓z_and, ↓z_or, ↓z_ite, ↓z_tup, ↓z_lst, ↓z_ix, ↓z_slice, ↓z_o_nil, ↓z_o_cons, ↓z_sl_tup, ↓z_sl_loc, ↓z_call, ↓z_bi, ↓z_meth, ↓z_isin, ↓z_xfld, ↓z_xis, ↓z_es_nil, ↓z_es_cons, ↓z_i_seq, ↓z_i_rng1, ↓z_i_rng2, ↓z_i_zip, ↓z_lc, ↓z_lcF, ↓z_t_cons, ↓z_asg, ↓z_if, ↓z_raise, ↓z_forF, ↓z_aug, ↓z_asgS, ↓z_brk, ↓z_cnt, ↓z_pass, ↓z_ret0, ↓z_whl, ↓z_add, ↓z_sub, ↓z_mul, ↓z_div, ↓z_mod, ↓z_pow, ↓z_addt, ↓z_eq, ↓z_ne, ↓z_lt, ↓z_le, ↓z_gt, ↓z_ge, ↓z_is_b, ↓z_is_n, ↓z_is_i, ↓z_is_t, ↓z_no_b, ↓z_no_n, ↓z_no_i, ↓z_no_t, ↓z_gadd, ↓z_gsub, ↓z_gmul, ↓z_gdiv, ↓z_gmod, ↓z_len_t, ↓z_len_l, ↓z_tuple, ↓z_list, ↓z_int_i, ↓z_int_b, ↓z_bool_i, ↓z_bool_b, ↓z_abs, ↓z_min2, ↓z_max2, ↓z_sum, ↓z_app, ↓z_pop, startD, seq_tup, ty_ii, ty_ib, ty_it, ty_bi, ty_bb, ty_bt, ty_tt, ty_ti, ty_tb, ty_n, ty_st, ty_si, tr_bl, tr_int, tr_non, set_slot, set_nil, set_cons, sets_nil, sets_cons, wipe_nil, wipe_cons, gv_0, sv_0, gv_1, sv_1, gv_2, sv_2, gv_3, sv_3, gv_4, sv_4, gv_5, sv_5, gv_6, sv_6, gv_7, sv_7, gv_8, sv_8, gv_9, sv_9, gv_10, sv_10, gv_11, sv_11, gv_12, sv_12, gv_13, sv_13, gv_14, sv_14, gv_15, sv_15, gv_16, sv_16, gv_17, sv_17, gv_18, sv_18, gv_19, sv_19, gv_20, sv_20, gv_21, sv_21, gv_22, sv_22, gv_23, sv_23, Option.bind_some, at0, at1, at2, at3, set0, set1, set2, set3, mr_app, mr_ext, mr_pop, eqv_int, seq_end, at_end, set_end, at_e1, set_e1, seq_e1, at_e2, set_e2, seq_e2, at_e3, set_e3, seq_e3, at_e4, set_e4, seq_e4, pure_int, pure_bl, pure_non, pure_str, pure_tup, pures_nil, pures_cons, mul_l, mul_r, it_tup, it_loc, zip_tup, fu_items, fu_live, fu_zip])
    refine bag_wp pμ r2 hl (by omega) fun μ2 l2 N2 g2 s2 hl2 hs2 hb2 hp2 => ?_
    have h0 : 0 < μ.length := (List.getElem?_eq_some_iff.mp r2).1
    have r3 : μ2[0]? = some (.ro (ns.map D.int)) := by rw [hs2 0 h0]; exact r2
    have F1 : Fr l2 g2 s2 0 μ2 μ2 := Fr.refl hp2 hb2 (by omega) (by omega)
    have hl2' : 0 < l2 := by omega
    clear hs2 hb2 hp2 pμ r2
    (try simp [↓z_some, ↓z_none, ↓z_ok, ↓z_exc, ↓z_bind, ↓z_wr, ↓z_ws, ↓z_ow, ↓z_nx, ↓z_rt, ↓z_br, ↓z_ct, ↓z_ex, ↓z_cons, ↓z_nil, ↓z_ret, ↓z_expr, ↓z_for, ↓z_par, ↓z_try0, ↓z_try1, ↓z_tests_nil, ↓z_var, ↓z_non, ↓z_bl, ↓z_int, ↓z_str, ↓z_gint, ↓z_bop, ↓z_neg, ↓z_not, ↓z_cmp, ↓z_cmp2, ↓z_and, ↓z_or, ↓z_ite, ↓z_tup, ↓z_lst, ↓z_ix, ↓z_slice, ↓z_o_nil, ↓z_o_cons, ↓z_sl_tup, ↓z_sl_loc, ↓z_call, ↓z_bi, ↓z_meth, ↓z_isin, ↓z_xfld, ↓z_xis, ↓z_es_nil, ↓z_es_cons, ↓z_i_seq, ↓z_i_rng1, ↓z_i_rng2, ↓z_i_zip, ↓z_lc, ↓z_lcF, ↓z_t_cons, ↓z_asg, ↓z_if, ↓z_raise, ↓z_forF, ↓z_aug, ↓z_asgS, ↓z_brk, ↓z_cnt, ↓z_pass, ↓z_ret0, ↓z_whl, ↓z_add, ↓z_sub, ↓z_mul, ↓z_div, ↓z_mod, ↓z_pow, ↓z_addt, ↓z_eq, ↓z_ne, ↓z_lt, ↓z_le, ↓z_gt, ↓z_ge, ↓z_is_b, ↓z_is_n, ↓z_is_i, ↓z_is_t, ↓z_no_b, ↓z_no_n, ↓z_no_i, ↓z_no_t, ↓z_gadd, ↓z_gsub, ↓z_gmul, ↓z_gdiv, ↓z_gmod, ↓z_len_t, ↓z_len_l, ↓z_tuple, ↓z_list, ↓z_int_i, ↓z_int_b, ↓z_bool_i, ↓z_bool_b, ↓z_abs, ↓z_min2, ↓z_max2, ↓z_sum, ↓z_app, ↓z_pop, startD, seq_tup, ty_ii, ty_ib, ty_it, ty_bi, ty_bb, ty_bt, ty_tt, ty_ti, ty_tb, ty_n, ty_st, ty_si, tr_bl, tr_int, tr_non, set_slot, set_nil, set_cons, sets_nil, sets_cons, wipe_nil, wipe_cons, gv_0, sv_0, gv_1, sv_1, gv_2, sv_2, gv_3, sv_3, gv_4, sv_4, gv_5, sv_5, gv_6, sv_6, gv_7, sv_7, gv_8, sv_8, gv_9, sv_9, gv_10, sv_10, gv_11, sv_11, gv_12, sv_12, gv_13, sv_13, gv_14, sv_14, gv_15, sv_15, gv_16, sv_16, gv_17, sv_17, gv_18, sv_18, gv_19, sv_19, gv_20, sv_20, gv_21, sv_21, gv_22, sv_22, gv_23, sv_23, Option.bind_some, at0, at1, at2, at3, set0, set1, set2, set3, mr_app, mr_ext, mr_pop, eqv_int, seq_end, at_end, set_end, at_e1, set_e1, seq_e1, at_e2, set_e2, seq_e2, at_e3, set_e3, seq_e3, at_e4, set_e4, seq_e4, pure_int, pure_bl, pure_non, pure_str, pure_tup, pures_nil, pures_cons, mul_l, mul_r, it_tup, it_loc, zip_tup, fu_items, fu_live, fu_zip])
    refine take_fr F1 (by omega) (by omega) fun d1 N3 c3 u1 u2 u3 u4 F2 => ?_
    (try simp [↓z_some, ↓z_none, ↓z_ok, ↓z_exc, ↓z_bind, ↓z_wr, ↓z_ws, ↓z_ow, ↓z_nx, ↓z_rt, ↓z_br, ↓z_ct, ↓z_ex, ↓z_cons, ↓z_nil, ↓z_ret, ↓z_expr, ↓z_for, ↓z_par, ↓z_try0, ↓z_try1, ↓z_tests_nil, ↓z_var, ↓z_non, ↓z_bl, ↓z_int, ↓z_str, ↓z_gint, ↓z_bop, ↓z_neg, ↓z_not, ↓z_cmp, ↓z_cmp2, ↓z_and, ↓z_or, ↓z_ite, ↓z_tup, ↓z_lst, ↓z_ix, ↓z_slice, ↓z_o_nil, ↓z_o_cons, ↓z_sl_tup, ↓z_sl_loc, ↓z_call, ↓z_bi, ↓z_meth, ↓z_isin, ↓z_xfld, ↓z_xis, ↓z_es_nil, ↓z_es_cons, ↓z_i_seq, ↓z_i_rng1, ↓z_i_rng2, ↓z_i_zip, ↓z_lc, ↓z_lcF, ↓z_t_cons, ↓z_asg, ↓z_if, ↓z_raise, ↓z_forF, ↓z_aug, ↓z_asgS, ↓z_brk, ↓z_cnt, ↓z_pass, ↓z_ret0, ↓z_whl, ↓z_add, ↓z_sub, ↓z_mul, ↓z_div, ↓z_mod, ↓z_pow, ↓z_addt, ↓z_eq, ↓z_ne, ↓z_lt, ↓z_le, ↓z_gt, ↓z_ge, ↓z_is_b, ↓z_is_n, ↓z_is_i, ↓z_is_t, ↓z_no_b, ↓z_no_n, ↓z_no_i, ↓z_no_t, ↓z_gadd, ↓z_gsub, ↓z_gmul, ↓z_gdiv, ↓z_gmod, ↓z_len_t, ↓z_len_l, ↓z_tuple, ↓z_list, ↓z_int_i, ↓z_int_b, ↓z_bool_i, ↓z_bool_b, ↓z_abs, ↓z_min2, ↓z_max2, ↓z_sum, ↓z_app, ↓z_pop, startD, seq_tup, ty_ii, ty_ib, ty_it, ty_bi, ty_bb, ty_bt, ty_tt, ty_ti, ty_tb, ty_n, ty_st, ty_si, tr_bl, tr_int, tr_non, set_slot, set_nil, set_cons, sets_nil, sets_cons, wipe_nil, wipe_cons, gv_0, sv_0, gv_1, sv_1, gv_2, sv_2, gv_3, sv_3, gv_4, sv_4, gv_5, sv_5, gv_6, sv_6, gv_7, sv_7, gv_8, sv_8, gv_9, sv_9, gv_10, sv_10, gv_11, sv_11, gv_12, sv_12, gv_13, sv_13, gv_14, sv_14, gv_15, sv_15, gv_16, sv_16, gv_17, sv_17, gv_18, sv_18, gv_19, sv_19, gv_20, sv_20, gv_21, sv_21, gv_22, sv_22, gv_23, sv_23, Option.bind_some, at0, at1, at2, at3, set0, set1, set2, set3, mr_app, mr_ext, mr_pop, eqv_int, seq_end, at_end, set_end, at_e1, set_e1, seq_e1, at_e2, set_e2, seq_e2, at_e3, set_e3, seq_e3, at_e4, set_e4, seq_e4, pure_int, pure_bl, pure_non, pure_str, pure_tup, pures_nil, pures_cons, mul_l, mul_r, it_tup, it_loc, zip_tup, fu_items, fu_live, fu_zip])
    refine lot_wp F2.re (by omega) (by omega) (by omega) (by omega) fun l N4 c4 v1 v2 v3 v4 F3 => ?_
    (try simp only [List.set_set] at F3 ⊢)
    simp [↓z_some, ↓z_none, ↓z_ok, ↓z_exc, ↓z_bind, ↓z_wr, ↓z_ws, ↓z_ow, ↓z_nx, ↓z_rt, ↓z_br, ↓z_ct, ↓z_ex, ↓z_cons, ↓z_nil, ↓z_ret, ↓z_expr, ↓z_for, ↓z_par, ↓z_try0, ↓z_try1, ↓z_tests_nil, ↓z_var, ↓z_non, ↓z_bl, ↓z_int, ↓z_str, ↓z_gint, ↓z_bop, ↓z_neg, ↓z_not, ↓z_cmp, ↓z_cmp2, ↓z_and, ↓z_or, ↓z_ite, ↓z_tup, ↓z_lst, ↓z_ix, ↓z_slice, ↓z_o_nil, ↓z_o_cons, ↓z_sl_tup, ↓z_sl_loc, ↓z_call, ↓z_bi, ↓z_meth, ↓z_isin, ↓z_xfld, ↓z_xis, ↓z_es_nil, ↓z_es_cons, ↓z_i_seq, ↓z_i_rng1, ↓z_i_rng2, ↓z_i_zip, ↓z_lc, ↓z_lcF, ↓z_t_cons, ↓z_asg, ↓z_if, ↓z_raise, ↓z_forF, ↓z_aug, ↓z_asgS, ↓z_brk, ↓z_cnt, ↓z_pass, ↓z_ret0, ↓z_whl, ↓z_add, ↓z_sub, ↓z_mul, ↓z_div, ↓z_mod, ↓z_pow, ↓z_addt, ↓z_eq, ↓z_ne, ↓z_lt, ↓z_le, ↓z_gt, ↓z_ge, ↓z_is_b, ↓z_is_n, ↓z_is_i, ↓z_is_t, ↓z_no_b, ↓z_no_n, ↓z_no_i, ↓z_no_t, ↓z_gadd, ↓z_gsub, ↓z_gmul, ↓z_gdiv, ↓z_gmod, ↓z_len_t, ↓z_len_l, ↓z_tuple, ↓z_list, ↓z_int_i, ↓z_int_b, ↓z_bool_i, ↓z_bool_b, ↓z_abs, ↓z_min2, ↓z_max2, ↓z_sum, ↓z_app, ↓z_pop, startD, seq_tup, ty_ii, ty_ib, ty_it, ty_bi, ty_bb, ty_bt, ty_tt, ty_ti, ty_tb, ty_n, ty_st, ty_si, tr_bl, tr_int, tr_non, set_slot, set_nil, set_cons, sets_nil, sets_cons, wipe_nil, wipe_cons, gv_0, sv_0, gv_1, sv_1, gv_2, sv_2, gv_3, sv_3, gv_4, sv_4, gv_5, sv_5, gv_6, sv_6, gv_7, sv_7, gv_8, sv_8, gv_9, sv_9, gv_10, sv_10, gv_11, sv_11, gv_12, sv_12, gv_13, sv_13, gv_14, sv_14, gv_15, sv_15, gv_16, sv_16, gv_17, sv_17, gv_18, sv_18, gv_19, sv_19, gv_20, sv_20, gv_21, sv_21, gv_22, sv_22, gv_23, sv_23, Option.bind_some, at0, at1, at2, at3, set0, set1, set2, set3, mr_app, mr_ext, mr_pop, eqv_int, seq_end, at_end, set_end, at_e1, set_e1, seq_e1, at_e2, set_e2, seq_e2, at_e3, set_e3, seq_e3, at_e4, set_e4, seq_e4, pure_int, pure_bl, pure_non, pure_str, pure_tup, pures_nil, pures_cons, mul_l, mul_r, it_tup, it_loc, zip_tup, fu_items, fu_live, fu_zip, ↓z_len_eM]
    refine take_fr F3.re (by omega) (by have := W.few; omega) fun st N5 c5 w1 w2 w3 w4 F4 => ?_
    (try simp only [List.set_set] at F4 ⊢)
    have hL : Lt k l := ⟨by omega, fun r hr => ⟨by have := (v2 r hr).1; omega, fun x hx => (v2 r hr).2 x hx⟩⟩
    have hll : l.length ≤ 5 := by omega
    have r4 : (μ2.set l2 (bagO N5 g2 s2 c5))[0]? = some (.ro (ns.map D.int)) := by rw [List.getElem?_set_ne (by omega)]; exact r3
    have p4 := F4.pu
    generalize μ2.set l2 (bagO N5 g2 s2 c5) = μ3 at r4 p4 ⊢
    clear F4 F3 F2 F1 r3
    have c1 := asked_ok (n := n) p4 W hL (s := st) ⟨w1, by omega⟩
    simp [↓z_some, ↓z_none, ↓z_ok, ↓z_exc, ↓z_bind, ↓z_wr, ↓z_ws, ↓z_ow, ↓z_nx, ↓z_rt, ↓z_br, ↓z_ct, ↓z_ex, ↓z_cons, ↓z_nil, ↓z_ret, ↓z_expr, ↓z_for, ↓z_par, ↓z_try0, ↓z_try1, ↓z_tests_nil, ↓z_var, ↓z_non, ↓z_bl, ↓z_int, ↓z_str, ↓z_gint, ↓z_bop, ↓z_neg, ↓z_not, ↓z_cmp, ↓z_cmp2, ↓z_and, ↓z_or, ↓z_ite, ↓z_tup, ↓z_lst, ↓z_ix, ↓z_slice, ↓z_o_nil, ↓z_o_cons, ↓z_sl_tup, ↓z_sl_loc, ↓z_call, ↓z_bi, ↓z_meth, ↓z_isin, ↓z_xfld, ↓z_xis, ↓z_es_nil, ↓z_es_cons, ↓z_i_seq, ↓z_i_rng1, ↓z_i_rng2, ↓z_i_zip, ↓z_lc, ↓z_lcF, ↓z_t_cons, ↓z_asg, ↓z_if, ↓z_raise, ↓z_forF, ↓z_aug, ↓z_asgS, ↓z_brk, ↓z_cnt, ↓z_pass, ↓z_ret0, ↓z_whl, ↓z_add, ↓z_sub, ↓z_mul, ↓z_div, ↓z_mod, ↓z_pow, ↓z_addt, ↓z_eq, ↓z_ne, ↓z_lt, ↓z_le, ↓z_gt, ↓z_ge, ↓z_is_b, ↓z_is_n, ↓z_is_i, ↓z_is_t, ↓z_no_b, ↓z_no_n, ↓z_no_i, ↓z_no_t, ↓z_gadd, ↓z_gsub, ↓z_gmul, ↓z_gdiv, ↓z_gmod, ↓z_len_t, ↓z_len_l, ↓z_tuple, ↓z_list, ↓z_int_i, ↓z_int_b, ↓z_bool_i, ↓z_bool_b, ↓z_abs, ↓z_min2, ↓z_max2, ↓z_sum, ↓z_app, ↓z_pop, startD, seq_tup, ty_ii, ty_ib, ty_it, ty_bi, ty_bb, ty_bt, ty_tt, ty_ti, ty_tb, ty_n, ty_st, ty_si, tr_bl, tr_int, tr_non, set_slot, set_nil, set_cons, sets_nil, sets_cons, wipe_nil, wipe_cons, gv_0, sv_0, gv_1, sv_1, gv_2, sv_2, gv_3, sv_3, gv_4, sv_4, gv_5, sv_5, gv_6, sv_6, gv_7, sv_7, gv_8, sv_8, gv_9, sv_9, gv_10, sv_10, gv_11, sv_11, gv_12, sv_12, gv_13, sv_13, gv_14, sv_14, gv_15, sv_15, gv_16, sv_16, gv_17, sv_17, gv_18, sv_18, gv_19, sv_19, gv_20, sv_20, gv_21, sv_21, gv_22, sv_22, gv_23, sv_23, Option.bind_some, at0, at1, at2, at3, set0, set1, set2, set3, mr_app, mr_ext, mr_pop, eqv_int, seq_end, at_end, set_end, at_e1, set_e1, seq_e1, at_e2, set_e2, seq_e2, at_e3, set_e3, seq_e3, at_e4, set_e4, seq_e4, pure_int, pure_bl, pure_non, pure_str, pure_tup, pures_nil, pures_cons, mul_l, mul_r, it_tup, it_loc, zip_tup, fu_items, fu_live, fu_zip, c1]
    refine bag_wp p4 r4 hl (by omega) fun μ4 l3 N6 g3 s3 hl3 hs3 hb3 hp3 => ?_
    have h03 : 0 < μ3.length := (List.getElem?_eq_some_iff.mp r4).1
    have F1 : Fr l3 g3 s3 0 μ4 μ4 := Fr.refl hp3 hb3 (by omega) (by omega)
    clear hs3 hb3 hp3 p4 r4 c1
    (try simp [↓z_some, ↓z_none, ↓z_ok, ↓z_exc, ↓z_bind, ↓z_wr, ↓z_ws, ↓z_ow, ↓z_nx, ↓z_rt, ↓z_br, ↓z_ct, ↓z_ex, ↓z_cons, ↓z_nil, ↓z_ret, ↓z_expr, ↓z_for, ↓z_par, ↓z_try0, ↓z_try1, ↓z_tests_nil, ↓z_var, ↓z_non, ↓z_bl, ↓z_int, ↓z_str, ↓z_gint, ↓z_bop, ↓z_neg, ↓z_not, ↓z_cmp, ↓z_cmp2, ↓z_and, ↓z_or, ↓z_ite, ↓z_tup, ↓z_lst, ↓z_ix, ↓z_slice, ↓z_o_nil, ↓z_o_cons, ↓z_sl_tup, ↓z_sl_loc, ↓z_call, ↓z_bi, ↓z_meth, ↓z_isin, ↓z_xfld, ↓z_xis, ↓z_es_nil, ↓z_es_cons, ↓z_i_seq, ↓z_i_rng1, ↓z_i_rng2, ↓z_i_zip, ↓z_lc, ↓z_lcF, ↓z_t_cons, ↓z_asg, ↓z_if, ↓z_raise, ↓z_forF, ↓z_aug, ↓z_asgS, ↓z_brk, ↓z_cnt, ↓z_pass, ↓z_ret0, ↓z_whl, ↓z_add, ↓z_sub, ↓z_mul, ↓z_div, ↓z_mod, ↓z_pow, ↓z_addt, ↓z_eq, ↓z_ne, ↓z_lt, ↓z_le, ↓z_gt, ↓z_ge, ↓z_is_b, ↓z_is_n, ↓z_is_i, ↓z_is_t, ↓z_no_b, ↓z_no_n, ↓z_no_i, ↓z_no_t, ↓z_gadd, ↓z_gsub, ↓z_gmul, ↓z_gdiv, ↓z_gmod, ↓z_len_t, ↓z_len_l, ↓z_tuple, ↓z_list, ↓z_int_i, ↓z_int_b, ↓z_bool_i, ↓z_bool_b, ↓z_abs, ↓z_min2, ↓z_max2, ↓z_sum, ↓z_app, ↓z_pop, startD, seq_tup, ty_ii, ty_ib, ty_it, ty_bi, ty_bb, ty_bt, ty_tt, ty_ti, ty_tb, ty_n, ty_st, ty_si, tr_bl, tr_int, tr_non, set_slot, set_nil, set_cons, sets_nil, sets_cons, wipe_nil, wipe_cons, gv_0, sv_0, gv_1, sv_1, gv_2, sv_2, gv_3, sv_3, gv_4, sv_4, gv_5, sv_5, gv_6, sv_6, gv_7, sv_7, gv_8, sv_8, gv_9, sv_9, gv_10, sv_10, gv_11, sv_11, gv_12, sv_12, gv_13, sv_13, gv_14, sv_14, gv_15, sv_15, gv_16, sv_16, gv_17, sv_17, gv_18, sv_18, gv_19, sv_19, gv_20, sv_20, gv_21, sv_21, gv_22, sv_22, gv_23, sv_23, Option.bind_some, at0, at1, at2, at3, set0, set1, set2, set3, mr_app, mr_ext, mr_pop, eqv_int, seq_end, at_end, set_end, at_e1, set_e1, seq_e1, at_e2, set_e2, seq_e2, at_e3, set_e3, seq_e3, at_e4, set_e4, seq_e4, pure_int, pure_bl, pure_non, pure_str, pure_tup, pures_nil, pures_cons, mul_l, mul_r, it_tup, it_loc, zip_tup, fu_items, fu_live, fu_zip])
    refine changed_wp F1 (by omega) (by omega) (by omega) W99 (by omega) fun M' N7 c7 m1 W99' m3 m4 F2 => ?_
    have W' := mc_of W99' (by omega) (by omega) (show 1 ≤ k ∧ k ≤ 6 by omega)
    have p5 := F2.pu
    have c2 := law_failure_ok (n := n + 5) p5 W W' hL
    have c3 := first_ok (n := n + 2) p5 W W' hL
    have c4 := passes_ok (n := n + 1) p5 W W' hL
    have c5 := fun a b => tells_ok (n := n + 7) (a := a) (b := b) p5
    have c6 := fun i => law_is_int_int (n := n + 7) (i := i) p5
    generalize μ4.set l3 (bagO N7 g3 s3 c7) = μ5 at F2 p5 c2 c3 c4 c5 c6 ⊢
    try simp [↓z_some, ↓z_none, ↓z_ok, ↓z_exc, ↓z_bind, ↓z_wr, ↓z_ws, ↓z_ow, ↓z_nx, ↓z_rt, ↓z_br, ↓z_ct, ↓z_ex, ↓z_nil, ↓z_ret, ↓z_expr, ↓z_for, ↓z_par, ↓z_try0, ↓z_try1, ↓z_tests_nil, ↓z_var, ↓z_non, ↓z_bl, ↓z_int, ↓z_str, ↓z_gint, ↓z_bop, ↓z_neg, ↓z_not, ↓z_cmp, ↓z_cmp2, ↓z_and, ↓z_or, ↓z_ite, ↓z_tup, ↓z_lst, ↓z_ix, ↓z_slice, ↓z_o_nil, ↓z_o_cons, ↓z_sl_tup, ↓z_sl_loc, ↓z_call, ↓z_bi, ↓z_meth, ↓z_isin, ↓z_xfld, ↓z_xis, ↓z_es_nil, ↓z_es_cons, ↓z_i_seq, ↓z_i_rng1, ↓z_i_rng2, ↓z_i_zip, ↓z_lc, ↓z_lcF, ↓z_t_cons, ↓z_asg, ↓z_if, ↓z_raise, ↓z_forF, ↓z_aug, ↓z_asgS, ↓z_brk, ↓z_cnt, ↓z_pass, ↓z_ret0, ↓z_whl, ↓z_add, ↓z_sub, ↓z_mul, ↓z_div, ↓z_mod, ↓z_pow, ↓z_addt, ↓z_eq, ↓z_ne, ↓z_lt, ↓z_le, ↓z_gt, ↓z_ge, ↓z_is_b, ↓z_is_n, ↓z_is_i, ↓z_is_t, ↓z_no_b, ↓z_no_n, ↓z_no_i, ↓z_no_t, ↓z_gadd, ↓z_gsub, ↓z_gmul, ↓z_gdiv, ↓z_gmod, ↓z_len_t, ↓z_len_l, ↓z_tuple, ↓z_list, ↓z_int_i, ↓z_int_b, ↓z_bool_i, ↓z_bool_b, ↓z_abs, ↓z_min2, ↓z_max2, ↓z_sum, ↓z_app, ↓z_pop, startD, seq_tup, ty_ii, ty_ib, ty_it, ty_bi, ty_bb, ty_bt, ty_tt, ty_ti, ty_tb, ty_n, ty_st, ty_si, tr_bl, tr_int, tr_non, set_slot, set_nil, set_cons, sets_nil, sets_cons, wipe_nil, wipe_cons, gv_0, sv_0, gv_1, sv_1, gv_2, sv_2, gv_3, sv_3, gv_4, sv_4, gv_5, sv_5, gv_6, sv_6, gv_7, sv_7, gv_8, sv_8, gv_9, sv_9, gv_10, sv_10, gv_11, sv_11, gv_12, sv_12, gv_13, sv_13, gv_14, sv_14, gv_15, sv_15, gv_16, sv_16, gv_17, sv_17, gv_18, sv_18, gv_19, sv_19, gv_20, sv_20, gv_21, sv_21, gv_22, sv_22, gv_23, sv_23, Option.bind_some, at0, at1, at2, at3, set0, set1, set2, set3, mr_app, mr_ext, mr_pop, eqv_int, seq_end, at_end, set_end, at_e1, set_e1, seq_e1, at_e2, set_e2, seq_e2, at_e3, set_e3, seq_e3, at_e4, set_e4, seq_e4, pure_int, pure_bl, pure_non, pure_str, pure_tup, pures_nil, pures_cons, mul_l, mul_r, it_tup, it_loc, zip_tup, fu_items, fu_live, fu_zip]
    rw [z_cons]
    simp [↓z_some, ↓z_none, ↓z_ok, ↓z_exc, ↓z_bind, ↓z_wr, ↓z_ws, ↓z_ow, ↓z_nx, ↓z_rt, ↓z_br, ↓z_ct, ↓z_ex, ↓z_nil, ↓z_ret, ↓z_expr, ↓z_for, ↓z_par, ↓z_try0, ↓z_try1, ↓z_tests_nil, ↓z_var, ↓z_non, ↓z_bl, ↓z_int, ↓z_str, ↓z_gint, ↓z_bop, ↓z_neg, ↓z_not, ↓z_cmp, ↓z_cmp2, ↓z_and, ↓z_or, ↓z_ite, ↓z_tup, ↓z_lst, ↓z_ix, ↓z_slice, ↓z_o_nil, ↓z_o_cons, ↓z_sl_tup, ↓z_sl_loc, ↓z_call, ↓z_bi, ↓z_meth, ↓z_isin, ↓z_xfld, ↓z_xis, ↓z_es_nil, ↓z_es_cons, ↓z_i_seq, ↓z_i_rng1, ↓z_i_rng2, ↓z_i_zip, ↓z_lc, ↓z_lcF, ↓z_t_cons, ↓z_asg, ↓z_if, ↓z_raise, ↓z_forF, ↓z_aug, ↓z_asgS, ↓z_brk, ↓z_cnt, ↓z_pass, ↓z_ret0, ↓z_whl, ↓z_add, ↓z_sub, ↓z_mul, ↓z_div, ↓z_mod, ↓z_pow, ↓z_addt, ↓z_eq, ↓z_ne, ↓z_lt, ↓z_le, ↓z_gt, ↓z_ge, ↓z_is_b, ↓z_is_n, ↓z_is_i, ↓z_is_t, ↓z_no_b, ↓z_no_n, ↓z_no_i, ↓z_no_t, ↓z_gadd, ↓z_gsub, ↓z_gmul, ↓z_gdiv, ↓z_gmod, ↓z_len_t, ↓z_len_l, ↓z_tuple, ↓z_list, ↓z_int_i, ↓z_int_b, ↓z_bool_i, ↓z_bool_b, ↓z_abs, ↓z_min2, ↓z_max2, ↓z_sum, ↓z_app, ↓z_pop, startD, seq_tup, ty_ii, ty_ib, ty_it, ty_bi, ty_bb, ty_bt, ty_tt, ty_ti, ty_tb, ty_n, ty_st, ty_si, tr_bl, tr_int, tr_non, set_slot, set_nil, set_cons, sets_nil, sets_cons, wipe_nil, wipe_cons, gv_0, sv_0, gv_1, sv_1, gv_2, sv_2, gv_3, sv_3, gv_4, sv_4, gv_5, sv_5, gv_6, sv_6, gv_7, sv_7, gv_8, sv_8, gv_9, sv_9, gv_10, sv_10, gv_11, sv_11, gv_12, sv_12, gv_13, sv_13, gv_14, sv_14, gv_15, sv_15, gv_16, sv_16, gv_17, sv_17, gv_18, sv_18, gv_19, sv_19, gv_20, sv_20, gv_21, sv_21, gv_22, sv_22, gv_23, sv_23, Option.bind_some, at0, at1, at2, at3, set0, set1, set2, set3, mr_app, mr_ext, mr_pop, eqv_int, seq_end, at_end, set_end, at_e1, set_e1, seq_e1, at_e2, set_e2, seq_e2, at_e3, set_e3, seq_e3, at_e4, set_e4, seq_e4, pure_int, pure_bl, pure_non, pure_str, pure_tup, pures_nil, pures_cons, mul_l, mul_r, it_tup, it_loc, zip_tup, fu_items, fu_live, fu_zip, c2]
    rw [z_cons]
    refine wp_cut (fun env μ => env = [some (.loc 0), some (.loc l3), some (.int k), some (eM M), some (eL l), some (.int st), some (eM M'), some (ffD M M' l), none, none, none, none, none, d, none] ∧ μ = μ5) ?_ ?_
    · simp [↓z_some, ↓z_none, ↓z_ok, ↓z_exc, ↓z_bind, ↓z_wr, ↓z_ws, ↓z_ow, ↓z_nx, ↓z_rt, ↓z_br, ↓z_ct, ↓z_ex, ↓z_cons, ↓z_nil, ↓z_ret, ↓z_expr, ↓z_for, ↓z_par, ↓z_try0, ↓z_try1, ↓z_tests_nil, ↓z_var, ↓z_non, ↓z_bl, ↓z_int, ↓z_str, ↓z_gint, ↓z_bop, ↓z_neg, ↓z_not, ↓z_cmp, ↓z_cmp2, ↓z_and, ↓z_or, ↓z_ite, ↓z_tup, ↓z_lst, ↓z_ix, ↓z_slice, ↓z_o_nil, ↓z_o_cons, ↓z_sl_tup, ↓z_sl_loc, ↓z_call, ↓z_bi, ↓z_meth, ↓z_isin, ↓z_xfld, ↓z_xis, ↓z_es_nil, ↓z_es_cons, ↓z_i_seq, ↓z_i_rng1, ↓z_i_rng2, ↓z_i_zip, ↓z_lc, ↓z_lcF, ↓z_t_cons, ↓z_asg, ↓z_if, ↓z_raise, ↓z_forF, ↓z_aug, ↓z_asgS, ↓z_brk, ↓z_cnt, ↓z_pass, ↓z_ret0, ↓z_whl, ↓z_add, ↓z_sub, ↓z_mul, ↓z_div, ↓z_mod, ↓z_pow, ↓z_addt, ↓z_eq, ↓z_ne, ↓z_lt, ↓z_le, ↓z_gt, ↓z_ge, ↓z_is_b, ↓z_is_n, ↓z_is_i, ↓z_is_t, ↓z_no_b, ↓z_no_n, ↓z_no_i, ↓z_no_t, ↓z_gadd, ↓z_gsub, ↓z_gmul, ↓z_gdiv, ↓z_gmod, ↓z_len_t, ↓z_len_l, ↓z_tuple, ↓z_list, ↓z_int_i, ↓z_int_b, ↓z_bool_i, ↓z_bool_b, ↓z_abs, ↓z_min2, ↓z_max2, ↓z_sum, ↓z_app, ↓z_pop, startD, seq_tup, ty_ii, ty_ib, ty_it, ty_bi, ty_bb, ty_bt, ty_tt, ty_ti, ty_tb, ty_n, ty_st, ty_si, tr_bl, tr_int, tr_non, set_slot, set_nil, set_cons, sets_nil, sets_cons, wipe_nil, wipe_cons, gv_0, sv_0, gv_1, sv_1, gv_2, sv_2, gv_3, sv_3, gv_4, sv_4, gv_5, sv_5, gv_6, sv_6, gv_7, sv_7, gv_8, sv_8, gv_9, sv_9, gv_10, sv_10, gv_11, sv_11, gv_12, sv_12, gv_13, sv_13, gv_14, sv_14, gv_15, sv_15, gv_16, sv_16, gv_17, sv_17, gv_18, sv_18, gv_19, sv_19, gv_20, sv_20, gv_21, sv_21, gv_22, sv_22, gv_23, sv_23, Option.bind_some, at0, at1, at2, at3, set0, set1, set2, set3, mr_app, mr_ext, mr_pop, eqv_int, seq_end, at_end, set_end, at_e1, set_e1, seq_e1, at_e2, set_e2, seq_e2, at_e3, set_e3, seq_e3, at_e4, set_e4, seq_e4, pure_int, pure_bl, pure_non, pure_str, pure_tup, pures_nil, pures_cons, mul_l, mul_r, it_tup, it_loc, zip_tup, fu_items, fu_live, fu_zip, c3, c4, c5, ff_eq, ↓isn]
    rintro env μ ⟨rfl, rfl⟩
    try simp [↓z_some, ↓z_none, ↓z_ok, ↓z_exc, ↓z_bind, ↓z_wr, ↓z_ws, ↓z_ow, ↓z_nx, ↓z_rt, ↓z_br, ↓z_ct, ↓z_ex, ↓z_nil, ↓z_ret, ↓z_expr, ↓z_for, ↓z_par, ↓z_try0, ↓z_try1, ↓z_tests_nil, ↓z_var, ↓z_non, ↓z_bl, ↓z_int, ↓z_str, ↓z_gint, ↓z_bop, ↓z_neg, ↓z_not, ↓z_cmp, ↓z_cmp2, ↓z_and, ↓z_or, ↓z_ite, ↓z_tup, ↓z_lst, ↓z_ix, ↓z_slice, ↓z_o_nil, ↓z_o_cons, ↓z_sl_tup, ↓z_sl_loc, ↓z_call, ↓z_bi, ↓z_meth, ↓z_isin, ↓z_xfld, ↓z_xis, ↓z_es_nil, ↓z_es_cons, ↓z_i_seq, ↓z_i_rng1, ↓z_i_rng2, ↓z_i_zip, ↓z_lc, ↓z_lcF, ↓z_t_cons, ↓z_asg, ↓z_if, ↓z_raise, ↓z_forF, ↓z_aug, ↓z_asgS, ↓z_brk, ↓z_cnt, ↓z_pass, ↓z_ret0, ↓z_whl, ↓z_add, ↓z_sub, ↓z_mul, ↓z_div, ↓z_mod, ↓z_pow, ↓z_addt, ↓z_eq, ↓z_ne, ↓z_lt, ↓z_le, ↓z_gt, ↓z_ge, ↓z_is_b, ↓z_is_n, ↓z_is_i, ↓z_is_t, ↓z_no_b, ↓z_no_n, ↓z_no_i, ↓z_no_t, ↓z_gadd, ↓z_gsub, ↓z_gmul, ↓z_gdiv, ↓z_gmod, ↓z_len_t, ↓z_len_l, ↓z_tuple, ↓z_list, ↓z_int_i, ↓z_int_b, ↓z_bool_i, ↓z_bool_b, ↓z_abs, ↓z_min2, ↓z_max2, ↓z_sum, ↓z_app, ↓z_pop, startD, seq_tup, ty_ii, ty_ib, ty_it, ty_bi, ty_bb, ty_bt, ty_tt, ty_ti, ty_tb, ty_n, ty_st, ty_si, tr_bl, tr_int, tr_non, set_slot, set_nil, set_cons, sets_nil, sets_cons, wipe_nil, wipe_cons, gv_0, sv_0, gv_1, sv_1, gv_2, sv_2, gv_3, sv_3, gv_4, sv_4, gv_5, sv_5, gv_6, sv_6, gv_7, sv_7, gv_8, sv_8, gv_9, sv_9, gv_10, sv_10, gv_11, sv_11, gv_12, sv_12, gv_13, sv_13, gv_14, sv_14, gv_15, sv_15, gv_16, sv_16, gv_17, sv_17, gv_18, sv_18, gv_19, sv_19, gv_20, sv_20, gv_21, sv_21, gv_22, sv_22, gv_23, sv_23, Option.bind_some, at0, at1, at2, at3, set0, set1, set2, set3, mr_app, mr_ext, mr_pop, eqv_int, seq_end, at_end, set_end, at_e1, set_e1, seq_e1, at_e2, set_e2, seq_e2, at_e3, set_e3, seq_e3, at_e4, set_e4, seq_e4, pure_int, pure_bl, pure_non, pure_str, pure_tup, pures_nil, pures_cons, mul_l, mul_r, it_tup, it_loc, zip_tup, fu_items, fu_live, fu_zip]
    rw [z_cons]
    refine wp_cut (fun env μ1 => env = [some (.loc 0), some (.loc l3), some (.int k), some (eM M), some (eL l), some (.int st), some (eM M'), some (ffD M M' l), none, none, none, none, none, d, none] ∧ μ1 = μ) ?_ ?_
    · cases hff : ff M M' l with
      | none =>
        have e : ffD M M' l = .non := by unfold ffD; rw [hff]
        simp [↓z_some, ↓z_none, ↓z_ok, ↓z_exc, ↓z_bind, ↓z_wr, ↓z_ws, ↓z_ow, ↓z_nx, ↓z_rt, ↓z_br, ↓z_ct, ↓z_ex, ↓z_cons, ↓z_nil, ↓z_ret, ↓z_expr, ↓z_for, ↓z_par, ↓z_try0, ↓z_try1, ↓z_tests_nil, ↓z_var, ↓z_non, ↓z_bl, ↓z_int, ↓z_str, ↓z_gint, ↓z_bop, ↓z_neg, ↓z_not, ↓z_cmp, ↓z_cmp2, ↓z_and, ↓z_or, ↓z_ite, ↓z_tup, ↓z_lst, ↓z_ix, ↓z_slice, ↓z_o_nil, ↓z_o_cons, ↓z_sl_tup, ↓z_sl_loc, ↓z_call, ↓z_bi, ↓z_meth, ↓z_isin, ↓z_xfld, ↓z_xis, ↓z_es_nil, ↓z_es_cons, ↓z_i_seq, ↓z_i_rng1, ↓z_i_rng2, ↓z_i_zip, ↓z_lc, ↓z_lcF, ↓z_t_cons, ↓z_asg, ↓z_if, ↓z_raise, ↓z_forF, ↓z_aug, ↓z_asgS, ↓z_brk, ↓z_cnt, ↓z_pass, ↓z_ret0, ↓z_whl, ↓z_add, ↓z_sub, ↓z_mul, ↓z_div, ↓z_mod, ↓z_pow, ↓z_addt, ↓z_eq, ↓z_ne, ↓z_lt, ↓z_le, ↓z_gt, ↓z_ge, ↓z_is_b, ↓z_is_n, ↓z_is_i, ↓z_is_t, ↓z_no_b, ↓z_no_n, ↓z_no_i, ↓z_no_t, ↓z_gadd, ↓z_gsub, ↓z_gmul, ↓z_gdiv, ↓z_gmod, ↓z_len_t, ↓z_len_l, ↓z_tuple, ↓z_list, ↓z_int_i, ↓z_int_b, ↓z_bool_i, ↓z_bool_b, ↓z_abs, ↓z_min2, ↓z_max2, ↓z_sum, ↓z_app, ↓z_pop, startD, seq_tup, ty_ii, ty_ib, ty_it, ty_bi, ty_bb, ty_bt, ty_tt, ty_ti, ty_tb, ty_n, ty_st, ty_si, tr_bl, tr_int, tr_non, set_slot, set_nil, set_cons, sets_nil, sets_cons, wipe_nil, wipe_cons, gv_0, sv_0, gv_1, sv_1, gv_2, sv_2, gv_3, sv_3, gv_4, sv_4, gv_5, sv_5, gv_6, sv_6, gv_7, sv_7, gv_8, sv_8, gv_9, sv_9, gv_10, sv_10, gv_11, sv_11, gv_12, sv_12, gv_13, sv_13, gv_14, sv_14, gv_15, sv_15, gv_16, sv_16, gv_17, sv_17, gv_18, sv_18, gv_19, sv_19, gv_20, sv_20, gv_21, sv_21, gv_22, sv_22, gv_23, sv_23, Option.bind_some, at0, at1, at2, at3, set0, set1, set2, set3, mr_app, mr_ext, mr_pop, eqv_int, seq_end, at_end, set_end, at_e1, set_e1, seq_e1, at_e2, set_e2, seq_e2, at_e3, set_e3, seq_e3, at_e4, set_e4, seq_e4, pure_int, pure_bl, pure_non, pure_str, pure_tup, pures_nil, pures_cons, mul_l, mul_r, it_tup, it_loc, zip_tup, fu_items, fu_live, fu_zip, e]
      | some i =>
        have e : ffD M M' l = .int i := by unfold ffD; rw [hff]
        rw [e] at c3
        simp [↓z_some, ↓z_none, ↓z_ok, ↓z_exc, ↓z_bind, ↓z_wr, ↓z_ws, ↓z_ow, ↓z_nx, ↓z_rt, ↓z_br, ↓z_ct, ↓z_ex, ↓z_cons, ↓z_nil, ↓z_ret, ↓z_expr, ↓z_for, ↓z_par, ↓z_try0, ↓z_try1, ↓z_tests_nil, ↓z_var, ↓z_non, ↓z_bl, ↓z_int, ↓z_str, ↓z_gint, ↓z_bop, ↓z_neg, ↓z_not, ↓z_cmp, ↓z_cmp2, ↓z_and, ↓z_or, ↓z_ite, ↓z_tup, ↓z_lst, ↓z_ix, ↓z_slice, ↓z_o_nil, ↓z_o_cons, ↓z_sl_tup, ↓z_sl_loc, ↓z_call, ↓z_bi, ↓z_meth, ↓z_isin, ↓z_xfld, ↓z_xis, ↓z_es_nil, ↓z_es_cons, ↓z_i_seq, ↓z_i_rng1, ↓z_i_rng2, ↓z_i_zip, ↓z_lc, ↓z_lcF, ↓z_t_cons, ↓z_asg, ↓z_if, ↓z_raise, ↓z_forF, ↓z_aug, ↓z_asgS, ↓z_brk, ↓z_cnt, ↓z_pass, ↓z_ret0, ↓z_whl, ↓z_add, ↓z_sub, ↓z_mul, ↓z_div, ↓z_mod, ↓z_pow, ↓z_addt, ↓z_eq, ↓z_ne, ↓z_lt, ↓z_le, ↓z_gt, ↓z_ge, ↓z_is_b, ↓z_is_n, ↓z_is_i, ↓z_is_t, ↓z_no_b, ↓z_no_n, ↓z_no_i, ↓z_no_t, ↓z_gadd, ↓z_gsub, ↓z_gmul, ↓z_gdiv, ↓z_gmod, ↓z_len_t, ↓z_len_l, ↓z_tuple, ↓z_list, ↓z_int_i, ↓z_int_b, ↓z_bool_i, ↓z_bool_b, ↓z_abs, ↓z_min2, ↓z_max2, ↓z_sum, ↓z_app, ↓z_pop, startD, seq_tup, ty_ii, ty_ib, ty_it, ty_bi, ty_bb, ty_bt, ty_tt, ty_ti, ty_tb, ty_n, ty_st, ty_si, tr_bl, tr_int, tr_non, set_slot, set_nil, set_cons, sets_nil, sets_cons, wipe_nil, wipe_cons, gv_0, sv_0, gv_1, sv_1, gv_2, sv_2, gv_3, sv_3, gv_4, sv_4, gv_5, sv_5, gv_6, sv_6, gv_7, sv_7, gv_8, sv_8, gv_9, sv_9, gv_10, sv_10, gv_11, sv_11, gv_12, sv_12, gv_13, sv_13, gv_14, sv_14, gv_15, sv_15, gv_16, sv_16, gv_17, sv_17, gv_18, sv_18, gv_19, sv_19, gv_20, sv_20, gv_21, sv_21, gv_22, sv_22, gv_23, sv_23, Option.bind_some, at0, at1, at2, at3, set0, set1, set2, set3, mr_app, mr_ext, mr_pop, eqv_int, seq_end, at_end, set_end, at_e1, set_e1, seq_e1, at_e2, set_e2, seq_e2, at_e3, set_e3, seq_e3, at_e4, set_e4, seq_e4, pure_int, pure_bl, pure_non, pure_str, pure_tup, pures_nil, pures_cons, mul_l, mul_r, it_tup, it_loc, zip_tup, fu_items, fu_live, fu_zip, e, c3, c6]
    rintro env μ ⟨rfl, rfl⟩
    try simp [↓z_some, ↓z_none, ↓z_ok, ↓z_exc, ↓z_bind, ↓z_wr, ↓z_ws, ↓z_ow, ↓z_nx, ↓z_rt, ↓z_br, ↓z_ct, ↓z_ex, ↓z_nil, ↓z_ret, ↓z_expr, ↓z_for, ↓z_par, ↓z_try0, ↓z_try1, ↓z_tests_nil, ↓z_var, ↓z_non, ↓z_bl, ↓z_int, ↓z_str, ↓z_gint, ↓z_bop, ↓z_neg, ↓z_not, ↓z_cmp, ↓z_cmp2, ↓z_and, ↓z_or, ↓z_ite, ↓z_tup, ↓z_lst, ↓z_ix, ↓z_slice, ↓z_o_nil, ↓z_o_cons, ↓z_sl_tup, ↓z_sl_loc, ↓z_call, ↓z_bi, ↓z_meth, ↓z_isin, ↓z_xfld, ↓z_xis, ↓z_es_nil, ↓z_es_cons, ↓z_i_seq, ↓z_i_rng1, ↓z_i_rng2, ↓z_i_zip, ↓z_lc, ↓z_lcF, ↓z_t_cons, ↓z_asg, ↓z_if, ↓z_raise, ↓z_forF, ↓z_aug, ↓z_asgS, ↓z_brk, ↓z_cnt, ↓z_pass, ↓z_ret0, ↓z_whl, ↓z_add, ↓z_sub, ↓z_mul, ↓z_div, ↓z_mod, ↓z_pow, ↓z_addt, ↓z_eq, ↓z_ne, ↓z_lt, ↓z_le, ↓z_gt, ↓z_ge, ↓z_is_b, ↓z_is_n, ↓z_is_i, ↓z_is_t, ↓z_no_b, ↓z_no_n, ↓z_no_i, ↓z_no_t, ↓z_gadd, ↓z_gsub, ↓z_gmul, ↓z_gdiv, ↓z_gmod, ↓z_len_t, ↓z_len_l, ↓z_tuple, ↓z_list, ↓z_int_i, ↓z_int_b, ↓z_bool_i, ↓z_bool_b, ↓z_abs, ↓z_min2, ↓z_max2, ↓z_sum, ↓z_app, ↓z_pop, startD, seq_tup, ty_ii, ty_ib, ty_it, ty_bi, ty_bb, ty_bt, ty_tt, ty_ti, ty_tb, ty_n, ty_st, ty_si, tr_bl, tr_int, tr_non, set_slot, set_nil, set_cons, sets_nil, sets_cons, wipe_nil, wipe_cons, gv_0, sv_0, gv_1, sv_1, gv_2, sv_2, gv_3, sv_3, gv_4, sv_4, gv_5, sv_5, gv_6, sv_6, gv_7, sv_7, gv_8, sv_8, gv_9, sv_9, gv_10, sv_10, gv_11, sv_11, gv_12, sv_12, gv_13, sv_13, gv_14, sv_14, gv_15, sv_15, gv_16, sv_16, gv_17, sv_17, gv_18, sv_18, gv_19, sv_19, gv_20, sv_20, gv_21, sv_21, gv_22, sv_22, gv_23, sv_23, Option.bind_some, at0, at1, at2, at3, set0, set1, set2, set3, mr_app, mr_ext, mr_pop, eqv_int, seq_end, at_end, set_end, at_e1, set_e1, seq_e1, at_e2, set_e2, seq_e2, at_e3, set_e3, seq_e3, at_e4, set_e4, seq_e4, pure_int, pure_bl, pure_non, pure_str, pure_tup, pures_nil, pures_cons, mul_l, mul_r, it_tup, it_loc, zip_tup, fu_items, fu_live, fu_zip]
    rw [z_cons]
    have W0 := W.few
    (try simp [↓z_some, ↓z_none, ↓z_ok, ↓z_exc, ↓z_bind, ↓z_wr, ↓z_ws, ↓z_ow, ↓z_nx, ↓z_rt, ↓z_br, ↓z_ct, ↓z_ex, ↓z_cons, ↓z_nil, ↓z_ret, ↓z_expr, ↓z_for, ↓z_par, ↓z_try0, ↓z_try1, ↓z_tests_nil, ↓z_var, ↓z_non, ↓z_bl, ↓z_int, ↓z_str, ↓z_gint, ↓z_bop, ↓z_neg, ↓z_not, ↓z_cmp, ↓z_cmp2, ↓z_and, ↓z_or, ↓z_ite, ↓z_tup, ↓z_lst, ↓z_ix, ↓z_slice, ↓z_o_nil, ↓z_o_cons, ↓z_sl_tup, ↓z_sl_loc, ↓z_call, ↓z_bi, ↓z_meth, ↓z_isin, ↓z_xfld, ↓z_xis, ↓z_es_nil, ↓z_es_cons, ↓z_i_seq, ↓z_i_rng1, ↓z_i_rng2, ↓z_i_zip, ↓z_lc, ↓z_lcF, ↓z_t_cons, ↓z_asg, ↓z_if, ↓z_raise, ↓z_forF, ↓z_aug, ↓z_asgS, ↓z_brk, ↓z_cnt, ↓z_pass, ↓z_ret0, ↓z_whl, ↓z_add, ↓z_sub, ↓z_mul, ↓z_div, ↓z_mod, ↓z_pow, ↓z_addt, ↓z_eq, ↓z_ne, ↓z_lt, ↓z_le, ↓z_gt, ↓z_ge, ↓z_is_b, ↓z_is_n, ↓z_is_i, ↓z_is_t, ↓z_no_b, ↓z_no_n, ↓z_no_i, ↓z_no_t, ↓z_gadd, ↓z_gsub, ↓z_gmul, ↓z_gdiv, ↓z_gmod, ↓z_len_t, ↓z_len_l, ↓z_tuple, ↓z_list, ↓z_int_i, ↓z_int_b, ↓z_bool_i, ↓z_bool_b, ↓z_abs, ↓z_min2, ↓z_max2, ↓z_sum, ↓z_app, ↓z_pop, startD, seq_tup, ty_ii, ty_ib, ty_it, ty_bi, ty_bb, ty_bt, ty_tt, ty_ti, ty_tb, ty_n, ty_st, ty_si, tr_bl, tr_int, tr_non, set_slot, set_nil, set_cons, sets_nil, sets_cons, wipe_nil, wipe_cons, gv_0, sv_0, gv_1, sv_1, gv_2, sv_2, gv_3, sv_3, gv_4, sv_4, gv_5, sv_5, gv_6, sv_6, gv_7, sv_7, gv_8, sv_8, gv_9, sv_9, gv_10, sv_10, gv_11, sv_11, gv_12, sv_12, gv_13, sv_13, gv_14, sv_14, gv_15, sv_15, gv_16, sv_16, gv_17, sv_17, gv_18, sv_18, gv_19, sv_19, gv_20, sv_20, gv_21, sv_21, gv_22, sv_22, gv_23, sv_23, Option.bind_some, at0, at1, at2, at3, set0, set1, set2, set3, mr_app, mr_ext, mr_pop, eqv_int, seq_end, at_end, set_end, at_e1, set_e1, seq_e1, at_e2, set_e2, seq_e2, at_e3, set_e3, seq_e3, at_e4, set_e4, seq_e4, pure_int, pure_bl, pure_non, pure_str, pure_tup, pures_nil, pures_cons, mul_l, mul_r, it_tup, it_loc, zip_tup, fu_items, fu_live, fu_zip])
    refine row_wp F2 (by omega) (by omega) (by omega) fun q1 N8 c8 a1 a2 a3 a4 F3 => ?_
    (try simp only [List.set_set] at F3 ⊢)
    simp [↓z_some, ↓z_none, ↓z_ok, ↓z_exc, ↓z_bind, ↓z_wr, ↓z_ws, ↓z_ow, ↓z_nx, ↓z_rt, ↓z_br, ↓z_ct, ↓z_ex, ↓z_cons, ↓z_nil, ↓z_ret, ↓z_expr, ↓z_for, ↓z_par, ↓z_try0, ↓z_try1, ↓z_tests_nil, ↓z_var, ↓z_non, ↓z_bl, ↓z_int, ↓z_str, ↓z_gint, ↓z_bop, ↓z_neg, ↓z_not, ↓z_cmp, ↓z_cmp2, ↓z_and, ↓z_or, ↓z_ite, ↓z_tup, ↓z_lst, ↓z_ix, ↓z_slice, ↓z_o_nil, ↓z_o_cons, ↓z_sl_tup, ↓z_sl_loc, ↓z_call, ↓z_bi, ↓z_meth, ↓z_isin, ↓z_xfld, ↓z_xis, ↓z_es_nil, ↓z_es_cons, ↓z_i_seq, ↓z_i_rng1, ↓z_i_rng2, ↓z_i_zip, ↓z_lc, ↓z_lcF, ↓z_t_cons, ↓z_asg, ↓z_if, ↓z_raise, ↓z_forF, ↓z_aug, ↓z_asgS, ↓z_brk, ↓z_cnt, ↓z_pass, ↓z_ret0, ↓z_whl, ↓z_add, ↓z_sub, ↓z_mul, ↓z_div, ↓z_mod, ↓z_pow, ↓z_addt, ↓z_eq, ↓z_ne, ↓z_lt, ↓z_le, ↓z_gt, ↓z_ge, ↓z_is_b, ↓z_is_n, ↓z_is_i, ↓z_is_t, ↓z_no_b, ↓z_no_n, ↓z_no_i, ↓z_no_t, ↓z_gadd, ↓z_gsub, ↓z_gmul, ↓z_gdiv, ↓z_gmod, ↓z_len_t, ↓z_len_l, ↓z_tuple, ↓z_list, ↓z_int_i, ↓z_int_b, ↓z_bool_i, ↓z_bool_b, ↓z_abs, ↓z_min2, ↓z_max2, ↓z_sum, ↓z_app, ↓z_pop, startD, seq_tup, ty_ii, ty_ib, ty_it, ty_bi, ty_bb, ty_bt, ty_tt, ty_ti, ty_tb, ty_n, ty_st, ty_si, tr_bl, tr_int, tr_non, set_slot, set_nil, set_cons, sets_nil, sets_cons, wipe_nil, wipe_cons, gv_0, sv_0, gv_1, sv_1, gv_2, sv_2, gv_3, sv_3, gv_4, sv_4, gv_5, sv_5, gv_6, sv_6, gv_7, sv_7, gv_8, sv_8, gv_9, sv_9, gv_10, sv_10, gv_11, sv_11, gv_12, sv_12, gv_13, sv_13, gv_14, sv_14, gv_15, sv_15, gv_16, sv_16, gv_17, sv_17, gv_18, sv_18, gv_19, sv_19, gv_20, sv_20, gv_21, sv_21, gv_22, sv_22, gv_23, sv_23, Option.bind_some, at0, at1, at2, at3, set0, set1, set2, set3, mr_app, mr_ext, mr_pop, eqv_int, seq_end, at_end, set_end, at_e1, set_e1, seq_e1, at_e2, set_e2, seq_e2, at_e3, set_e3, seq_e3, at_e4, set_e4, seq_e4, pure_int, pure_bl, pure_non, pure_str, pure_tup, pures_nil, pures_cons, mul_l, mul_r, it_tup, it_loc, zip_tup, fu_items, fu_live, fu_zip, ↓z_add_eR]
    refine ⟨by omega, ?_⟩
    refine row_wp F3.re (by omega) (by omega) (by omega) fun q2 N9 c9 b1 b2 b3 b4 F4 => ?_
    (try simp only [List.set_set] at F4 ⊢)
    have e1 : D.tup (q1.map D.int ++ D.int k :: q2.map D.int) = eR (q1 ++ (k : Int) :: q2) := by simp [eR]
    simp [↓z_some, ↓z_none, ↓z_ok, ↓z_exc, ↓z_bind, ↓z_wr, ↓z_ws, ↓z_ow, ↓z_nx, ↓z_rt, ↓z_br, ↓z_ct, ↓z_ex, ↓z_cons, ↓z_nil, ↓z_ret, ↓z_expr, ↓z_for, ↓z_par, ↓z_try0, ↓z_try1, ↓z_tests_nil, ↓z_var, ↓z_non, ↓z_bl, ↓z_int, ↓z_str, ↓z_gint, ↓z_bop, ↓z_neg, ↓z_not, ↓z_cmp, ↓z_cmp2, ↓z_and, ↓z_or, ↓z_ite, ↓z_tup, ↓z_lst, ↓z_ix, ↓z_slice, ↓z_o_nil, ↓z_o_cons, ↓z_sl_tup, ↓z_sl_loc, ↓z_call, ↓z_bi, ↓z_meth, ↓z_isin, ↓z_xfld, ↓z_xis, ↓z_es_nil, ↓z_es_cons, ↓z_i_seq, ↓z_i_rng1, ↓z_i_rng2, ↓z_i_zip, ↓z_lc, ↓z_lcF, ↓z_t_cons, ↓z_asg, ↓z_if, ↓z_raise, ↓z_forF, ↓z_aug, ↓z_asgS, ↓z_brk, ↓z_cnt, ↓z_pass, ↓z_ret0, ↓z_whl, ↓z_add, ↓z_sub, ↓z_mul, ↓z_div, ↓z_mod, ↓z_pow, ↓z_addt, ↓z_eq, ↓z_ne, ↓z_lt, ↓z_le, ↓z_gt, ↓z_ge, ↓z_is_b, ↓z_is_n, ↓z_is_i, ↓z_is_t, ↓z_no_b, ↓z_no_n, ↓z_no_i, ↓z_no_t, ↓z_gadd, ↓z_gsub, ↓z_gmul, ↓z_gdiv, ↓z_gmod, ↓z_len_t, ↓z_len_l, ↓z_tuple, ↓z_list, ↓z_int_i, ↓z_int_b, ↓z_bool_i, ↓z_bool_b, ↓z_abs, ↓z_min2, ↓z_max2, ↓z_sum, ↓z_app, ↓z_pop, startD, seq_tup, ty_ii, ty_ib, ty_it, ty_bi, ty_bb, ty_bt, ty_tt, ty_ti, ty_tb, ty_n, ty_st, ty_si, tr_bl, tr_int, tr_non, set_slot, set_nil, set_cons, sets_nil, sets_cons, wipe_nil, wipe_cons, gv_0, sv_0, gv_1, sv_1, gv_2, sv_2, gv_3, sv_3, gv_4, sv_4, gv_5, sv_5, gv_6, sv_6, gv_7, sv_7, gv_8, sv_8, gv_9, sv_9, gv_10, sv_10, gv_11, sv_11, gv_12, sv_12, gv_13, sv_13, gv_14, sv_14, gv_15, sv_15, gv_16, sv_16, gv_17, sv_17, gv_18, sv_18, gv_19, sv_19, gv_20, sv_20, gv_21, sv_21, gv_22, sv_22, gv_23, sv_23, Option.bind_some, at0, at1, at2, at3, set0, set1, set2, set3, mr_app, mr_ext, mr_pop, eqv_int, seq_end, at_end, set_end, at_e1, set_e1, seq_e1, at_e2, set_e2, seq_e2, at_e3, set_e3, seq_e3, at_e4, set_e4, seq_e4, pure_int, pure_bl, pure_non, pure_str, pure_tup, pures_nil, pures_cons, mul_l, mul_r, it_tup, it_loc, zip_tup, fu_items, fu_live, fu_zip, ↓z_add_tR, e1, ↓z_len_eL]
    refine ⟨by omega, ?_⟩
    refine take_fr F4.re (by omega) (by omega) fun at' N10 c10 d1 d2 d3 d4 F5 => ?_
    (try simp only [List.set_set] at F5 ⊢)
    have e2 : cutD (l.map eR) none (some at') = (l.take at'.toNat).map eR := by rw [cut_lo d1, List.map_take]
    have e3 : cutD (l.map eR) (some at') none = (l.drop at'.toNat).map eR := by rw [cut_hi d1, List.map_drop]
    simp [↓z_some, ↓z_none, ↓z_ok, ↓z_exc, ↓z_bind, ↓z_wr, ↓z_ws, ↓z_ow, ↓z_nx, ↓z_rt, ↓z_br, ↓z_ct, ↓z_ex, ↓z_cons, ↓z_nil, ↓z_ret, ↓z_expr, ↓z_for, ↓z_par, ↓z_try0, ↓z_try1, ↓z_tests_nil, ↓z_var, ↓z_non, ↓z_bl, ↓z_int, ↓z_str, ↓z_gint, ↓z_bop, ↓z_neg, ↓z_not, ↓z_cmp, ↓z_cmp2, ↓z_and, ↓z_or, ↓z_ite, ↓z_tup, ↓z_lst, ↓z_ix, ↓z_slice, ↓z_o_nil, ↓z_o_cons, ↓z_sl_tup, ↓z_sl_loc, ↓z_call, ↓z_bi, ↓z_meth, ↓z_isin, ↓z_xfld, ↓z_xis, ↓z_es_nil, ↓z_es_cons, ↓z_i_seq, ↓z_i_rng1, ↓z_i_rng2, ↓z_i_zip, ↓z_lc, ↓z_lcF, ↓z_t_cons, ↓z_asg, ↓z_if, ↓z_raise, ↓z_forF, ↓z_aug, ↓z_asgS, ↓z_brk, ↓z_cnt, ↓z_pass, ↓z_ret0, ↓z_whl, ↓z_add, ↓z_sub, ↓z_mul, ↓z_div, ↓z_mod, ↓z_pow, ↓z_addt, ↓z_eq, ↓z_ne, ↓z_lt, ↓z_le, ↓z_gt, ↓z_ge, ↓z_is_b, ↓z_is_n, ↓z_is_i, ↓z_is_t, ↓z_no_b, ↓z_no_n, ↓z_no_i, ↓z_no_t, ↓z_gadd, ↓z_gsub, ↓z_gmul, ↓z_gdiv, ↓z_gmod, ↓z_len_t, ↓z_len_l, ↓z_tuple, ↓z_list, ↓z_int_i, ↓z_int_b, ↓z_bool_i, ↓z_bool_b, ↓z_abs, ↓z_min2, ↓z_max2, ↓z_sum, ↓z_app, ↓z_pop, startD, seq_tup, ty_ii, ty_ib, ty_it, ty_bi, ty_bb, ty_bt, ty_tt, ty_ti, ty_tb, ty_n, ty_st, ty_si, tr_bl, tr_int, tr_non, set_slot, set_nil, set_cons, sets_nil, sets_cons, wipe_nil, wipe_cons, gv_0, sv_0, gv_1, sv_1, gv_2, sv_2, gv_3, sv_3, gv_4, sv_4, gv_5, sv_5, gv_6, sv_6, gv_7, sv_7, gv_8, sv_8, gv_9, sv_9, gv_10, sv_10, gv_11, sv_11, gv_12, sv_12, gv_13, sv_13, gv_14, sv_14, gv_15, sv_15, gv_16, sv_16, gv_17, sv_17, gv_18, sv_18, gv_19, sv_19, gv_20, sv_20, gv_21, sv_21, gv_22, sv_22, gv_23, sv_23, Option.bind_some, at0, at1, at2, at3, set0, set1, set2, set3, mr_app, mr_ext, mr_pop, eqv_int, seq_end, at_end, set_end, at_e1, set_e1, seq_e1, at_e2, set_e2, seq_e2, at_e3, set_e3, seq_e3, at_e4, set_e4, seq_e4, pure_int, pure_bl, pure_non, pure_str, pure_tup, pures_nil, pures_cons, mul_l, mul_r, it_tup, it_loc, zip_tup, fu_items, fu_live, fu_zip, ↓z_sl_eL, e2, e3, -List.map_take, -List.map_drop, ↓z_len_eM]
    refine ⟨by omega, by omega, ?_⟩
    refine take_fr F5.re (by omega) (by omega) fun d3 N11 c11 f1 f2 f3 f4 F6 => ?_
    (try simp only [List.set_set] at F6 ⊢)
    have p6 := F6.pu
    generalize μ.set l3 (bagO N11 g3 s3 c11) = μ6 at p6 ⊢
    generalize hb : q1 ++ (k : Int) :: q2 = bad at e1
    have e4 : D.tup ((l.take at'.toNat).map eR ++ eR bad :: (l.drop at'.toNat).map eR) = eL (l.take at'.toNat ++ bad :: l.drop at'.toNat) := by simp [eL]
    have tl : (l.take at'.toNat).length = at'.toNat := by rw [List.length_take]; omega
    have tm : ((l.take at'.toNat).length : Int) = at' := by omega
    have bl : bad.length ≤ 300 := by rw [← hb]; simp; omega
    have bb : ¬ ∀ x ∈ bad, 0 ≤ x ∧ x ≤ (k : Int) - 1 := fun z => by
      have := z k (by rw [← hb]; simp)
      omega
    simp [↓z_some, ↓z_none, ↓z_ok, ↓z_exc, ↓z_bind, ↓z_wr, ↓z_ws, ↓z_ow, ↓z_nx, ↓z_rt, ↓z_br, ↓z_ct, ↓z_ex, ↓z_cons, ↓z_nil, ↓z_ret, ↓z_expr, ↓z_for, ↓z_par, ↓z_try0, ↓z_try1, ↓z_tests_nil, ↓z_var, ↓z_non, ↓z_bl, ↓z_int, ↓z_str, ↓z_gint, ↓z_bop, ↓z_neg, ↓z_not, ↓z_cmp, ↓z_cmp2, ↓z_and, ↓z_or, ↓z_ite, ↓z_tup, ↓z_lst, ↓z_ix, ↓z_slice, ↓z_o_nil, ↓z_o_cons, ↓z_sl_tup, ↓z_sl_loc, ↓z_call, ↓z_bi, ↓z_meth, ↓z_isin, ↓z_xfld, ↓z_xis, ↓z_es_nil, ↓z_es_cons, ↓z_i_seq, ↓z_i_rng1, ↓z_i_rng2, ↓z_i_zip, ↓z_lc, ↓z_lcF, ↓z_t_cons, ↓z_asg, ↓z_if, ↓z_raise, ↓z_forF, ↓z_aug, ↓z_asgS, ↓z_brk, ↓z_cnt, ↓z_pass, ↓z_ret0, ↓z_whl, ↓z_add, ↓z_sub, ↓z_mul, ↓z_div, ↓z_mod, ↓z_pow, ↓z_addt, ↓z_eq, ↓z_ne, ↓z_lt, ↓z_le, ↓z_gt, ↓z_ge, ↓z_is_b, ↓z_is_n, ↓z_is_i, ↓z_is_t, ↓z_no_b, ↓z_no_n, ↓z_no_i, ↓z_no_t, ↓z_gadd, ↓z_gsub, ↓z_gmul, ↓z_gdiv, ↓z_gmod, ↓z_len_t, ↓z_len_l, ↓z_tuple, ↓z_list, ↓z_int_i, ↓z_int_b, ↓z_bool_i, ↓z_bool_b, ↓z_abs, ↓z_min2, ↓z_max2, ↓z_sum, ↓z_app, ↓z_pop, startD, seq_tup, ty_ii, ty_ib, ty_it, ty_bi, ty_bb, ty_bt, ty_tt, ty_ti, ty_tb, ty_n, ty_st, ty_si, tr_bl, tr_int, tr_non, set_slot, set_nil, set_cons, sets_nil, sets_cons, wipe_nil, wipe_cons, gv_0, sv_0, gv_1, sv_1, gv_2, sv_2, gv_3, sv_3, gv_4, sv_4, gv_5, sv_5, gv_6, sv_6, gv_7, sv_7, gv_8, sv_8, gv_9, sv_9, gv_10, sv_10, gv_11, sv_11, gv_12, sv_12, gv_13, sv_13, gv_14, sv_14, gv_15, sv_15, gv_16, sv_16, gv_17, sv_17, gv_18, sv_18, gv_19, sv_19, gv_20, sv_20, gv_21, sv_21, gv_22, sv_22, gv_23, sv_23, Option.bind_some, at0, at1, at2, at3, set0, set1, set2, set3, mr_app, mr_ext, mr_pop, eqv_int, seq_end, at_end, set_end, at_e1, set_e1, seq_e1, at_e2, set_e2, seq_e2, at_e3, set_e3, seq_e3, at_e4, set_e4, seq_e4, pure_int, pure_bl, pure_non, pure_str, pure_tup, pures_nil, pures_cons, mul_l, mul_r, it_tup, it_loc, zip_tup, fu_items, fu_live, fu_zip, e1, e2, e3, e4, -List.map_take, -List.map_drop]
    refine refused_wp p6 W (by omega) (by simp; omega) (fun r hr => hL.ok r (List.mem_of_mem_take hr)) bl bb (by omega) ?_
    rw [tm]
    have ps : D.shps 63 (toldD at' (M.length + d3) M.length) = true := by
      simp [toldD, shps_cons, shps_nil, shp_int, shp_bl, shp_str, shp_tup63, shp_tup62, shp_tup61]
      decide +kernel
    have eq1 : eqM (.loc μ6.length) (.loc (μ6.length + 1)) (μ6 ++ [.lst (toldD at' (M.length + d3) M.length), .lst (toldD at' (M.length + d3) M.length)]) = some true := by
      rw [eqM_lst (at_end rfl) (at_e1 rfl) ps ps, eqv_refl]
    have hn : eqM (.str "number") (.str "number") (μ6 ++ [.lst (toldD at' (M.length + d3) M.length), .lst (toldD at' (M.length + d3) M.length)]) = some true := by
      rw [eqM_shp (by rw [shp_str]; decide +kernel) (by rw [shp_str]; decide +kernel), eqv_refl]
    unfold toldD at eq1 hn ⊢
    have n3 : ¬ ((M.length : Int) + d3 < M.length) := by omega
    simp [↓z_some, ↓z_none, ↓z_ok, ↓z_exc, ↓z_bind, ↓z_wr, ↓z_ws, ↓z_ow, ↓z_nx, ↓z_rt, ↓z_br, ↓z_ct, ↓z_ex, ↓z_cons, ↓z_nil, ↓z_ret, ↓z_expr, ↓z_for, ↓z_par, ↓z_try0, ↓z_try1, ↓z_tests_nil, ↓z_var, ↓z_non, ↓z_bl, ↓z_int, ↓z_str, ↓z_gint, ↓z_bop, ↓z_neg, ↓z_not, ↓z_cmp, ↓z_cmp2, ↓z_and, ↓z_or, ↓z_ite, ↓z_tup, ↓z_lst, ↓z_ix, ↓z_slice, ↓z_o_nil, ↓z_o_cons, ↓z_sl_tup, ↓z_sl_loc, ↓z_call, ↓z_bi, ↓z_meth, ↓z_isin, ↓z_xfld, ↓z_xis, ↓z_es_nil, ↓z_es_cons, ↓z_i_seq, ↓z_i_rng1, ↓z_i_rng2, ↓z_i_zip, ↓z_lc, ↓z_lcF, ↓z_t_cons, ↓z_asg, ↓z_if, ↓z_raise, ↓z_forF, ↓z_aug, ↓z_asgS, ↓z_brk, ↓z_cnt, ↓z_pass, ↓z_ret0, ↓z_whl, ↓z_add, ↓z_sub, ↓z_mul, ↓z_div, ↓z_mod, ↓z_pow, ↓z_addt, ↓z_eq, ↓z_ne, ↓z_lt, ↓z_le, ↓z_gt, ↓z_ge, ↓z_is_b, ↓z_is_n, ↓z_is_i, ↓z_is_t, ↓z_no_b, ↓z_no_n, ↓z_no_i, ↓z_no_t, ↓z_gadd, ↓z_gsub, ↓z_gmul, ↓z_gdiv, ↓z_gmod, ↓z_len_t, ↓z_len_l, ↓z_tuple, ↓z_list, ↓z_int_i, ↓z_int_b, ↓z_bool_i, ↓z_bool_b, ↓z_abs, ↓z_min2, ↓z_max2, ↓z_sum, ↓z_app, ↓z_pop, startD, seq_tup, ty_ii, ty_ib, ty_it, ty_bi, ty_bb, ty_bt, ty_tt, ty_ti, ty_tb, ty_n, ty_st, ty_si, tr_bl, tr_int, tr_non, set_slot, set_nil, set_cons, sets_nil, sets_cons, wipe_nil, wipe_cons, gv_0, sv_0, gv_1, sv_1, gv_2, sv_2, gv_3, sv_3, gv_4, sv_4, gv_5, sv_5, gv_6, sv_6, gv_7, sv_7, gv_8, sv_8, gv_9, sv_9, gv_10, sv_10, gv_11, sv_11, gv_12, sv_12, gv_13, sv_13, gv_14, sv_14, gv_15, sv_15, gv_16, sv_16, gv_17, sv_17, gv_18, sv_18, gv_19, sv_19, gv_20, sv_20, gv_21, sv_21, gv_22, sv_22, gv_23, sv_23, Option.bind_some, at0, at1, at2, at3, set0, set1, set2, set3, mr_app, mr_ext, mr_pop, eqv_int, seq_end, at_end, set_end, at_e1, set_e1, seq_e1, at_e2, set_e2, seq_e2, at_e3, set_e3, seq_e3, at_e4, set_e4, seq_e4, pure_int, pure_bl, pure_non, pure_str, pure_tup, pures_nil, pures_cons, mul_l, mul_r, it_tup, it_loc, zip_tup, fu_items, fu_live, fu_zip, ↓z_len_eM, eq1, hn, n3, f1, it_eM]
    let F : List Cell → List Cell := fun s => s ++ [(0, 0)]
    have hF : ∀ s, D.tup (s.map eC ++ [D.tup [D.int 0, D.int 0]]) = eS (F s) := fun s => by simp [F, eS, eC]
    have WF : Mc (M'.map F) (k + 1) := mc_of (A := 99) ⟨by have := W'.few; simp; omega, fun s hs => by
      obtain ⟨s', h1, rfl⟩ := List.mem_map.mp hs
      have := W99'.std s' h1
      refine ⟨by simp [F, this.1], fun c hc => ?_⟩
      rw [List.length_map]
      rcases List.mem_append.mp hc with h2 | h2
      · exact this.2 c h2
      · simp at h2
        subst h2
        have := W'.few
        exact ⟨⟨by omega, by omega⟩, by omega, by omega⟩⟩ (by omega) (by rw [List.length_map]; omega) (by omega)
    refine lc_mapE (μ := μ6 ++ [.lst (toldD at' (M.length + d3) M.length), .lst (toldD at' (M.length + d3) M.length)]) (fun s => eS (F s)) (by omega) (by simp) (by simp) (by simp [toldD]) (fun _ _ => pure_eS _) ?_ ?_
    · intro i s acc hi hm hp
      have := (W99'.std s hm).1
      simp [↓z_some, ↓z_none, ↓z_ok, ↓z_exc, ↓z_bind, ↓z_wr, ↓z_ws, ↓z_ow, ↓z_nx, ↓z_rt, ↓z_br, ↓z_ct, ↓z_ex, ↓z_cons, ↓z_nil, ↓z_ret, ↓z_expr, ↓z_for, ↓z_par, ↓z_try0, ↓z_try1, ↓z_tests_nil, ↓z_var, ↓z_non, ↓z_bl, ↓z_int, ↓z_str, ↓z_gint, ↓z_bop, ↓z_neg, ↓z_not, ↓z_cmp, ↓z_cmp2, ↓z_and, ↓z_or, ↓z_ite, ↓z_tup, ↓z_lst, ↓z_ix, ↓z_slice, ↓z_o_nil, ↓z_o_cons, ↓z_sl_tup, ↓z_sl_loc, ↓z_call, ↓z_bi, ↓z_meth, ↓z_isin, ↓z_xfld, ↓z_xis, ↓z_es_nil, ↓z_es_cons, ↓z_i_seq, ↓z_i_rng1, ↓z_i_rng2, ↓z_i_zip, ↓z_lc, ↓z_lcF, ↓z_t_cons, ↓z_asg, ↓z_if, ↓z_raise, ↓z_forF, ↓z_aug, ↓z_asgS, ↓z_brk, ↓z_cnt, ↓z_pass, ↓z_ret0, ↓z_whl, ↓z_add, ↓z_sub, ↓z_mul, ↓z_div, ↓z_mod, ↓z_pow, ↓z_addt, ↓z_eq, ↓z_ne, ↓z_lt, ↓z_le, ↓z_gt, ↓z_ge, ↓z_is_b, ↓z_is_n, ↓z_is_i, ↓z_is_t, ↓z_no_b, ↓z_no_n, ↓z_no_i, ↓z_no_t, ↓z_gadd, ↓z_gsub, ↓z_gmul, ↓z_gdiv, ↓z_gmod, ↓z_len_t, ↓z_len_l, ↓z_tuple, ↓z_list, ↓z_int_i, ↓z_int_b, ↓z_bool_i, ↓z_bool_b, ↓z_abs, ↓z_min2, ↓z_max2, ↓z_sum, ↓z_app, ↓z_pop, startD, seq_tup, ty_ii, ty_ib, ty_it, ty_bi, ty_bb, ty_bt, ty_tt, ty_ti, ty_tb, ty_n, ty_st, ty_si, tr_bl, tr_int, tr_non, set_slot, set_nil, set_cons, sets_nil, sets_cons, wipe_nil, wipe_cons, gv_0, sv_0, gv_1, sv_1, gv_2, sv_2, gv_3, sv_3, gv_4, sv_4, gv_5, sv_5, gv_6, sv_6, gv_7, sv_7, gv_8, sv_8, gv_9, sv_9, gv_10, sv_10, gv_11, sv_11, gv_12, sv_12, gv_13, sv_13, gv_14, sv_14, gv_15, sv_15, gv_16, sv_16, gv_17, sv_17, gv_18, sv_18, gv_19, sv_19, gv_20, sv_20, gv_21, sv_21, gv_22, sv_22, gv_23, sv_23, Option.bind_some, at0, at1, at2, at3, set0, set1, set2, set3, mr_app, mr_ext, mr_pop, eqv_int, seq_end, at_end, set_end, at_e1, set_e1, seq_e1, at_e2, set_e2, seq_e2, at_e3, set_e3, seq_e3, at_e4, set_e4, seq_e4, pure_int, pure_bl, pure_non, pure_str, pure_tup, pures_nil, pures_cons, mul_l, mul_r, it_tup, it_loc, zip_tup, fu_items, fu_live, fu_zip, ↓z_add_eS, hF]
      omega
    · have eM'' : D.tup (M'.map fun s => eS (F s)) = eM (M'.map F) := by simp [eM]
      have pt : D.pures (toldD at' (M.length + d3) M.length) = true := rfl
      have pm := ((p6.push pt).push pt).push (pures_map (f := fun s => eS (F s)) (fun _ => pure_eS _) M')
      have c7 := first_bad (n := n + 2) pm W WF hL (by omega)
      simp only [List.append_assoc, List.cons_append, List.nil_append] at pm c7
      simp [↓z_some, ↓z_none, ↓z_ok, ↓z_exc, ↓z_bind, ↓z_wr, ↓z_ws, ↓z_ow, ↓z_nx, ↓z_rt, ↓z_br, ↓z_ct, ↓z_ex, ↓z_cons, ↓z_nil, ↓z_ret, ↓z_expr, ↓z_for, ↓z_par, ↓z_try0, ↓z_try1, ↓z_tests_nil, ↓z_var, ↓z_non, ↓z_bl, ↓z_int, ↓z_str, ↓z_gint, ↓z_bop, ↓z_neg, ↓z_not, ↓z_cmp, ↓z_cmp2, ↓z_and, ↓z_or, ↓z_ite, ↓z_tup, ↓z_lst, ↓z_ix, ↓z_slice, ↓z_o_nil, ↓z_o_cons, ↓z_sl_tup, ↓z_sl_loc, ↓z_call, ↓z_bi, ↓z_meth, ↓z_isin, ↓z_xfld, ↓z_xis, ↓z_es_nil, ↓z_es_cons, ↓z_i_seq, ↓z_i_rng1, ↓z_i_rng2, ↓z_i_zip, ↓z_lc, ↓z_lcF, ↓z_t_cons, ↓z_asg, ↓z_if, ↓z_raise, ↓z_forF, ↓z_aug, ↓z_asgS, ↓z_brk, ↓z_cnt, ↓z_pass, ↓z_ret0, ↓z_whl, ↓z_add, ↓z_sub, ↓z_mul, ↓z_div, ↓z_mod, ↓z_pow, ↓z_addt, ↓z_eq, ↓z_ne, ↓z_lt, ↓z_le, ↓z_gt, ↓z_ge, ↓z_is_b, ↓z_is_n, ↓z_is_i, ↓z_is_t, ↓z_no_b, ↓z_no_n, ↓z_no_i, ↓z_no_t, ↓z_gadd, ↓z_gsub, ↓z_gmul, ↓z_gdiv, ↓z_gmod, ↓z_len_t, ↓z_len_l, ↓z_tuple, ↓z_list, ↓z_int_i, ↓z_int_b, ↓z_bool_i, ↓z_bool_b, ↓z_abs, ↓z_min2, ↓z_max2, ↓z_sum, ↓z_app, ↓z_pop, startD, seq_tup, ty_ii, ty_ib, ty_it, ty_bi, ty_bb, ty_bt, ty_tt, ty_ti, ty_tb, ty_n, ty_st, ty_si, tr_bl, tr_int, tr_non, set_slot, set_nil, set_cons, sets_nil, sets_cons, wipe_nil, wipe_cons, gv_0, sv_0, gv_1, sv_1, gv_2, sv_2, gv_3, sv_3, gv_4, sv_4, gv_5, sv_5, gv_6, sv_6, gv_7, sv_7, gv_8, sv_8, gv_9, sv_9, gv_10, sv_10, gv_11, sv_11, gv_12, sv_12, gv_13, sv_13, gv_14, sv_14, gv_15, sv_15, gv_16, sv_16, gv_17, sv_17, gv_18, sv_18, gv_19, sv_19, gv_20, sv_20, gv_21, sv_21, gv_22, sv_22, gv_23, sv_23, Option.bind_some, at0, at1, at2, at3, set0, set1, set2, set3, mr_app, mr_ext, mr_pop, eqv_int, seq_end, at_end, set_end, at_e1, set_e1, seq_e1, at_e2, set_e2, seq_e2, at_e3, set_e3, seq_e3, at_e4, set_e4, seq_e4, pure_int, pure_bl, pure_non, pure_str, pure_tup, pures_nil, pures_cons, mul_l, mul_r, it_tup, it_loc, zip_tup, fu_items, fu_live, fu_zip, eM'', c7, xc_own, xc_ve, par0_eq]
      exact pm
theorem math : ∀ ns : List Int, ns.length ≤ 63 → ∃ μ, call 12 lawK [.loc 0] [.ro (ns.map Mn.D.int)] = .ok (.bl true) μ := fun ns hl => by
  obtain ⟨a, μ, e, h⟩ := R.of_wp (law_wp (n := 3) hl)
  subst h
  exact ⟨μ, e⟩
end K01

namespace K01
open PySem PySem.Spec PyProof.Rows L2 Mn
theorem run (w : World) : HandSHeadRun.RunEq R (PySem.W.view R.prog [lawI]) hk ob 2700 loose w := by
  intro os
  kernel_rfl
end K01
open PySem PySem.W PySem.Calls PyProof.Rows
theorem PySem.Challenge.cw_foldsclose_k01_rows_run_holds : PySem.Challenge.rw_foldsclose_k01_rows_run.Holds := by
  w_on; o_law
  refine HandSHeadRun.head_any (r := OpenLaw.row PySem.Challenge.rw_foldsclose_k01_rows_run) (q := view (OpenLaw.row PySem.Challenge.rw_foldsclose_k01_rows_run).prog [K01.lawI]) (H := K01.hk) (ob := K01.ob) (M := 2700) (loose := K01.loose) (d := HandSHeadRun.topDef (OpenLaw.row PySem.Challenge.rw_foldsclose_k01_rows_run).prog K01.lawI) (kwd := []) K01.ob_eq
    (by kernel_rfl) (fun s => by kernel_rfl) K01.run (by kernel_rfl) (by kernel_rfl) (by kernel_rfl) (by rfl) (by first | assumption | decide +kernel) (by decide +kernel) ⟨rfl, rfl, rfl, rfl, rfl, by decide +kernel⟩ ?hw ?hc
  case hw => w_witness2
  case hc =>
    refine L2.walk_ofE (l := PySem.Challenge.rw_foldsclose_k01_rows_run) (n := 63) (k := 12 + 1) (x := "script") (CX := L2.CX0) rfl (by decide) (by kernel_rfl) ⟨rfl, by decide, by decide⟩ ?F (fun _ _ _ _ z => z)
    intro w mg fa h Y G hmg0
    obtain ⟨K, KX, c⟩ := Y
    have hmg : mg ("law" : PySem.Str) = some (.ref fa) := by
      have e : (HandSHeadRun.topDef (OpenLaw.row PySem.Challenge.rw_foldsclose_k01_rows_run).prog K01.lawI).name = ("law" : PySem.Str) := by kernel_rfl
      rw [← e]
      exact hmg0
    have O := Mn.txt_ok (w := w) K01.ok KX G c
    exact Mn.law_end O KX (i := K01.lawK) (d := K01.m_law) rfl rfl (x := "script") rfl hmg K01.math
