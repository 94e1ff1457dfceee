import PyProof.Rows.All
import Wide.All
import OpenK.AllK
import Wide.FinOn
import HandS.ForMost
import HandS.Conv
import HandS.SortInts
import HandS.TupAny
import HandS.TupMul
import HandS.Deep
import HandS.IsInst
import HandS.Words
import HandS.More
import HandS.Style
import HandS.NoneIn
import HandS.Codes
import PySem.Challenge.RW_kindmakes_k60_led_by_moves_of_this_and_b
set_option Elab.async false
set_option linter.all false
set_option maxRecDepth 100000
/-! A small language of data: plain Lean, no program in sight. -/
namespace PD
inductive DK where
  | i (n : Int) | w (k : Nat)
  deriving DecidableEq, Repr
/-- data: w k is the k-th word of a table, rp d the text that repr tells of d -/
inductive D where
  | non | bl (b : Bool) | int (i : Int) | w (k : Nat) | rp (d : D) | scr (ns : List Int) | tup (xs : List D) | lst (xs : List D) | dic (ks : List DK) (vs : List D)
  deriving Repr
mutual
def D.same : D → D → Bool
  | .non, .non => true
  | .bl a, .bl b => a == b
  | .int a, .int b => a == b
  | .w a, .w b => a == b
  | .rp a, .rp b => D.same a b
  | .tup a, .tup b => D.sames a b
  | .lst a, .lst b => D.sames a b
  | .dic k a, .dic l b => decide (k = l) && D.sames a b
  | _, _ => false
def D.sames : List D → List D → Bool
  | [], [] => true
  | a :: r, b :: s => D.same a b && D.sames r s
  | _, _ => false
end
mutual
/-- python's equality of plain data -/
def D.eqv : D → D → Bool
  | .non, .non => true
  | .bl a, .bl b => a == b
  | .bl a, .int j => (if a then 1 else 0) == j
  | .int i, .bl b => i == (if b then 1 else 0)
  | .int a, .int b => a == b
  | .w a, .w b => a == b
  | .tup a, .tup b => D.eqvs a b
  | .lst a, .lst b => D.eqvs a b
  | _, _ => false
def D.eqvs : List D → List D → Bool
  | [], [] => true
  | a :: r, b :: s => D.eqv a b && D.eqvs r s
  | _, _ => false
end
mutual
/-- plain (no dict, no told text), at most so deep -/
def D.pl : Nat → D → Bool
  | _, .non => true
  | _, .bl _ => true
  | _, .int _ => true
  | _, .w _ => true
  | _, .rp _ => false
  | _, .scr _ => false
  | 0, .tup _ => false
  | n + 1, .tup xs => D.pls n xs
  | 0, .lst _ => false
  | n + 1, .lst xs => D.pls n xs
  | _, .dic _ _ => false
def D.pls : Nat → List D → Bool
  | _, [] => true
  | n, x :: r => D.pl n x && D.pls n r
end
/-- one word of data -/
def D.flat : D → Bool
  | .non => true
  | .bl _ => true
  | .int _ => true
  | .w _ => true
  | _ => false
mutual
/-- how much repr has to tell, at most -/
def D.wt : D → Nat
  | .int _ => 168
  | .w _ => 30
  | .tup xs => D.wts xs
  | .lst xs => D.wts xs
  | _ => 0
def D.wts : List D → Nat
  | [] => 0
  | x :: r => D.wt x + 1 + D.wts r
end
mutual
/-- numbers within 2^168 -/
def D.small : D → Bool
  | .int i => decide (i.natAbs < 2 ^ 168)
  | .tup xs => D.smalls xs
  | .lst xs => D.smalls xs
  | _ => true
def D.smalls : List D → Bool
  | [] => true
  | x :: r => D.small x && D.smalls r
end

inductive BOp where
  | add | sub | mul | mod | fdiv | pow
  deriving DecidableEq, Repr
inductive COp where
  | eq | ne | lt | le | gt | ge | isin | notin | isN | notN
  deriving DecidableEq, Repr
inductive BI where
  | len | tuple | list | int | sorted | sum | max | min | all | repr | set
  deriving DecidableEq, Repr
inductive B2 where
  | max | min
  deriving DecidableEq, Repr
inductive TY where
  | tup | str | int | bool | lst
  deriving DecidableEq, Repr
inductive TGt where
  | one (i : Nat) | two (i j : Nat)
  deriving DecidableEq, Repr

mutual
inductive IE where
  | var (i : Nat) | never
  | cI (i : Int) | cB (b : Bool) | cN | cW (k : Nat) | gl (g : Nat)
  | bin (op : BOp) (a b : IE) | neg (a : IE)
  | cmp (op : COp) (a b : IE) | ch (op1 op2 : COp) (a b c : IE)
  | and_ (a b : IE) | or_ (a b : IE) | not_ (a : IE) | ite (c a b : IE)
  | tup (es : IEs) | lst (es : IEs) | dnew
  | idx (a b : IE) | idxV (i : Nat) (b : IE) | slL (a lo : IE) | slU (a hi : IE) | slB (a lo hi : IE) | slR (a : IE)
  | call (f : Nat) (es : IEs) | bi (b : BI) (a : IE) | b2 (b : B2) (a c : IE) | isi (t : TY) (a : IE)
  | tupR (a : IE) | lstR (a : IE)
  | comp (t : TGt) (it : IT) (cs : IEs) (e : IE)
  | dget (i : Nat) (k : IE) | gget (g : Nat) (k : IE) | din (neg : Bool) (a : IE) (i : Nat)
  | app (i : Nat) (e : IE) | ext (i : Nat) (e : IE) | popAt (i : Nat) (e : IE) | pop (i : Nat) | clear (i : Nat)
inductive IEs where
  | nil | cons (e : IE) (es : IEs)
inductive IT where
  | seq (e : IE) | rng1 (e : IE) | rng2 (a b : IE)
end
mutual
inductive IS where
  | asg (i : Nat) (e : IE)
  | asgT (is : List Nat) (e : IE)
  | asgP (i j : Nat) (a b : IE)
  | setI (i : Nat) (k e : IE) | dput (i : Nat) (k e : IE)
  | expr (e : IE)
  | ret (e : IE) | retV (i : Nat) | retN | pass | brk | cont | never
  | ite (c : IE) (t f : ISs)
  | for_ (t : TGt) (it : IT) (b : ISs)
  | whl (c : IE) (b : ISs)
inductive ISs where
  | nil | cons (s : IS) (r : ISs)
end

inductive Fl where
  | fro | own | lent | lfro
  deriving DecidableEq, Repr
abbrev Cell := Option (Fl × D)
abbrev Env := List Cell
inductive Flow where
  | nx | rt (own : Bool) (d : D) | bk | ct

/-! ### operations on data -/
def binD : BOp → D → D → Option D
  | .add, .int i, .int j => some (.int (i + j))
  | .sub, .int i, .int j => some (.int (i - j))
  | .mul, .int i, .int j => if (-(2 ^ 64) < i ∧ i < 2 ^ 64) ∨ (-(2 ^ 64) < j ∧ j < 2 ^ 64) then some (.int (i * j)) else none
  | .mod, .int i, .int j => if j ≠ 0 then some (.int (i.fmod j)) else none
  | .fdiv, .int i, .int j => if j ≠ 0 ∧ j.natAbs < 1073741824 then some (.int (i.fdiv j)) else none
  | .pow, .int i, .int j => if 0 ≤ j ∧ j ≤ 1000000 ∧ i.natAbs < 2 ^ 64 then some (.int (i ^ j.toNat)) else none
  | .add, .tup a, .tup b => if a.length + b.length ≤ 1000000 then some (.tup (a ++ b)) else none
  | .add, .lst a, .lst b => if a.length + b.length ≤ 1000000 then some (.lst (a ++ b)) else none
  | .mul, .tup a, .int k => if 2 ≤ k ∧ k ≤ 1000 ∧ a.length ≤ 1000 ∧ (!a.isEmpty) = true then some (.tup (List.replicate k.toNat a).flatten) else none
  | .mul, .lst a, .int k => if -(2 ^ 62) ≤ k ∧ k < 2 ^ 62 ∧ a.length * k.toNat ≤ 1000000 then some (.lst (List.replicate k.toNat a).flatten) else none
  | _, _, _ => none
def isL : D → Bool
  | .lst _ => true
  | _ => false
def inD (x : D) (ys : List D) : Bool := ys.any fun y => D.eqv y x
def findD : List DK → List D → DK → Option D
  | k :: ks, v :: vs, q => if k = q then some v else findD ks vs q
  | _, _, _ => none
def replD : List DK → List D → DK → D → List D
  | k :: ks, v :: vs, q, x => (if k = q then x else v) :: replD ks vs q x
  | _, _, _, _ => []
def putD (ks : List DK) (vs : List D) (q : DK) (x : D) : List DK × List D := if (findD ks vs q).isSome = true then (ks, replD ks vs q x) else (ks ++ [q], vs ++ [x])
def keyD : D → Option DK
  | .int i => some (.i i)
  | .w k => some (.w k)
  | _ => none
def eqTest (a b : D) : Option Bool :=
  match a, b with
  | .rp x, .rp y => if D.same x y then some true else none
  | .scr ns, .lst [] => some ns.isEmpty
  | _, _ => if (D.pl 500 a && D.pl 500 b) then some (D.eqv a b) else none
def cmpD : COp → D → D → Option Bool
  | .eq, a, b => eqTest a b
  | .ne, a, b => (eqTest a b).map (!·)
  | .lt, .int i, .int j => some (decide (i < j))
  | .le, .int i, .int j => some (decide (i ≤ j))
  | .gt, .int i, .int j => some (decide (j < i))
  | .ge, .int i, .int j => some (decide (j ≤ i))
  | .isin, x, .tup ys => if x.flat && ys.all D.flat then some (inD x ys) else none
  | .isin, x, .lst ys => if x.flat && ys.all D.flat then some (inD x ys) else none
  | .notin, x, .tup ys => if x.flat && ys.all D.flat then some (!inD x ys) else none
  | .notin, x, .lst ys => if x.flat && ys.all D.flat then some (!inD x ys) else none
  | .isN, .non, .non => some true
  | .isN, _, .non => some false
  | .notN, .non, .non => some false
  | .notN, _, .non => some true
  | _, _, _ => none
/-- a place in a row: from the end where it is below nought -/
def at_ {α : Type} (xs : List α) (i : Int) : Option α :=
  if 0 ≤ i then xs[i.toNat]? else if -(xs.length : Int) ≤ i then xs[(i + xs.length).toNat]? else none
def idxD : D → D → Option D
  | .tup xs, .int i => at_ xs i
  | .lst xs, .int i => at_ xs i
  | _, _ => none
def dgetD : D → D → Option D
  | .dic ks vs, k => (keyD k).bind (findD ks vs)
  | _, _ => none
def dinD : D → D → Option Bool
  | .dic ks vs, k => (keyD k).map fun q => (findD ks vs q).isSome
  | _, _ => none
def clipI (n d : Nat) : Option Int → Nat
  | none => d
  | some v => if v < 0 then (v + n).toNat else min v.toNat n
def cut {α : Type} (xs : List α) (lo hi : Option Int) : List α := (xs.drop (clipI xs.length 0 lo)).take (clipI xs.length xs.length hi - clipI xs.length 0 lo)
def slD (lo hi : Option Int) : D → Option D
  | .tup xs => some (.tup (cut xs lo hi))
  | .lst xs => some (.lst (cut xs lo hi))
  | .scr xs => some (.lst ((cut xs lo hi).map D.int))
  | _ => none
def revD : D → Option D
  | .lst xs => some (.lst xs.reverse)
  | .tup xs => some (.tup xs.reverse)
  | _ => none
def intsD : List D → Option (List Int)
  | [] => some []
  | .int i :: r => (intsD r).map (i :: ·)
  | _ :: _ => none
def boolsD : List D → Option (List Bool)
  | [] => some []
  | .bl i :: r => (boolsD r).map (i :: ·)
  | _ :: _ => none
def insI (x : Int) : List Int → List Int
  | [] => [x]
  | y :: r => if x ≤ y then x :: y :: r else y :: insI x r
def sortI : List Int → List Int
  | [] => []
  | x :: r => insI x (sortI r)
def maxI : Int → List Int → Int
  | m, [] => m
  | m, x :: r => maxI (if m < x then x else m) r
def minI : Int → List Int → Int
  | m, [] => m
  | m, x :: r => minI (if x < m then x else m) r
/-- (new, what) -/
def biD : BI → D → Option (Bool × D)
  | .len, .tup xs => some (false, .int xs.length)
  | .len, .lst xs => some (false, .int xs.length)
  | .tuple, .tup xs => some (false, .tup xs)
  | .tuple, .lst xs => some (false, .tup xs)
  | .list, .tup xs => some (true, .lst xs)
  | .list, .lst xs => some (true, .lst xs)
  | .int, .int i => some (false, .int i)
  | .int, .bl b => some (false, .int (if b then 1 else 0))
  | .sorted, .lst xs => (intsD xs).map fun ns => (true, .lst ((sortI ns).map D.int))
  | .sorted, .tup xs => (intsD xs).map fun ns => (true, .lst ((sortI ns).map D.int))
  | .sum, .lst xs => (intsD xs).map fun ns => (false, .int ns.sum)
  | .max, .lst xs => (intsD xs).bind fun ns => match ns with | [] => none | m :: r => some (false, .int (maxI m r))
  | .min, .lst xs => (intsD xs).bind fun ns => match ns with | [] => none | m :: r => some (false, .int (minI m r))
  | .all, .lst xs => (boolsD xs).map fun bs => (false, .bl (bs.all id))
  | .repr, .tup xs => if D.pl 500 (.tup xs) && D.small (.tup xs) && decide (D.wt (.tup xs) ≤ 90000) then some (false, .rp (.tup xs)) else none
  | .repr, .lst xs => if D.pl 500 (.lst xs) && D.small (.lst xs) && decide (D.wt (.lst xs) ≤ 90000) then some (false, .rp (.lst xs)) else none
  | .repr, .int i => if i.natAbs < 2 ^ 168 then some (false, .rp (.int i)) else none
  | _, _ => none
def b2D : B2 → D → D → Option D
  | .max, .int i, .int j => some (.int (if j > i then j else i))
  | .min, .int i, .int j => some (.int (if j < i then j else i))
  | _, _, _ => none
def isiD : TY → D → Option Bool
  | .tup, .tup _ => some true
  | .tup, .w _ => some false
  | .tup, .int _ => some false
  | .tup, .bl _ => some false
  | .tup, .non => some false
  | .tup, .lst _ => some false
  | .str, .w _ => some true
  | .str, .tup _ => some false
  | .str, .int _ => some false
  | .str, .bl _ => some false
  | .str, .non => some false
  | .str, .lst _ => some false
  | .int, .int _ => some true
  | .int, .bl _ => some true
  | .int, .w _ => some false
  | .int, .tup _ => some false
  | .int, .non => some false
  | .int, .lst _ => some false
  | .bool, .bl _ => some true
  | .bool, .int _ => some false
  | .bool, .w _ => some false
  | .bool, .tup _ => some false
  | .bool, .non => some false
  | .bool, .lst _ => some false
  | _, _ => none
def trD : D → Option Bool
  | .non => some false
  | .bl b => some b
  | .int i => some (i != 0)
  | .tup xs => some (!xs.isEmpty)
  | .lst xs => some (!xs.isEmpty)
  | _ => none
/-- lo, lo + 1, .. -/
def upto (lo : Int) : Nat → List Int
  | 0 => []
  | n + 1 => lo :: upto (lo + 1) n

/-! ### places -/
def getC (env : Env) (i : Nat) : Option (Fl × D) := match env[i]? with
  | some (some c) => some c
  | _ => none
def frz : Fl → Fl
  | .own => .fro
  | .lent => .lfro
  | f => f
/-- a name's value, from now on held by more than the name -/
def readV (env : Env) (i : Nat) : Option (D × Env) := match getC env i with
  | some (.fro, d) => some (d, env)
  | some (.lfro, d) => some (d, env)
  | some (f, d) => some (d, env.set i (some (frz f, d)))
  | none => none
/-- a name's value, only looked at -/
def lookV (env : Env) (i : Nat) : Option D := (getC env i).map (·.2)
/-- a place that may be given another value -/
def freeC (env : Env) (i : Nat) : Bool := match env[i]? with
  | some none => true
  | some (some (.fro, _)) => true
  | some (some (.own, _)) => true
  | _ => false
def putC (env : Env) (i : Nat) (own : Bool) (d : D) : Option Env :=
  if freeC env i then some (env.set i (some (if own then .own else .fro, d))) else none
/-- what a name holds that may be changed -/
def ownC (env : Env) (i : Nat) : Option (Fl × D) := match getC env i with
  | some (.own, d) => some (.own, d)
  | some (.lent, d) => some (.lent, d)
  | _ => none

/-! ### calls -/
inductive Arg where
  | v (d : D) | s (i : Nat)
/-- the arguments as they are handed in: lent or not -/
def argsOf (env : Env) : List Arg → Option (List (Bool × D))
  | [] => some []
  | .v d :: r => (argsOf env r).map ((false, d) :: ·)
  | .s i :: r => match getC env i with
    | some (.own, d) => (argsOf env r).map ((true, d) :: ·)
    | some (.lent, d) => (argsOf env r).map ((true, d) :: ·)
    | some (_, d) => (argsOf env r).map ((false, d) :: ·)
    | none => none
def lentAt (env : Env) : List Arg → List Nat
  | [] => []
  | .v _ :: r => lentAt env r
  | .s i :: r => match getC env i with
    | some (.own, _) => i :: lentAt env r
    | some (.lent, _) => i :: lentAt env r
    | _ => lentAt env r
def nodupN : List Nat → Bool
  | [] => true
  | x :: r => !r.contains x && nodupN r
def postArg (env : Env) (i : Nat) (p : Bool × D) : Env := match getC env i with
  | some (.own, _) => env.set i (some (if p.1 then .own else .fro, p.2))
  | some (.lent, _) => env.set i (some (if p.1 then .lent else .lfro, p.2))
  | _ => env
def posts : List Arg → List (Bool × D) → Env → Env
  | .v _ :: r, _ :: ps, env => posts r ps env
  | .s i :: r, p :: ps, env => posts r ps (postArg env i p)
  | _, _, env => env
abbrev Phi := Nat → List (Bool × D) → Option ((Bool × D) × List (Bool × D))

/-! ### loops -/
def cloop (f : D → Env → Option (Option D × Env)) : List D → Env → Option (List D × Env)
  | [], env => some ([], env)
  | x :: r, env => match f x env with
    | none => none
    | some (o, env1) => match cloop f r env1 with
      | none => none
      | some (ys, env2) => some (match o with | some y => y :: ys | none => ys, env2)
def floop (f : D → Env → Option (Env × Flow)) : List D → Env → Option (Env × Flow)
  | [], env => some (env, .nx)
  | x :: r, env => match f x env with
    | none => none
    | some (env1, .nx) => floop f r env1
    | some (env1, .ct) => floop f r env1
    | some (env1, .bk) => some (env1, .nx)
    | some (env1, .rt o d) => some (env1, .rt o d)
def wloop (c : Env → Option (Bool × Env)) (f : Env → Option (Env × Flow)) : Nat → Env → Option (Env × Flow)
  | 0, _ => none
  | n + 1, env => match c env with
    | none => none
    | some (false, env1) => some (env1, .nx)
    | some (true, env1) => match f env1 with
      | none => none
      | some (env2, .nx) => wloop c f n env2
      | some (env2, .ct) => wloop c f n env2
      | some (env2, .bk) => some (env2, .nx)
      | some (env2, .rt o d) => some (env2, .rt o d)
/-- a target's places -/
def TGt.is : TGt → List Nat
  | .one i => [i]
  | .two i j => [i, j]
def putT : TGt → D → Env → Option Env
  | .one i, d, env => putC env i false d
  | .two i j, .tup [a, b], env => (putC env i false a).bind fun e => putC e j false b
  | _, _, _ => none
def putTs : List Nat → List D → Env → Option Env
  | [], [], env => some env
  | i :: is, d :: ds, env => (putC env i false d).bind fun e => putTs is ds e
  | _, _, _ => none
def unset (env : Env) (i : Nat) : Bool := match env[i]? with
  | some none => true
  | _ => false
def clearAt : List Nat → Env → Env
  | [], env => env
  | i :: is, env => clearAt is (env.set i none)

/-- what an expression does: its value; its value when it is only looked at; its truth; it as an argument -/
structure Sm where
  ev : Env → Option (Bool × D × Env)
  lk : Env → Option (D × Env)
  t : Env → Option (Bool × Env)
  ar : Env → Option (Arg × Env)
/-- all from the value -/
def Sm.of (f : Env → Option (Bool × D × Env)) : Sm where
  ev := f
  lk := fun env => (f env).map fun p => (p.2.1, p.2.2)
  t := fun env => (f env).bind fun p => (trD p.2.1).map fun b => (b, p.2.2)
  ar := fun env => (f env).map fun p => (.v p.2.1, p.2.2)
def Sm.va (i : Nat) : Sm where
  ev := fun env => (readV env i).map fun p => (false, p.1, p.2)
  lk := fun env => (lookV env i).map fun d => (d, env)
  t := fun env => (lookV env i).bind fun d => (trD d).map fun b => (b, env)
  ar := fun env => (getC env i).map fun _ => (.s i, env)
abbrev SmA := Env → Option (List Arg × Env)
/-- several: values, arguments, tests -/
structure Sms where
  ev : Env → Option (List D × Env)
  ar : Env → Option (List Arg × Env)
  t : Env → Option (Bool × Env)
section
variable (Φ : Phi) (gv : Nat → D) (wf : Nat)
mutual
def sem : IE → Sm
  | .var i => Sm.va i
  | .never => Sm.of fun _ => none
  | .cI i => Sm.of fun env => some (false, .int i, env)
  | .cB b => Sm.of fun env => some (false, .bl b, env)
  | .cN => Sm.of fun env => some (false, .non, env)
  | .cW k => Sm.of fun env => some (false, .w k, env)
  | .gl g => Sm.of fun env => some (false, gv g, env)
  | .bin op a b => Sm.of fun env => ((sem a).ev env).bind fun p => ((sem b).ev p.2.2).bind fun q => (binD op p.2.1 q.2.1).map fun d => (isL d, d, q.2.2)
  | .neg a => Sm.of fun env => ((sem a).ev env).bind fun p => match p.2.1 with | .int i => some (false, .int (-i), p.2.2) | _ => none
  | .cmp op a b => Sm.of fun env => ((sem a).ev env).bind fun p => ((sem b).lk p.2.2).bind fun q => (cmpD op p.2.1 q.1).map fun r => (false, .bl r, q.2)
  | .ch o1 o2 a b c => Sm.of fun env => ((sem a).ev env).bind fun p => ((sem b).ev p.2.2).bind fun q => (cmpD o1 p.2.1 q.2.1).bind fun r =>
      if r then ((sem c).ev q.2.2).bind fun s => (cmpD o2 q.2.1 s.2.1).map fun t => (false, .bl t, s.2.2) else some (false, .bl false, q.2.2)
  | .and_ a b => { Sm.of (fun env => ((sem a).ev env).bind fun p => match p.2.1 with
      | .bl true => ((sem b).ev p.2.2).bind fun q => match q.2.1 with | .bl c => some (false, .bl c, q.2.2) | _ => none
      | .bl false => some (false, .bl false, p.2.2)
      | _ => none) with t := fun env => ((sem a).t env).bind fun p => if p.1 then (sem b).t p.2 else some (false, p.2) }
  | .or_ a b => { Sm.of (fun env => ((sem a).ev env).bind fun p => match p.2.1 with
      | .bl false => ((sem b).ev p.2.2).bind fun q => match q.2.1 with | .bl c => some (false, .bl c, q.2.2) | _ => none
      | .bl true => some (false, .bl true, p.2.2)
      | _ => none) with t := fun env => ((sem a).t env).bind fun p => if p.1 then some (true, p.2) else (sem b).t p.2 }
  | .not_ a => { Sm.of (fun env => ((sem a).ev env).bind fun p => match p.2.1 with | .bl c => some (false, .bl (!c), p.2.2) | _ => none) with
      t := fun env => ((sem a).t env).map fun p => (!p.1, p.2) }
  | .ite c a b => { Sm.of (fun env => ((sem c).t env).bind fun p => if p.1 then (sem a).ev p.2 else (sem b).ev p.2) with t := fun _ => none }
  | .tup es => Sm.of fun env => ((sems es).ev env).map fun p => (false, .tup p.1, p.2)
  | .lst es => Sm.of fun env => ((sems es).ev env).map fun p => (true, .lst p.1, p.2)
  | .dnew => Sm.of fun env => some (true, .dic [] [], env)
  | .idx a b => Sm.of fun env => ((sem a).ev env).bind fun p => ((sem b).ev p.2.2).bind fun q => (idxD p.2.1 q.2.1).map fun d => (false, d, q.2.2)
  | .idxV i b => Sm.of fun env => (lookV env i).bind fun _ => ((sem b).ev env).bind fun q => (lookV q.2.2 i).bind fun x => (idxD x q.2.1).map fun d => (false, d, q.2.2)
  | .slL a lo => Sm.of fun env => ((sem a).ev env).bind fun p => ((sem lo).ev p.2.2).bind fun q => match q.2.1 with
      | .int i => (slD (some i) none p.2.1).map fun d => (isL d, d, q.2.2) | _ => none
  | .slU a hi => Sm.of fun env => ((sem a).ev env).bind fun p => ((sem hi).ev p.2.2).bind fun q => match q.2.1 with
      | .int i => (slD none (some i) p.2.1).map fun d => (isL d, d, q.2.2) | _ => none
  | .slB a lo hi => Sm.of fun env => ((sem a).ev env).bind fun p => ((sem lo).ev p.2.2).bind fun q => ((sem hi).ev q.2.2).bind fun r => match q.2.1, r.2.1 with
      | .int i, .int j => (slD (some i) (some j) p.2.1).map fun d => (isL d, d, r.2.2) | _, _ => none
  | .slR a => Sm.of fun env => ((sem a).ev env).bind fun p => (revD p.2.1).map fun d => (isL d, d, p.2.2)
  | .call f es => Sm.of fun env => ((sems es).ar env).bind fun p => (argsOf p.2 p.1).bind fun as =>
      if nodupN (lentAt p.2 p.1) then (Φ f as).map fun r => (r.1.1, r.1.2, posts p.1 r.2 p.2) else none
  | .bi b a => Sm.of fun env => ((sem a).lk env).bind fun p => (biD b p.1).map fun r => (r.1, r.2, p.2)
  | .b2 b a c => Sm.of fun env => ((sem a).ev env).bind fun p => ((sem c).ev p.2.2).bind fun q => (b2D b p.2.1 q.2.1).map fun d => (false, d, q.2.2)
  | .isi t a => Sm.of fun env => ((sem a).ev env).bind fun p => (isiD t p.2.1).map fun r => (false, .bl r, p.2.2)
  | .tupR a => Sm.of fun env => ((sem a).ev env).bind fun p => match p.2.1 with
      | .int n => if -1000000 ≤ n ∧ n ≤ 1000000 then some (false, .tup ((upto 0 n.toNat).map D.int), p.2.2) else none
      | _ => none
  | .lstR a => Sm.of fun env => ((sem a).ev env).bind fun p => match p.2.1 with
      | .int n => if -1000000 ≤ n ∧ n ≤ 1000000 then some (true, .lst ((upto 0 n.toNat).map D.int), p.2.2) else none
      | _ => none
  | .comp t it cs e => Sm.of fun env => (semI it env).bind fun p =>
      if p.1.length ≤ 1000000 ∧ (t.is.all (unset p.2)) = true then
        (cloop (fun x en => (putT t x en).bind fun e1 => ((sems cs).t e1).bind fun b =>
          if b.1 then ((sem e).ev b.2).map fun q => (some q.2.1, clearAt t.is q.2.2) else some (none, clearAt t.is b.2)) p.1 p.2).map fun r => (true, .lst r.1, r.2)
      else none
  | .dget i b => Sm.of fun env => (lookV env i).bind fun _ => ((sem b).ev env).bind fun q => (lookV q.2.2 i).bind fun x => (dgetD x q.2.1).map fun d => (false, d, q.2.2)
  | .gget g b => Sm.of fun env => ((sem b).ev env).bind fun q => (dgetD (gv g) q.2.1).map fun d => (false, d, q.2.2)
  | .din neg a i => Sm.of fun env => ((sem a).ev env).bind fun q => (lookV q.2.2 i).bind fun x => (dinD x q.2.1).map fun b => (false, .bl (if neg then !b else b), q.2.2)
  | .app i e => Sm.of fun env => ((lookV env i).bind fun z => if isL z then some z else none).bind fun _ => ((sem e).ev env).bind fun p => match ownC p.2.2 i with
      | some (f, .lst xs) => if xs.length < 1000000 then some (false, .non, p.2.2.set i (some (f, .lst (xs ++ [p.2.1])))) else none
      | _ => none
  | .ext i e => Sm.of fun env => ((lookV env i).bind fun z => if isL z then some z else none).bind fun _ => ((sem e).ev env).bind fun p => match ownC p.2.2 i, p.2.1 with
      | some (f, .lst xs), .lst ys => if xs.length + ys.length ≤ 1000000 then some (false, .non, p.2.2.set i (some (f, .lst (xs ++ ys)))) else none
      | _, _ => none
  | .popAt i e => Sm.of fun env => ((lookV env i).bind fun z => if isL z then some z else none).bind fun _ => ((sem e).ev env).bind fun p => match ownC p.2.2 i, p.2.1 with
      | some (f, .lst xs), .int k => if 0 ≤ k ∧ k < 2 ^ 62 then (xs[k.toNat]?).map fun x => (false, x, p.2.2.set i (some (f, .lst (xs.eraseIdx k.toNat)))) else none
      | _, _ => none
  | .pop i => Sm.of fun env => match ownC env i with
      | some (f, .lst xs) => (xs[xs.length - 1]?).map fun x => (false, x, env.set i (some (f, .lst xs.dropLast)))
      | _ => none
  | .clear i => Sm.of fun env => match ownC env i with
      | some (f, .lst _) => some (false, .non, env.set i (some (f, .lst [])))
      | _ => none
def sems : IEs → Sms
  | .nil => { ev := fun env => some ([], env), ar := fun env => some ([], env), t := fun env => some (true, env) }
  | .cons e es => {
      ev := fun env => ((sem e).ev env).bind fun p => ((sems es).ev p.2.2).map fun q => (p.2.1 :: q.1, q.2)
      ar := fun env => ((sem e).ar env).bind fun p => ((sems es).ar p.2).map fun q => (p.1 :: q.1, q.2)
      t := fun env => ((sem e).t env).bind fun p => if p.1 then (sems es).t p.2 else some (false, p.2) }
def semI : IT → Env → Option (List D × Env)
  | .seq e => fun env => ((sem e).ev env).bind fun p => match p.2.1 with
      | .lst xs => some (xs, p.2.2)
      | .tup xs => some (xs, p.2.2)
      | _ => none
  | .rng1 e => fun env => ((sem e).ev env).bind fun p => match p.2.1 with
      | .int n => if -1000000 ≤ n ∧ n ≤ 1000000 then some ((upto 0 n.toNat).map D.int, p.2.2) else none
      | _ => none
  | .rng2 a b => fun env => ((sem a).ev env).bind fun p => ((sem b).ev p.2.2).bind fun q => match p.2.1, q.2.1 with
      | .int m, .int n => if -1000000 ≤ m ∧ m ≤ 1000000 ∧ -1000000 ≤ n ∧ n ≤ 1000000 then some ((upto m (n - m).toNat).map D.int, q.2.2) else none
      | _, _ => none
end
mutual
def ex : IS → Env → Option (Env × Flow)
  | .asg i e => fun env => ((sem Φ gv e).ev env).bind fun p => (putC p.2.2 i p.1 p.2.1).map fun e1 => (e1, .nx)
  | .asgT is e => fun env => ((sem Φ gv e).ev env).bind fun p => match p.2.1 with
      | .tup xs => (putTs is xs p.2.2).map fun e1 => (e1, .nx)
      | .lst xs => (putTs is xs p.2.2).map fun e1 => (e1, .nx)
      | _ => none
  | .asgP i j a b => fun env => ((sem Φ gv a).ev env).bind fun p => ((sem Φ gv b).ev p.2.2).bind fun q =>
      (putC q.2.2 i false p.2.1).bind fun e1 => (putC e1 j false q.2.1).map fun e2 => (e2, .nx)
  | .setI i k e => fun env => ((sem Φ gv e).ev env).bind fun p => (lookV p.2.2 i).bind fun _ => ((sem Φ gv k).ev p.2.2).bind fun q => match ownC q.2.2 i with
      | some (f, .lst xs) => match q.2.1 with
        | .int n => if 0 ≤ n ∧ n < xs.length then some (q.2.2.set i (some (f, .lst (xs.set n.toNat p.2.1))), .nx) else none
        | _ => none
      | _ => none
  | .dput i k e => fun env => ((sem Φ gv e).ev env).bind fun p => (lookV p.2.2 i).bind fun _ => ((sem Φ gv k).ev p.2.2).bind fun q => match ownC q.2.2 i with
      | some (f, .dic ks vs) => (keyD q.2.1).bind fun y =>
          if ks.length < 1000000 then some (q.2.2.set i (some (f, .dic (putD ks vs y p.2.1).1 (putD ks vs y p.2.1).2)), .nx) else none
      | _ => none
  | .expr e => fun env => ((sem Φ gv e).ev env).map fun p => (p.2.2, .nx)
  | .ret e => fun env => ((sem Φ gv e).ev env).map fun p => (p.2.2, .rt p.1 p.2.1)
  | .retV i => fun env => match getC env i with
      | some (.own, d) => some (env.set i none, .rt true d)
      | _ => (readV env i).map fun p => (p.2, .rt false p.1)
  | .retN => fun env => some (env, .rt false .non)
  | .pass => fun env => some (env, .nx)
  | .never => fun _ => none
  | .brk => fun env => some (env, .bk)
  | .cont => fun env => some (env, .ct)
  | .ite c t f => fun env => ((sem Φ gv c).t env).bind fun p => if p.1 then exs t p.2 else exs f p.2
  | .for_ t it b => fun env => (semI Φ gv it env).bind fun p => floop (fun x en => (putT t x en).bind fun e1 => exs b e1) p.1 p.2
  | .whl c b => fun env => wloop (fun en => (sem Φ gv c).t en) (fun en => exs b en) wf env
def exs : ISs → Env → Option (Env × Flow)
  | .nil => fun env => some (env, .nx)
  | .cons s r => fun env => (ex s env).bind fun p => match p.2 with
      | .nx => exs r p.1
      | fl => some (p.1, fl)
end
end

/-! ### defs -/
structure Fn where
  np : Nat
  ns : Nat
  body : ISs
def startEnv (fn : Fn) (as : List (Bool × D)) : Env := as.map (fun p => some (if p.1 then .lent else .fro, p.2)) ++ List.replicate (fn.ns - as.length) none
def postOf (env : Env) : List (Bool × D) → Nat → Option (List (Bool × D))
  | [], _ => some []
  | (false, d) :: r, i => (postOf env r (i + 1)).map ((false, d) :: ·)
  | (true, _) :: r, i => match getC env i with
    | some (.lent, d) => (postOf env r (i + 1)).map ((true, d) :: ·)
    | some (.lfro, d) => (postOf env r (i + 1)).map ((false, d) :: ·)
    | _ => none
def runF (Φ : Phi) (gv : Nat → D) (wf : Nat) (fn : Fn) (as : List (Bool × D)) : Option ((Bool × D) × List (Bool × D)) :=
  if as.length = fn.np then
    match exs Φ gv wf fn.body (startEnv fn as) with
    | some (env, .rt o d) => (postOf env as 0).map fun ps => ((o, d), ps)
    | some (env, .nx) => (postOf env as 0).map fun ps => ((false, .non), ps)
    | _ => none
  else none
def callF (fns : Nat → Option Fn) (gv : Nat → D) (wf : Nat) : Nat → Phi
  | 0 => fun _ _ => none
  | n + 1 => fun f as => match fns f with
    | some fn => runF (callF fns gv wf n) gv wf fn as
    | none => none
end PD
/-! How data lie in the abstract heap. -/
namespace PD
open PySem L2

/-- what is fixed through a law: the written part, the words, the written constants -/
structure Cs where
  K : PySem.W.Frag
  W : List Str
  w : World
def Cs.key (c : Cs) : DK → Option Key
  | .i n => some (.inl n)
  | .w k => (c.W[k]?).map .inr
mutual
def toPy (W : List Str) : D → PyData
  | .non => .none
  | .bl b => .bool b
  | .int i => .int i
  | .w k => .str (W.getD k ⟨#[]⟩)
  | .rp _ => .none
  | .scr _ => .none
  | .tup xs => .tuple (toPys W xs)
  | .lst xs => .list (toPys W xs)
  | .dic _ _ => .none
def toPys (W : List Str) : List D → List PyData
  | [] => []
  | x :: r => toPy W x :: toPys W r
end
/-- a dict's pairs by keys and values -/
inductive Keys (c : Cs) : List (Key × V) → List DK → Prop where
  | nil : Keys c [] []
  | cons {k : Key} {v : V} {kvs : List (Key × V)} {q : DK} {qs : List DK} : c.key q = some k → Keys c kvs qs → Keys c ((k, v) :: kvs) (q :: qs)
mutual
inductive Rep (c : Cs) (G : Hp) : V → D → Prop where
  | non : Rep c G .non .non
  | bl (b : Bool) : Rep c G (.bl b) (.bl b)
  | int (i : Int) : Rep c G (.int i) (.int i)
  | w {k : Nat} {x : Str} : c.W[k]? = some x → Rep c G (.str x) (.w k)
  | rp {d : D} {x : Str} : x = (toPy c.W d).shown → Rep c G (.str x) (.rp d)
  | tup {a : Addr} {xs : List V} {ds : List D} : SqT c.K G a xs → Reps c G xs ds → Rep c G (.ref a) (.tup ds)
  | scr {a : Addr} {ns : List Int} : SqL c.K G a (ns.map V.int) → Rep c G (.ref a) (.scr ns)
  | lst {a : Addr} {xs : List V} {ds : List D} : G a = some (.lst xs) → Reps c G xs ds → Rep c G (.ref a) (.lst ds)
  | dic {a : Addr} {kvs : List (Key × V)} {ks : List DK} {ds : List D} : G a = some (.dK kvs) → Keys c kvs ks → Reps c G (kvs.map (·.2)) ds → Rep c G (.ref a) (.dic ks ds)
inductive Reps (c : Cs) (G : Hp) : List V → List D → Prop where
  | nil : Reps c G [] []
  | cons {v : V} {vs : List V} {d : D} {ds : List D} : Rep c G v d → Reps c G vs ds → Reps c G (v :: vs) (d :: ds)
end
section
variable {c : Cs} {G G' H H' : Hp}
theorem same_t {K : PySem.W.Frag} {a : Addr} {xs : List V} (e : Same H H') (h : SqT K H a xs) : SqT K H' a xs := by
  rcases h with (h | ⟨o, h⟩) | h
  · exact .inl (.inl (e _ _ h))
  · exact .inl (.inr ⟨o, e _ _ h⟩)
  · exact .inr h
mutual
theorem Rep.mono (e : Same G G') : ∀ {v : V} {d : D}, Rep c G v d → Rep c G' v d
  | _, _, .non => .non
  | _, _, .bl b => .bl b
  | _, _, .int i => .int i
  | _, _, .w h => .w h
  | _, _, .rp h => .rp h
  | _, _, .tup h r => .tup (same_t e h) (Reps.mono e r)
  | _, _, .scr h => .scr (e.seq h)
  | _, _, .lst h r => .lst (e _ _ h) (Reps.mono e r)
  | _, _, .dic h k r => .dic (e _ _ h) k (Reps.mono e r)
theorem Reps.mono (e : Same G G') : ∀ {v : List V} {d : List D}, Reps c G v d → Reps c G' v d
  | _, _, .nil => .nil
  | _, _, .cons h r => .cons (Rep.mono e h) (Reps.mono e r)
end
theorem Reps.length : ∀ {vs : List V} {ds : List D}, Reps c G vs ds → vs.length = ds.length
  | _, _, .nil => rfl
  | _, _, .cons _ r => congrArg (· + 1) (Reps.length r)
theorem Reps.get : ∀ {vs : List V} {ds : List D} {i : Nat} {d : D}, Reps c G vs ds → ds[i]? = some d → ∃ v, vs[i]? = some v ∧ Rep c G v d
  | _, _, _, _, .nil, h => by simp at h
  | _, _, 0, _, .cons h _, e => by
    simp at e
    subst e
    exact ⟨_, rfl, h⟩
  | _, _, i + 1, _, .cons _ r, e => by
    obtain ⟨v, h1, h2⟩ := Reps.get (i := i) r (by simpa using e)
    exact ⟨v, by simpa using h1, h2⟩
theorem Reps.app : ∀ {vs us : List V} {ds es : List D}, Reps c G vs ds → Reps c G us es → Reps c G (vs ++ us) (ds ++ es)
  | _, _, _, _, .nil, s => s
  | _, _, _, _, .cons h r, s => .cons h (Reps.app r s)
theorem Reps.take : ∀ (n : Nat) {vs : List V} {ds : List D}, Reps c G vs ds → Reps c G (vs.take n) (ds.take n)
  | 0, _, _, _ => .nil
  | _ + 1, _, _, .nil => .nil
  | n + 1, _, _, .cons h r => .cons h (Reps.take n r)
theorem Reps.drop : ∀ (n : Nat) {vs : List V} {ds : List D}, Reps c G vs ds → Reps c G (vs.drop n) (ds.drop n)
  | 0, _, _, r => r
  | _ + 1, _, _, .nil => .nil
  | n + 1, _, _, .cons _ r => Reps.drop n r
theorem Reps.set {v : V} {d : D} (h : Rep c G v d) : ∀ (n : Nat) {vs : List V} {ds : List D}, Reps c G vs ds → Reps c G (vs.set n v) (ds.set n d)
  | _, _, _, .nil => .nil
  | 0, _, _, .cons _ r => .cons h r
  | n + 1, _, _, .cons q r => .cons q (Reps.set h n r)
theorem Reps.erase : ∀ (n : Nat) {vs : List V} {ds : List D}, Reps c G vs ds → Reps c G (vs.eraseIdx n) (ds.eraseIdx n)
  | _, _, _, .nil => .nil
  | 0, _, _, .cons _ r => r
  | n + 1, _, _, .cons q r => .cons q (Reps.erase n r)
theorem Reps.dropLast : ∀ {vs : List V} {ds : List D}, Reps c G vs ds → Reps c G vs.dropLast ds.dropLast
  | _, _, .nil => .nil
  | _, _, .cons _ .nil => .nil
  | _, _, .cons h (.cons h2 r) => .cons h (Reps.dropLast (.cons h2 r))
theorem Reps.rev : ∀ {vs : List V} {ds : List D}, Reps c G vs ds → Reps c G vs.reverse ds.reverse
  | _, _, .nil => .nil
  | _, _, .cons h r => by
    rw [List.reverse_cons, List.reverse_cons]
    exact Reps.app (Reps.rev r) (.cons h .nil)
theorem Reps.rep (n : Nat) {vs : List V} {ds : List D} (h : Reps c G vs ds) : Reps c G (List.replicate n vs).flatten (List.replicate n ds).flatten := by
  induction n with
  | zero => exact .nil
  | succ n ih =>
    rw [List.replicate_succ, List.replicate_succ, List.flatten_cons, List.flatten_cons]
    exact Reps.app h ih
theorem Reps.nilI {vs : List V} {ds : List D} (h : Reps c G vs ds) : vs = [] ↔ ds = [] := by
  cases h with
  | nil => simp
  | cons _ _ => simp
theorem Reps.mem : ∀ {vs : List V} {ds : List D}, Reps c G vs ds → ∀ v ∈ vs, ∃ d ∈ ds, Rep c G v d
  | _, _, .nil, v, h => by simp at h
  | _, _, .cons q r, v, h => by
    rcases List.mem_cons.mp h with e | h
    · subst e
      exact ⟨_, List.mem_cons_self, q⟩
    · obtain ⟨d, hd, k⟩ := Reps.mem r v h
      exact ⟨d, List.mem_cons_of_mem _ hd, k⟩
theorem Reps.toInts : ∀ {vs : List V} {ds : List D} {ns : List Int}, Reps c G vs ds → intsD ds = some ns → vs = ns.map V.int
  | _, _, _, .nil, h => by
    simp [PD.intsD] at h
    subst h
    rfl
  | _, _, _, .cons (d := .int i) (ds := ds) q r, h => by
    unfold PD.intsD at h
    obtain ⟨ms, h1, h2⟩ := Option.map_eq_some_iff.mp h
    subst h2
    cases q
    rw [Reps.toInts r h1]
    rfl
  | _, _, _, .cons (d := .non) q r, h | _, _, _, .cons (d := .bl _) q r, h | _, _, _, .cons (d := .w _) q r, h | _, _, _, .cons (d := .rp _) q r, h | _, _, _, .cons (d := .scr _) q r, h
  | _, _, _, .cons (d := .tup _) q r, h | _, _, _, .cons (d := .lst _) q r, h | _, _, _, .cons (d := .dic _ _) q r, h => by simp [PD.intsD] at h
theorem Reps.ofInts : ∀ (ns : List Int), Reps c G (ns.map V.int) (ns.map D.int)
  | [] => .nil
  | n :: r => .cons (.int n) (Reps.ofInts r)

/-! ### an object that may be changed -/
def OwnAt (c : Cs) (H G : Hp) (a : Addr) : D → Prop
  | .lst ds => ∃ vs, H a = some (.lst vs) ∧ Reps c G vs ds
  | .dic ks ds => ∃ kvs, H a = some (.dK kvs) ∧ Keys c kvs ks ∧ Reps c G (kvs.map (·.2)) ds
  | _ => False
theorem OwnAt.some {a : Addr} {d : D} (h : OwnAt c H G a d) : ∃ o, H a = some o := by
  cases d with
  | lst ds => obtain ⟨vs, e, _⟩ := h; exact ⟨_, e⟩
  | dic ks ds => obtain ⟨vs, e, _⟩ := h; exact ⟨_, e⟩
  | _ => exact h.elim
theorem OwnAt.mono {a : Addr} {d : D} (h : OwnAt c H G a d) (e : H' a = H a) (g : Same G G') : OwnAt c H' G' a d := by
  cases d with
  | lst ds => obtain ⟨vs, q, r⟩ := h; exact ⟨vs, by rw [e]; exact q, r.mono g⟩
  | dic ks ds => obtain ⟨vs, q, k, r⟩ := h; exact ⟨vs, by rw [e]; exact q, k, r.mono g⟩
  | _ => exact h.elim
/-- it is changed no more -/
theorem OwnAt.rep {a : Addr} {d : D} (h : OwnAt c H G a d) (g : Same G G') (e : G' a = H a) : Rep c G' (.ref a) d := by
  cases d with
  | lst ds => obtain ⟨vs, q, r⟩ := h; exact .lst (by rw [e]; exact q) (r.mono g)
  | dic ks ds => obtain ⟨vs, q, k, r⟩ := h; exact .dic (by rw [e]; exact q) k (r.mono g)
  | _ => exact h.elim
/-- it is looked at -/
theorem OwnAt.seen {a : Addr} {d : D} (h : OwnAt c H G a d) (g : Same G H) : Rep c H (.ref a) d := h.rep g rfl

/-! ### what a body knows -/
structure Bs where
  cs : Cs
  H0 : Hp
  G0 : Hp
  L : List (Nat × Addr)
def isOwn : Fl → Bool
  | .own => true
  | .lent => true
  | _ => false
def CellAt (b : Bs) (H G : Hp) (i : Nat) (d : D) (v : V) : Fl → Prop
  | .fro => Rep b.cs G v d
  | .lfro => Rep b.cs G v d ∧ ∃ a, v = .ref a ∧ (i, a) ∈ b.L
  | .own => ∃ a, v = .ref a ∧ G a = none ∧ b.H0 a = none ∧ OwnAt b.cs H G a d
  | .lent => ∃ a, v = .ref a ∧ G a = none ∧ (i, a) ∈ b.L ∧ OwnAt b.cs H G a d
structure Sat (b : Bs) (σ : L2.St) (H G : Hp) (env : Env) : Prop where
  len : env.length = σ.length
  ex : Same G H
  ex0 : Same b.G0 G
  keep : ∀ p o, b.H0 p = some o → (∀ q ∈ b.L, q.2 ≠ p) → H p = some o
  new : ∀ p o, G p = some o → b.G0 p = some o ∨ b.H0 p = none ∨ ∃ q ∈ b.L, q.2 = p
  lents : ∀ q ∈ b.L, ∃ o, H q.2 = some o
  slot : ∀ (i : Nat) (f : Fl) (d : D), env[i]? = some (some (f, d)) → ∃ v, σ[i]? = some (some v) ∧ CellAt b H G i d v f
  apart : ∀ (i j : Nat) (f g : Fl) (d e : D) (a : Addr), env[i]? = some (some (f, d)) → env[j]? = some (some (g, e)) → isOwn f = true → isOwn g = true → σ[i]? = some (some (V.ref a)) → σ[j]? = some (some (V.ref a)) → i = j
/-- a value as it comes -/
def ResAt (b : Bs) (σ : L2.St) (H G : Hp) (env : Env) (v : V) (d : D) : Bool → Prop
  | false => Rep b.cs G v d
  | true => ∃ a, v = .ref a ∧ G a = none ∧ b.H0 a = none ∧ OwnAt b.cs H G a d ∧ ∀ (i : Nat) (f : Fl) (e : D), env[i]? = some (some (f, e)) → isOwn f = true → σ[i]? ≠ some (some (V.ref a))
variable {b : Bs} {σ : L2.St} {env env' : Env}
theorem CellAt.mono {i : Nat} {d : D} {v : V} {f : Fl} (h : CellAt b H G i d v f) (g : Same G G') (k : ∀ a, v = .ref a → G a = none → (∃ o, H a = some o) → isOwn f = true → G' a = none ∧ H' a = H a) : CellAt b H' G' i d v f := by
  cases f with
  | fro => exact Rep.mono g h
  | lfro => exact ⟨Rep.mono g h.1, h.2⟩
  | own =>
    obtain ⟨a, e, n, m, o⟩ := h
    obtain ⟨k1, k2⟩ := k a e n o.some rfl
    exact ⟨a, e, k1, m, o.mono k2 g⟩
  | lent =>
    obtain ⟨a, e, n, m, o⟩ := h
    obtain ⟨k1, k2⟩ := k a e n o.some rfl
    exact ⟨a, e, k1, m, o.mono k2 g⟩
theorem CellAt.isRef {i : Nat} {d : D} {v : V} {f : Fl} (h : CellAt b H G i d v f) (hf : isOwn f = true) : ∃ a, v = .ref a ∧ G a = none ∧ OwnAt b.cs H G a d ∧ (b.H0 a = none ∨ (i, a) ∈ b.L) := by
  cases f with
  | fro => cases hf
  | lfro => cases hf
  | own => obtain ⟨a, e, n, m, o⟩ := h; exact ⟨a, e, n, o, .inl m⟩
  | lent => obtain ⟨a, e, n, m, o⟩ := h; exact ⟨a, e, n, o, .inr m⟩
/-- a new object, known from now on -/
theorem Sat.laid (S : Sat b σ H G env) {p : Addr} {o : HO} (hp : H p = none) : Same G (upd G p o) ∧ Sat b σ (upd H p o) (upd G p o) env := by
  have gp : G p = none := S.ex.free hp
  have g1 : Same G (upd G p o) := fun a u e => by rw [upd_ne (ne_of_none e gp)]; exact e
  refine ⟨g1, S.len, fun a u e => ?_, S.ex0.trans g1, fun a u e k => ?_, fun a u e => ?_, fun q hq => ?_, fun i f d e => ?_, S.apart⟩
  · by_cases h : a = p
    · subst h; rw [upd_same] at e ⊢; exact e
    · rw [upd_ne h] at e ⊢; exact S.ex _ _ e
  · have h := S.keep a u e k
    rw [upd_ne (ne_of_none h hp)]; exact h
  · by_cases h : a = p
    · subst h
      cases q : b.H0 a with
      | none => exact .inr (.inl rfl)
      | some z =>
        by_cases hl : ∃ q ∈ b.L, q.2 = a
        · exact .inr (.inr hl)
        · have := S.keep a z q fun r hr er => hl ⟨r, hr, er⟩
          rw [hp] at this; cases this
    · rw [upd_ne h] at e; exact S.new _ _ e
  · obtain ⟨z, hz⟩ := S.lents q hq
    exact ⟨z, by rw [upd_ne (ne_of_none hz hp)]; exact hz⟩
  · obtain ⟨v, hv, k⟩ := S.slot i f d e
    refine ⟨v, hv, k.mono g1 fun a ea n ⟨z, hz⟩ _ => ?_⟩
    have ne : a ≠ p := ne_of_none hz hp
    exact ⟨by rw [upd_ne ne]; exact n, by rw [upd_ne ne]⟩
/-- a new object of one's own -/
theorem Sat.made (S : Sat b σ H G env) {p : Addr} {o : HO} (hp : H p = none) : Sat b σ (upd H p o) G env ∧ G p = none ∧ b.H0 p = none ∧ ∀ (i : Nat) (f : Fl) (e : D), env[i]? = some (some (f, e)) → isOwn f = true → σ[i]? ≠ some (some (V.ref p)) := by
  have gp : G p = none := S.ex.free hp
  have h0 : b.H0 p = none := by
    cases q : b.H0 p with
    | none => rfl
    | some z =>
      by_cases hl : ∃ q ∈ b.L, q.2 = p
      · obtain ⟨r, hr, er⟩ := hl
        obtain ⟨u, hu⟩ := S.lents r hr
        rw [er, hp] at hu; cases hu
      · have := S.keep p z q fun r hr er => hl ⟨r, hr, er⟩
        rw [hp] at this; cases this
  refine ⟨⟨S.len, fun a u e => ?_, S.ex0, fun a u e k => ?_, S.new, fun q hq => ?_, fun i f d e => ?_, S.apart⟩, gp, h0, fun i f e he hf hs => ?_⟩
  · rw [upd_ne (ne_of_none e gp)]; exact S.ex _ _ e
  · have h := S.keep a u e k
    rw [upd_ne (ne_of_none h hp)]; exact h
  · obtain ⟨z, hz⟩ := S.lents q hq
    exact ⟨z, by rw [upd_ne (ne_of_none hz hp)]; exact hz⟩
  · obtain ⟨v, hv, k⟩ := S.slot i f d e
    refine ⟨v, hv, k.mono (Same.refl G) fun a ea n ⟨z, hz⟩ _ => ?_⟩
    have ne : a ≠ p := ne_of_none hz hp
    exact ⟨n, by rw [upd_ne ne]⟩
  · obtain ⟨v, hv, k⟩ := S.slot i f e he
    rw [hs] at hv; cases hv
    obtain ⟨a, ea, _, ow, _⟩ := k.isRef hf
    cases ea
    obtain ⟨z, hz⟩ := ow.some
    rw [hp] at hz; cases hz
/-- an object of one's own, or a lent one, is changed -/
theorem Sat.write (S : Sat b σ H G env) {i : Nat} {f : Fl} {d d' : D} {a : Addr} {o : HO} (he : env[i]? = some (some (f, d))) (hf : isOwn f = true) (hs : σ[i]? = some (some (V.ref a))) (ow : OwnAt b.cs (upd H a o) G a d') :
    Sat b σ (upd H a o) G (env.set i (some (f, d'))) := by
  obtain ⟨v, hv, k⟩ := S.slot i f d he
  rw [hs] at hv; cases hv
  obtain ⟨a', ea, ga, _, hh⟩ := k.isRef hf
  cases ea
  have hi : i < env.length := (List.getElem?_eq_some_iff.mp he).1
  refine ⟨by rw [List.length_set]; exact S.len, fun p u e => ?_, S.ex0, fun p u e kk => ?_, S.new, fun q hq => ?_, fun j g e hj => ?_, fun j l g g' e e' x hj hl h1 h2 s1 s2 => ?_⟩
  · rw [upd_ne (ne_of_none e ga)]; exact S.ex _ _ e
  · have ne : p ≠ a := by
      rintro rfl
      rcases hh with h | h
      · rw [e] at h; cases h
      · exact kk _ h rfl
    rw [upd_ne ne]; exact S.keep _ _ e kk
  · by_cases h : q.2 = a
    · exact ⟨o, by rw [h, upd_same]⟩
    · obtain ⟨z, hz⟩ := S.lents q hq
      exact ⟨z, by rw [upd_ne h]; exact hz⟩
  · by_cases hij : j = i
    · subst hij
      rw [List.getElem?_set_self hi] at hj
      cases hj
      refine ⟨.ref a, hs, ?_⟩
      cases f with
      | fro => cases hf
      | lfro => cases hf
      | own => obtain ⟨x, ex, n, m, _⟩ := k; cases ex; exact ⟨_, rfl, n, m, ow⟩
      | lent => obtain ⟨x, ex, n, m, _⟩ := k; cases ex; exact ⟨_, rfl, n, m, ow⟩
    · rw [List.getElem?_set_ne (Ne.symm hij)] at hj
      obtain ⟨u, hu, ku⟩ := S.slot j g e hj
      refine ⟨u, hu, ku.mono (Same.refl G) fun x ex n _ og => ⟨n, ?_⟩⟩
      have ne : x ≠ a := by
        rintro rfl
        subst ex
        exact hij (S.apart j i g f e d _ hj he og hf hu hs)
      rw [upd_ne ne]
  · have hj' : ∃ e0 g0, env[j]? = some (some (g0, e0)) ∧ isOwn g0 = true := by
      by_cases hji : j = i
      · subst hji; exact ⟨d, f, he, hf⟩
      · rw [List.getElem?_set_ne (Ne.symm hji)] at hj; exact ⟨_, _, hj, h1⟩
    have hl' : ∃ e0 g0, env[l]? = some (some (g0, e0)) ∧ isOwn g0 = true := by
      by_cases hli : l = i
      · subst hli; exact ⟨d, f, he, hf⟩
      · rw [List.getElem?_set_ne (Ne.symm hli)] at hl; exact ⟨_, _, hl, h2⟩
    obtain ⟨e1, g1, q1, o1⟩ := hj'
    obtain ⟨e2, g2, q2, o2⟩ := hl'
    exact S.apart j l g1 g2 e1 e2 x q1 q2 o1 o2 s1 s2
/-- from now on it is held by more than its name -/
theorem Sat.frozen (S : Sat b σ H G env) {i : Nat} {f : Fl} {d : D} (he : env[i]? = some (some (f, d))) : ∃ G' v, Same G G' ∧ Sat b σ H G' (env.set i (some (frz f, d))) ∧ σ[i]? = some (some v) ∧ Rep b.cs G' v d := by
  obtain ⟨v, hv, k⟩ := S.slot i f d he
  have hi : i < env.length := (List.getElem?_eq_some_iff.mp he).1
  by_cases hf : isOwn f = true
  · obtain ⟨a, ea, ga, ow, hh⟩ := k.isRef hf
    subst ea
    obtain ⟨z, hz⟩ := ow.some
    have g1 : Same G (upd G a z) := fun p u e => by rw [upd_ne (ne_of_none e ga)]; exact e
    have r1 : Rep b.cs (upd G a z) (.ref a) d := ow.rep g1 (by rw [upd_same, hz])
    refine ⟨upd G a z, .ref a, g1, ⟨by rw [List.length_set]; exact S.len, fun p u e => ?_, S.ex0.trans g1, S.keep, fun p u e => ?_, S.lents, fun j g e hj => ?_, fun j l g g' e e' x hj hl h1 h2 s1 s2 => ?_⟩, hv, r1⟩
    · by_cases h : p = a
      · subst h; rw [upd_same] at e; cases e; exact hz
      · rw [upd_ne h] at e; exact S.ex _ _ e
    · by_cases h : p = a
      · subst h
        rcases hh with q | q
        · exact .inr (.inl q)
        · exact .inr (.inr ⟨_, q, rfl⟩)
      · rw [upd_ne h] at e; exact S.new _ _ e
    · by_cases hij : j = i
      · subst hij
        rw [List.getElem?_set_self hi] at hj
        cases hj
        refine ⟨.ref a, hv, ?_⟩
        cases f with
        | fro => cases hf
        | lfro => cases hf
        | own => exact r1
        | lent => obtain ⟨x, ex, n, m, _⟩ := k; cases ex; exact ⟨r1, _, rfl, m⟩
      · rw [List.getElem?_set_ne (Ne.symm hij)] at hj
        obtain ⟨u, hu, ku⟩ := S.slot j g e hj
        refine ⟨u, hu, ku.mono g1 fun x ex n _ og => ⟨?_, rfl⟩⟩
        have ne : x ≠ a := by
          rintro rfl
          subst ex
          exact hij (S.apart j i g f e d _ hj he og hf hu hv)
        rw [upd_ne ne]; exact n
    · have up : ∀ {m : Nat} {g : Fl} {e : D}, (env.set i (some (frz f, d)))[m]? = some (some (g, e)) → isOwn g = true → env[m]? = some (some (g, e)) := by
        intro m g e hm hg
        by_cases hmi : m = i
        · subst hmi
          rw [List.getElem?_set_self hi] at hm
          cases hm
          cases f <;> cases hg
        · rw [List.getElem?_set_ne (Ne.symm hmi)] at hm; exact hm
      exact S.apart j l g g' e e' x (up hj h1) (up hl h2) h1 h2 s1 s2
  · have e1 : frz f = f := by cases f <;> first | rfl | exact absurd rfl hf
    have e2 : env.set i (some (frz f, d)) = env := by
      rw [e1]
      exact List.ext_getElem? fun j => by
        by_cases hij : j = i
        · subst hij; rw [List.getElem?_set_self hi, he]
        · rw [List.getElem?_set_ne (Ne.symm hij)]
    rw [e2]
    refine ⟨G, v, Same.refl G, S, hv, ?_⟩
    cases f with
    | fro => exact k
    | lfro => exact k.1
    | own => exact absurd rfl hf
    | lent => exact absurd rfl hf
theorem Sat.tail (S : Sat b σ H G env) {own : Bool} {v : V} {d : D} (r : ResAt b σ H G env v d own) : ∃ G', Same G G' ∧ Sat b σ H G' env ∧ Rep b.cs G' v d := by
  cases own with
  | false => exact ⟨G, Same.refl G, S, r⟩
  | true =>
    obtain ⟨a, ea, ga, ha, ow, hn⟩ := r
    subst ea
    obtain ⟨z, hz⟩ := ow.some
    have g1 : Same G (upd G a z) := fun p u e => by rw [upd_ne (ne_of_none e ga)]; exact e
    refine ⟨upd G a z, g1, ⟨S.len, fun p u e => ?_, S.ex0.trans g1, S.keep, fun p u e => ?_, S.lents, fun j g e hj => ?_, S.apart⟩, ow.rep g1 (by rw [upd_same, hz])⟩
    · by_cases h : p = a
      · subst h; rw [upd_same] at e; cases e; exact hz
      · rw [upd_ne h] at e; exact S.ex _ _ e
    · by_cases h : p = a
      · subst h; exact .inr (.inl ha)
      · rw [upd_ne h] at e; exact S.new _ _ e
    · obtain ⟨u, hu, ku⟩ := S.slot j g e hj
      refine ⟨u, hu, ku.mono g1 fun x ex n _ og => ⟨?_, rfl⟩⟩
      have ne : x ≠ a := by
        rintro rfl
        subst ex
        exact hn j g e hj og hu
      rw [upd_ne ne]; exact n
end
end PD
/-! Operations: what the rules ask, answered by data. -/
namespace PD
open PySem L2

/-- what comes next takes any value that stands for d -/
def Kon (b : Bs) (σ : L2.St) (env : Env) (G : Hp) (own : Bool) (d : D) (Q : VK) : Prop :=
  ∀ v H' G', Same G G' → Sat b σ H' G' env → ResAt b σ H' G' env v d own → Q v H'
section
variable {b : Bs} {σ : L2.St} {env : Env} {H G : Hp} {Q : VK}
theorem Kon.rep (k : Kon b σ env G false d Q) (S : Sat b σ H G env) {v : V} (r : Rep b.cs G v d) : Q v H := k v H G (Same.refl G) S r
theorem Kon.tupN {vs : List V} {ds : List D} (k : Kon b σ env G false (.tup ds) Q) (S : Sat b σ H G env) (r : Reps b.cs G vs ds) {p : Addr} (hp : H p = none) : Q (.ref p) (upd H p (.tup vs)) := by
  obtain ⟨g, S'⟩ := S.laid (o := .tup vs) hp
  exact k _ _ _ g S' (.tup (.of upd_same) (r.mono g))
theorem Kon.lstN {vs : List V} {ds : List D} (k : Kon b σ env G true (.lst ds) Q) (S : Sat b σ H G env) (r : Reps b.cs G vs ds) {p : Addr} (hp : H p = none) : Q (.ref p) (upd H p (.lst vs)) := by
  obtain ⟨S', h1, h2, h3⟩ := S.made (o := .lst vs) hp
  exact k _ _ _ (Same.refl G) S' ⟨p, rfl, h1, h2, ⟨vs, upd_same, r⟩, h3⟩
theorem SqT.seen {K : PySem.W.Frag} {a : Addr} {xs : List V} (S : Sat b σ H G env) (h : SqT K G a xs) : SqT K H a xs := same_t S.ex h

/-! ### operators -/
def rBin (K : PySem.W.Frag) : BOp → R2
  | .add => fun x y H Q => (rI0 fun i j => .int (i + j)) x y H Q ∨ rCatA K x y H Q ∨ rCat x y H Q
  | .sub => rI0 fun i j => .int (i - j)
  | .mul => fun x y H Q => (rI CMul fun i j => .int (i * j)) x y H Q ∨ rRepT K x y H Q ∨ rRep x y H Q
  | .mod => rI (fun _ j => j ≠ 0) fun i j => .int (i.fmod j)
  | .fdiv => rI CDivN fun i j => .int (i.fdiv j)
  | .pow => rI CPow fun i j => .int (i ^ j.toNat)
def pOp : BOp → Operator
  | .add => .Add
  | .sub => .Sub
  | .mul => .Mult
  | .mod => .Mod
  | .fdiv => .FloorDiv
  | .pow => .Pow
theorem op_bin {X : Cx} : ∀ op, OpR X (binaryOp (pOp op)) (rBin X.K op)
  | .add => op_add.or (op_catA.or op_cat)
  | .sub => op_sub
  | .mul => op_mul.or (op_repT.or op_rep)
  | .mod => op_modN
  | .fdiv => op_fdivN
  | .pow => op_pow
theorem le_line {n : Nat} (h : n ≤ 1000000) : n ≤ sizeLine := by rw [sizeLine_eq]; omega
theorem lt_line {n : Nat} (h : n < 1000000) : n < sizeLine := by rw [sizeLine_eq]; omega
theorem bin_ok {op : BOp} {x y d : D} {vx vy : V} (hd : binD op x y = some d) (S : Sat b σ H G env) (rx : Rep b.cs G vx x) (ry : Rep b.cs G vy y) (k : Kon b σ env G (isL d) d Q) : rBin b.cs.K op vx vy H Q := by
  unfold binD at hd
  split at hd
  · cases hd; cases rx; cases ry
    exact .inl ⟨_, _, rfl, rfl, k.rep S (.int _)⟩
  · cases hd; cases rx; cases ry
    exact ⟨_, _, rfl, rfl, k.rep S (.int _)⟩
  · split at hd
    · rename_i hc
      cases hd; cases rx; cases ry
      exact .inl ⟨_, _, rfl, rfl, hc, k.rep S (.int _)⟩
    · cases hd
  · split at hd
    · rename_i hc
      cases hd; cases rx; cases ry
      exact ⟨_, _, rfl, rfl, hc, k.rep S (.int _)⟩
    · cases hd
  · split at hd
    · rename_i hc
      cases hd; cases rx; cases ry
      exact ⟨_, _, rfl, rfl, hc, k.rep S (.int _)⟩
    · cases hd
  · split at hd
    · rename_i hc
      cases hd; cases rx; cases ry
      exact ⟨_, _, rfl, rfl, hc, k.rep S (.int _)⟩
    · cases hd
  · split at hd
    · rename_i hc
      cases hd
      cases rx with
      | tup h1 r1 =>
        cases ry with
        | tup h2 r2 =>
          refine .inr (.inl ⟨_, _, _, _, rfl, rfl, SqT.seen S h1, SqT.seen S h2, ?_, fun e => ?_, fun _ e => ?_, fun _ _ p hp => ?_⟩)
          · rw [r1.length, r2.length]; exact le_line hc
          · subst e
            cases r1
            exact k.rep S (.tup h2 r2)
          · subst e
            cases r2
            exact k.rep S (.tup h1 (by rw [List.append_nil]; exact r1))
          · exact k.tupN S (r1.app r2) hp
    · cases hd
  · split at hd
    · rename_i hc
      cases hd
      cases rx with
      | lst h1 r1 =>
        cases ry with
        | lst h2 r2 =>
          refine .inr (.inr ⟨_, _, _, _, rfl, rfl, S.ex _ _ h1, S.ex _ _ h2, ?_, fun p hp => ?_⟩)
          · rw [r1.length, r2.length]; exact le_line hc
          · exact k.lstN S (r1.app r2) hp
    · cases hd
  · split at hd
    · rename_i hc
      cases hd
      cases ry
      cases rx with
      | tup h1 r1 =>
        refine .inr (.inl ⟨_, _, _, rfl, rfl, SqT.seen S h1, fun e => ?_, hc.1, hc.2.1, ?_, fun p hp => ?_⟩)
        · have := r1.nilI.mp e
          rw [this] at hc
          exact absurd hc.2.2.2 (by simp)
        · rw [r1.length]; exact hc.2.2.1
        · exact k.tupN S (r1.rep _) hp
    · cases hd
  · split at hd
    · rename_i hc
      cases hd
      cases ry
      cases rx with
      | lst h1 r1 =>
        refine .inr (.inr ⟨_, _, _, rfl, rfl, S.ex _ _ h1, ?_, ?_, ?_, fun p hp => ?_⟩)
        · have := hc.1; omega
        · have := hc.2.1; omega
        · rw [r1.length]; exact le_line hc.2.2
        · exact k.lstN S (r1.rep _) hp
    · cases hd
  · cases hd

/-! ### comparisons -/
mutual
theorem Rep.dp (nd : b.cs.W.Nodup) : ∀ {n : Nat} {v : V} {d : D}, Rep b.cs G v d → D.pl n d = true → Dp b.cs.K G v (toPy b.cs.W d)
  | _, _, _, .non, _ => by unfold toPy; exact .non
  | _, _, _, .bl x, _ => by unfold toPy; exact .bl x
  | _, _, _, .int x, _ => by unfold toPy; exact .int x
  | _, _, _, .w h, _ => by
    unfold toPy
    rw [List.getD_eq_getElem?_getD, h]
    exact .str _
  | _, _, _, .rp _, h => by unfold D.pl at h; cases h
  | _, _, _, .scr _, h => by unfold D.pl at h; cases h
  | 0, _, _, .tup _ _, h => by unfold D.pl at h; cases h
  | n + 1, _, _, .tup q r, h => by
    unfold toPy
    unfold D.pl at h
    exact .tup q (Reps.dp nd r h)
  | 0, _, _, .lst _ _, h => by unfold D.pl at h; cases h
  | n + 1, _, _, .lst q r, h => by
    unfold toPy
    unfold D.pl at h
    exact .lst (.of q) (Reps.dp nd r h)
  | 0, _, _, .dic _ _ _, h => by unfold D.pl at h; cases h
  | n + 1, _, _, .dic _ _ _, h => by unfold D.pl at h; cases h
theorem Reps.dp (nd : b.cs.W.Nodup) : ∀ {n : Nat} {v : List V} {d : List D}, Reps b.cs G v d → D.pls n d = true → DpAll b.cs.K G v (toPys b.cs.W d)
  | _, _, _, .nil, _ => by unfold toPys; exact .nil
  | n, _, _, .cons q r, h => by
    unfold toPys
    unfold D.pls at h
    rw [Bool.and_eq_true] at h
    exact .cons (Rep.dp nd q h.1) (Reps.dp nd r h.2)
end
end

/-! ### comparisons of data -/
structure WOk (W : List Str) : Prop where
  nd : W.Nodup
  ok : ∀ x ∈ W, PyData.strOk x = true
  ln : ∀ x ∈ W, x.cps.size ≤ 30
section
variable {b : Bs} {σ : L2.St} {env : Env} {H G : Hp} {Q : VK}
mutual
theorem Rep.lay (ok : WOk b.cs.W) : ∀ {n : Nat} {v : V} {d : D}, Rep b.cs G v d → D.pl n d = true → (toPy b.cs.W d).canLay0 = true ∧ (toPy b.cs.W d).depth ≤ n ∧ (toPy b.cs.W d).hasDict = false
  | _, _, _, .non, _ => by simp [toPy, PyData.canLay0, PyData.depth, PyData.hasDict]
  | _, _, _, .bl x, _ => by simp [toPy, PyData.canLay0, PyData.depth, PyData.hasDict]
  | _, _, _, .int x, _ => by simp [toPy, PyData.canLay0, PyData.depth, PyData.hasDict]
  | _, _, _, .w h, _ => by
    unfold toPy
    rw [List.getD_eq_getElem?_getD, h]
    refine ⟨?_, by simp [PyData.depth], by simp [PyData.hasDict]⟩
    simp only [PyData.canLay0, Option.getD_some]
    exact ok.ok _ (List.mem_of_getElem? h)
  | _, _, _, .rp _, h => by unfold D.pl at h; cases h
  | _, _, _, .scr _, h => by unfold D.pl at h; cases h
  | 0, _, _, .tup _ _, h => by unfold D.pl at h; cases h
  | n + 1, _, _, .tup q r, h => by
    unfold D.pl at h
    obtain ⟨h1, h2, h3⟩ := Reps.lay ok r h
    unfold toPy
    simp only [PyData.canLay0, PyData.depth, PyData.hasDict]
    exact ⟨h1, Nat.succ_le_succ h2, h3⟩
  | 0, _, _, .lst _ _, h => by unfold D.pl at h; cases h
  | n + 1, _, _, .lst q r, h => by
    unfold D.pl at h
    obtain ⟨h1, h2, h3⟩ := Reps.lay ok r h
    unfold toPy
    simp only [PyData.canLay0, PyData.depth, PyData.hasDict]
    exact ⟨h1, Nat.succ_le_succ h2, h3⟩
  | 0, _, _, .dic _ _ _, h => by unfold D.pl at h; cases h
  | n + 1, _, _, .dic _ _ _, h => by unfold D.pl at h; cases h
theorem Reps.lay (ok : WOk b.cs.W) : ∀ {n : Nat} {v : List V} {d : List D}, Reps b.cs G v d → D.pls n d = true → PyData.canLayAll0 (toPys b.cs.W d) = true ∧ PyData.depthAll (toPys b.cs.W d) ≤ n ∧ PyData.hasDictAll (toPys b.cs.W d) = false
  | _, _, _, .nil, _ => by simp [toPys, PyData.canLayAll0, PyData.depthAll, PyData.hasDictAll]
  | n, _, _, .cons q r, h => by
    unfold D.pls at h
    rw [Bool.and_eq_true] at h
    obtain ⟨h1, h2, h3⟩ := Rep.lay ok q h.1
    obtain ⟨g1, g2, g3⟩ := Reps.lay ok r h.2
    unfold toPys
    simp only [PyData.canLayAll0, PyData.depthAll, PyData.hasDictAll, h1, g1, h3, g3]
    exact ⟨rfl, Nat.max_le.mpr ⟨h2, g2⟩, rfl⟩
end
theorem str_inj {W : List Str} (nd : W.Nodup) {j k : Nat} {x : Str} (h1 : W[j]? = some x) (h2 : W[k]? = some x) : j = k := by
  obtain ⟨a, e1⟩ := List.getElem?_eq_some_iff.mp h1
  obtain ⟨c, e2⟩ := List.getElem?_eq_some_iff.mp h2
  exact (List.getElem_inj nd).mp (e1.trans e2.symm)
theorem str_beq {W : List Str} (nd : W.Nodup) {j k : Nat} {x y : Str} (h1 : W[j]? = some x) (h2 : W[k]? = some y) : (x == y) = (j == k) := by
  by_cases e : j = k
  · subst e
    rw [h1] at h2
    cases h2
    simp
  · have ne : ¬ x = y := fun q => e (str_inj nd h1 (q ▸ h2))
    rw [beq_eq_false_iff_ne.mpr ne, beq_eq_false_iff_ne.mpr e]
mutual
theorem Rep.eqv (nd : b.cs.W.Nodup) : ∀ {n m : Nat} {v u : V} {d e : D}, Rep b.cs G v d → Rep b.cs G u e → D.pl n d = true → D.pl m e = true → PyData.eqv (toPy b.cs.W d) (toPy b.cs.W e) = D.eqv d e
  | _, _, _, _, _, _, .rp _, _, h, _ => by unfold D.pl at h; cases h
  | _, _, _, _, _, _, _, .rp _, _, h => by unfold D.pl at h; cases h
  | _, _, _, _, _, _, .scr _, _, h, _ => by unfold D.pl at h; cases h
  | _, _, _, _, _, _, _, .scr _, _, h => by unfold D.pl at h; cases h
  | n, _, _, _, _, _, .dic _ _ _, _, h, _ => by cases n <;> (unfold D.pl at h; cases h)
  | _, m, _, _, _, _, _, .dic _ _ _, _, h => by cases m <;> (unfold D.pl at h; cases h)
  | _, _, _, _, _, _, .w h1, .w h2, _, _ => by
    simp only [toPy, PyData.eqv, D.eqv]
    rw [List.getD_eq_getElem?_getD, List.getD_eq_getElem?_getD, h1, h2]
    exact str_beq nd h1 h2
  | n, m, _, _, _, _, .tup _ r1, .tup _ r2, h1, h2 => by
    simp only [toPy, PyData.eqv, D.eqv]
    cases n with
    | zero => unfold D.pl at h1; cases h1
    | succ n =>
      cases m with
      | zero => unfold D.pl at h2; cases h2
      | succ m =>
        unfold D.pl at h1 h2
        exact Reps.eqv nd r1 r2 h1 h2
  | n, m, _, _, _, _, .lst _ r1, .lst _ r2, h1, h2 => by
    simp only [toPy, PyData.eqv, D.eqv]
    cases n with
    | zero => unfold D.pl at h1; cases h1
    | succ n =>
      cases m with
      | zero => unfold D.pl at h2; cases h2
      | succ m =>
        unfold D.pl at h1 h2
        exact Reps.eqv nd r1 r2 h1 h2
  | _, _, _, _, _, _, .non, .non, _, _ | _, _, _, _, _, _, .non, .bl _, _, _ | _, _, _, _, _, _, .non, .int _, _, _ | _, _, _, _, _, _, .non, .w _, _, _ | _, _, _, _, _, _, .non, .tup _ _, _, _ | _, _, _, _, _, _, .non, .lst _ _, _, _
  | _, _, _, _, _, _, .bl _, .non, _, _ | _, _, _, _, _, _, .bl _, .bl _, _, _ | _, _, _, _, _, _, .bl _, .int _, _, _ | _, _, _, _, _, _, .bl _, .w _, _, _ | _, _, _, _, _, _, .bl _, .tup _ _, _, _ | _, _, _, _, _, _, .bl _, .lst _ _, _, _
  | _, _, _, _, _, _, .int _, .non, _, _ | _, _, _, _, _, _, .int _, .bl _, _, _ | _, _, _, _, _, _, .int _, .int _, _, _ | _, _, _, _, _, _, .int _, .w _, _, _ | _, _, _, _, _, _, .int _, .tup _ _, _, _ | _, _, _, _, _, _, .int _, .lst _ _, _, _
  | _, _, _, _, _, _, .w _, .non, _, _ | _, _, _, _, _, _, .w _, .bl _, _, _ | _, _, _, _, _, _, .w _, .int _, _, _ | _, _, _, _, _, _, .w _, .tup _ _, _, _ | _, _, _, _, _, _, .w _, .lst _ _, _, _
  | _, _, _, _, _, _, .tup _ _, .non, _, _ | _, _, _, _, _, _, .tup _ _, .bl _, _, _ | _, _, _, _, _, _, .tup _ _, .int _, _, _ | _, _, _, _, _, _, .tup _ _, .w _, _, _ | _, _, _, _, _, _, .tup _ _, .lst _ _, _, _
  | _, _, _, _, _, _, .lst _ _, .non, _, _ | _, _, _, _, _, _, .lst _ _, .bl _, _, _ | _, _, _, _, _, _, .lst _ _, .int _, _, _ | _, _, _, _, _, _, .lst _ _, .w _, _, _ | _, _, _, _, _, _, .lst _ _, .tup _ _, _, _ => by simp only [toPy, PyData.eqv, D.eqv]
theorem Reps.eqv (nd : b.cs.W.Nodup) : ∀ {n m : Nat} {v u : List V} {d e : List D}, Reps b.cs G v d → Reps b.cs G u e → D.pls n d = true → D.pls m e = true → PyData.eqvAll (toPys b.cs.W d) (toPys b.cs.W e) = D.eqvs d e
  | _, _, _, _, _, _, .nil, .nil, _, _ => by simp only [toPys, PyData.eqvAll, D.eqvs]
  | _, _, _, _, _, _, .nil, .cons _ _, _, _ => by simp only [toPys, PyData.eqvAll, D.eqvs]
  | _, _, _, _, _, _, .cons _ _, .nil, _, _ => by simp only [toPys, PyData.eqvAll, D.eqvs]
  | _, _, _, _, _, _, .cons q1 r1, .cons q2 r2, h1, h2 => by
    unfold D.pls at h1 h2
    rw [Bool.and_eq_true] at h1 h2
    simp only [toPys, PyData.eqvAll, D.eqvs]
    rw [Rep.eqv nd q1 q2 h1.1 h2.1, Reps.eqv nd r1 r2 h1.2 h2.2]
end
mutual
theorem D.same_eq : ∀ {x y : D}, D.same x y = true → x = y
  | .non, .non, _ => rfl
  | .bl a, .bl b, h => by simp only [D.same, beq_iff_eq] at h; rw [h]
  | .int a, .int b, h => by simp only [D.same, beq_iff_eq] at h; rw [h]
  | .w a, .w b, h => by simp only [D.same, beq_iff_eq] at h; rw [h]
  | .rp a, .rp b, h => by simp only [D.same] at h; rw [D.same_eq h]
  | .tup a, .tup b, h => by simp only [D.same] at h; rw [D.sames_eq h]
  | .lst a, .lst b, h => by simp only [D.same] at h; rw [D.sames_eq h]
  | .dic k a, .dic l b, h => by
    simp only [D.same, Bool.and_eq_true, decide_eq_true_eq] at h
    rw [h.1, D.sames_eq h.2]
  | .scr _, y, h => by cases y <;> (simp only [D.same] at h; cases h)
  | .non, .bl _, h | .non, .int _, h | .non, .w _, h | .non, .rp _, h | .non, .scr _, h | .non, .tup _, h | .non, .lst _, h | .non, .dic _ _, h
  | .bl _, .non, h | .bl _, .int _, h | .bl _, .w _, h | .bl _, .rp _, h | .bl _, .scr _, h | .bl _, .tup _, h | .bl _, .lst _, h | .bl _, .dic _ _, h
  | .int _, .non, h | .int _, .bl _, h | .int _, .w _, h | .int _, .rp _, h | .int _, .scr _, h | .int _, .tup _, h | .int _, .lst _, h | .int _, .dic _ _, h
  | .w _, .non, h | .w _, .bl _, h | .w _, .int _, h | .w _, .rp _, h | .w _, .scr _, h | .w _, .tup _, h | .w _, .lst _, h | .w _, .dic _ _, h
  | .rp _, .non, h | .rp _, .bl _, h | .rp _, .int _, h | .rp _, .w _, h | .rp _, .scr _, h | .rp _, .tup _, h | .rp _, .lst _, h | .rp _, .dic _ _, h
  | .tup _, .non, h | .tup _, .bl _, h | .tup _, .int _, h | .tup _, .w _, h | .tup _, .rp _, h | .tup _, .scr _, h | .tup _, .lst _, h | .tup _, .dic _ _, h
  | .lst _, .non, h | .lst _, .bl _, h | .lst _, .int _, h | .lst _, .w _, h | .lst _, .rp _, h | .lst _, .scr _, h | .lst _, .tup _, h | .lst _, .dic _ _, h
  | .dic _ _, .non, h | .dic _ _, .bl _, h | .dic _ _, .int _, h | .dic _ _, .w _, h | .dic _ _, .rp _, h | .dic _ _, .scr _, h | .dic _ _, .tup _, h | .dic _ _, .lst _, h => by simp only [D.same] at h; cases h
theorem D.sames_eq : ∀ {x y : List D}, D.sames x y = true → x = y
  | [], [], _ => rfl
  | a :: r, c :: s, h => by
    simp only [D.sames, Bool.and_eq_true] at h
    rw [D.same_eq h.1, D.sames_eq h.2]
  | [], _ :: _, h => by simp only [D.sames] at h; cases h
  | _ :: _, [], h => by simp only [D.sames] at h; cases h
end
end
end PD
namespace PD
open PySem L2
/-! ### comparisons: the rules -/
def rEqA (K : PySem.W.Frag) (neg : Bool) : R2 := fun x y H Q => ∃ d e, Dp K H x d ∧ Dp K H y e ∧ d.canLay0 = true ∧ e.canLay0 = true ∧ min d.depth e.depth ≤ 500 ∧ Q (.bl (if neg then !PyData.eqv d e else PyData.eqv d e)) H
section
variable {X : Cx}
theorem op_eqA (hu : X.A.units + 600 < cLine) : OpR X (compareOp .Eq) (rEqA X.K false) := by
  intro pins s σ H x y v u Q I rx ry h
  obtain ⟨d, e, hd, he, c1, c2, m, q⟩ := h
  obtain ⟨as, r1⟩ := Dp.reads I d x v hd rx
  obtain ⟨bs, r2⟩ := Dp.reads I e y u he ry
  exact SeqAt.compareEq_reads r1 r2 c1 c2 (by omega) ⟨.bl _, H, I, rfl, q⟩
theorem op_neA (hu : X.A.units + 600 < cLine) : OpR X (compareOp .NotEq) (rEqA X.K true) := by
  intro pins s σ H x y v u Q I rx ry h
  obtain ⟨d, e, hd, he, c1, c2, m, q⟩ := h
  obtain ⟨as, r1⟩ := Dp.reads I d x v hd rx
  obtain ⟨bs, r2⟩ := Dp.reads I e y u he ry
  exact SeqAt.compareNe_reads r1 r2 c1 c2 (by omega) ⟨.bl _, H, I, rfl, q⟩
end
def rCmp (K : PySem.W.Frag) : COp → R2
  | .eq => fun x y H Q => rEqA K false x y H Q ∨ rEq x y H Q
  | .ne => fun x y H Q => rEqA K true x y H Q ∨ rNe x y H Q
  | .lt => rI0 fun i j => .bl (decide (i < j))
  | .le => rI0 fun i j => .bl (decide (i ≤ j))
  | .gt => rI0 fun i j => .bl (decide (j < i))
  | .ge => rI0 fun i j => .bl (decide (j ≤ i))
  | .isin => rIn K false
  | .notin => rIn K true
  | .isN => fun x y H Q => y = .non ∧ Q (.bl (decide (x = .non))) H
  | .notN => fun x y H Q => y = .non ∧ Q (.bl (!decide (x = .non))) H
def pCmp : COp → CmpOp
  | .eq => .Eq
  | .ne => .NotEq
  | .lt => .Lt
  | .le => .LtE
  | .gt => .Gt
  | .ge => .GtE
  | .isin => .In
  | .notin => .NotIn
  | .isN => .Is
  | .notN => .IsNot
theorem op_cmp {X : Cx} (hu : X.A.units + 600 < cLine) : ∀ op, OpR X (compareOp (pCmp op)) (rCmp X.K op)
  | .eq => (op_eqA hu).or op_eq
  | .ne => (op_neA hu).or op_ne
  | .lt => op_lt
  | .le => op_le
  | .gt => op_gt
  | .ge => op_ge
  | .isin => op_in_seq
  | .notin => op_notIn_seq
  | .isN => op_isN
  | .notN => op_notN
section
variable {b : Bs} {σ : L2.St} {env : Env} {H G : Hp} {Q : VK}
theorem dp_scr {K : PySem.W.Frag} : ∀ {ns : List Int}, DpAll K H (ns.map V.int) (ns.map PyData.int)
  | [] => .nil
  | n :: r => .cons (.int n) dp_scr
theorem lay_scr : ∀ ns : List Int, PyData.canLayAll0 (ns.map PyData.int) = true ∧ PyData.depthAll (ns.map PyData.int) = 0
  | [] => by simp [PyData.canLayAll0, PyData.depthAll]
  | n :: r => by
    obtain ⟨h1, h2⟩ := lay_scr r
    simp [PyData.canLayAll0, PyData.depthAll, PyData.canLay0, PyData.depth, h1, h2]
theorem Rep.flat {v : V} {d : D} (r : Rep b.cs G v d) (h : d.flat = true) : flatV v = true := by
  cases r <;> first | rfl | (unfold D.flat at h; cases h)
theorem Reps.flat : ∀ {vs : List V} {ds : List D}, Reps b.cs G vs ds → ds.all D.flat = true → vs.all flatV = true
  | _, _, .nil, _ => rfl
  | _, _, .cons q r, h => by
    rw [List.all_cons, Bool.and_eq_true] at h
    rw [List.all_cons, Bool.and_eq_true]
    exact ⟨q.flat h.1, r.flat h.2⟩
theorem Rep.eqF (nd : b.cs.W.Nodup) {v u : V} {d e : D} (r : Rep b.cs G v d) (s : Rep b.cs G u e) (h1 : d.flat = true) (h2 : e.flat = true) : eqV v u = D.eqv d e := by
  cases r with
  | rp _ => unfold D.flat at h1; cases h1
  | scr _ => unfold D.flat at h1; cases h1
  | tup _ _ => unfold D.flat at h1; cases h1
  | lst _ _ => unfold D.flat at h1; cases h1
  | dic _ _ _ => unfold D.flat at h1; cases h1
  | w hw =>
    cases s with
    | w hw' => simp only [eqV, D.eqv]; exact str_beq nd hw hw'
    | rp _ => unfold D.flat at h2; cases h2
    | scr _ => unfold D.flat at h2; cases h2
    | tup _ _ => unfold D.flat at h2; cases h2
    | lst _ _ => unfold D.flat at h2; cases h2
    | dic _ _ _ => unfold D.flat at h2; cases h2
    | _ => simp only [eqV, D.eqv]
  | _ =>
    cases s with
    | rp _ => unfold D.flat at h2; cases h2
    | scr _ => unfold D.flat at h2; cases h2
    | tup _ _ => unfold D.flat at h2; cases h2
    | lst _ _ => unfold D.flat at h2; cases h2
    | dic _ _ _ => unfold D.flat at h2; cases h2
    | _ => simp only [eqV, D.eqv]
theorem Reps.inV (nd : b.cs.W.Nodup) {u : V} {e : D} (s : Rep b.cs G u e) (h2 : e.flat = true) : ∀ {vs : List V} {ds : List D}, Reps b.cs G vs ds → ds.all D.flat = true → L2.inV u vs = inD e ds
  | _, _, .nil, _ => rfl
  | _, _, .cons q r, h => by
    rw [List.all_cons, Bool.and_eq_true] at h
    have := Reps.inV nd s h2 r h.2
    unfold L2.inV inD at this ⊢
    rw [List.any_cons, List.any_cons, this, q.eqF nd s h.1 h2]
theorem eq_ok (ok : WOk b.cs.W) {x y : D} {r : Bool} {vx vy : V} (hd : eqTest x y = some r) (rx : Rep b.cs H vx x) (ry : Rep b.cs H vy y) {Q : VK} :
    (Q (.bl r) H → rEqA b.cs.K false vx vy H Q ∨ rEq vx vy H Q) ∧ (Q (.bl (!r)) H → rEqA b.cs.K true vx vy H Q ∨ rNe vx vy H Q) := by
  unfold eqTest at hd
  split at hd
  · split at hd
    · rename_i hs
      cases hd
      have e := D.same_eq hs
      cases rx with
      | rp h1 =>
        cases ry with
        | rp h2 =>
          subst h1
          subst h2
          rw [e]
          refine ⟨fun q => .inr ⟨rfl, ?_⟩, fun q => .inr ⟨rfl, ?_⟩⟩
          · rw [decide_eq_true rfl]; exact q
          · rw [decide_eq_true rfl]; exact q
    · cases hd
  · cases hd
    cases rx with
    | scr h1 =>
      cases ry with
      | lst h2 r2 =>
        cases r2
        rename_i ns a _
        obtain ⟨l1, l2⟩ := lay_scr ns
        have ev : PyData.eqv (.list (ns.map PyData.int)) (.list []) = ns.isEmpty := by cases ns <;> simp [PyData.eqv, PyData.eqvAll]
        have all : ∀ neg, Q (.bl (if neg then !ns.isEmpty else ns.isEmpty)) H → rEqA b.cs.K neg _ _ H Q := fun neg q =>
          ⟨.list (ns.map PyData.int), .list [], .lst h1 dp_scr, .lst (.of h2) .nil, by simp only [PyData.canLay0]; exact l1, by simp [PyData.canLay0, PyData.canLayAll0], by simp only [PyData.depth, PyData.depthAll]; omega, by rw [ev]; exact q⟩
        exact ⟨fun q => .inl (all false q), fun q => .inl (all true q)⟩
  · split at hd
    · rename_i hp
      cases hd
      rw [Bool.and_eq_true] at hp
      obtain ⟨a1, a2, _⟩ := rx.lay ok hp.1
      obtain ⟨c1, c2, _⟩ := ry.lay ok hp.2
      have ev := rx.eqv ok.nd ry hp.1 hp.2
      have all : ∀ neg, Q (.bl (if neg then !D.eqv x y else D.eqv x y)) H → rEqA b.cs.K neg _ _ H Q := fun neg q =>
        ⟨_, _, rx.dp ok.nd hp.1, ry.dp ok.nd hp.2, a1, c1, by omega, by rw [ev]; exact q⟩
      exact ⟨fun q => .inl (all false q), fun q => .inl (all true q)⟩
    · cases hd
theorem cmp_ok (ok : WOk b.cs.W) {op : COp} {x y : D} {r : Bool} {vx vy : V} (hd : cmpD op x y = some r) (rx : Rep b.cs H vx x) (ry : Rep b.cs H vy y) (k : Q (.bl r) H) : rCmp b.cs.K op vx vy H Q := by
  unfold cmpD at hd
  split at hd
  · exact (eq_ok ok hd rx ry).1 k
  · obtain ⟨r', h1, h2⟩ := Option.map_eq_some_iff.mp hd
    subst h2
    exact (eq_ok ok h1 rx ry).2 k
  · cases hd; cases rx; cases ry; exact ⟨_, _, rfl, rfl, k⟩
  · cases hd; cases rx; cases ry; exact ⟨_, _, rfl, rfl, k⟩
  · cases hd; cases rx; cases ry; exact ⟨_, _, rfl, rfl, k⟩
  · cases hd; cases rx; cases ry; exact ⟨_, _, rfl, rfl, k⟩
  · split at hd
    · rename_i hf
      cases hd
      rw [Bool.and_eq_true] at hf
      cases ry with
      | tup h2 r2 => exact ⟨_, _, rfl, .inr h2, rx.flat hf.1, r2.flat hf.2, by rw [r2.inV ok.nd rx hf.1 hf.2]; exact k⟩
    · cases hd
  · split at hd
    · rename_i hf
      cases hd
      rw [Bool.and_eq_true] at hf
      cases ry with
      | lst h2 r2 => exact ⟨_, _, rfl, .inl (.of h2), rx.flat hf.1, r2.flat hf.2, by rw [r2.inV ok.nd rx hf.1 hf.2]; exact k⟩
    · cases hd
  · split at hd
    · rename_i hf
      cases hd
      rw [Bool.and_eq_true] at hf
      cases ry with
      | tup h2 r2 => exact ⟨_, _, rfl, .inr h2, rx.flat hf.1, r2.flat hf.2, by rw [r2.inV ok.nd rx hf.1 hf.2]; exact k⟩
    · cases hd
  · split at hd
    · rename_i hf
      cases hd
      rw [Bool.and_eq_true] at hf
      cases ry with
      | lst h2 r2 => exact ⟨_, _, rfl, .inl (.of h2), rx.flat hf.1, r2.flat hf.2, by rw [r2.inV ok.nd rx hf.1 hf.2]; exact k⟩
    · cases hd
  · cases hd; cases rx; cases ry; exact ⟨rfl, k⟩
  · rename_i hn
    cases hd
    cases ry
    refine ⟨rfl, ?_⟩
    have : vx ≠ .non := by
      intro e
      subst e
      cases rx
      exact hn rfl
    rw [decide_eq_false this]
    exact k
  · cases hd; cases rx; cases ry; exact ⟨rfl, k⟩
  · rename_i hn
    cases hd
    cases ry
    refine ⟨rfl, ?_⟩
    have : vx ≠ .non := by
      intro e
      subst e
      cases rx
      exact hn rfl
    rw [decide_eq_false this]
    exact k
  · cases hd

/-! ### places, slices -/
theorem at_iff {α : Type} {xs : List α} {i : Int} {x : α} (h : at_ xs i = some x) : atI xs i = some x := by
  unfold at_ at h
  unfold atI ixN
  split at h
  · rename_i h0
    have hl : i.toNat < xs.length := (List.getElem?_eq_some_iff.mp h).1
    rw [if_pos h0, if_pos (by omega)]
    exact h
  · rename_i h0
    split at h
    · rename_i h1
      rw [if_neg h0, if_pos h1]
      exact h
    · cases h
theorem at_get {vs : List V} {ds : List D} {i : Int} {d : D} (r : Reps b.cs G vs ds) (h : at_ ds i = some d) : ∃ v, atI vs i = some v ∧ Rep b.cs G v d := by
  have hl := r.length
  have : ∃ v, at_ vs i = some v ∧ Rep b.cs G v d := by
    unfold at_ at h ⊢
    rw [hl]
    split at h
    · rename_i h0
      rw [if_pos h0]
      exact r.get h
    · rename_i h0
      rw [if_neg h0]
      split at h
      · rename_i h1
        rw [if_pos h1]
        exact r.get h
      · cases h
  obtain ⟨v, h1, h2⟩ := this
  exact ⟨v, at_iff h1, h2⟩
theorem clip_eq (n d : Nat) (o : Option Int) : HT.sIx n d o = clipI n d o := by
  cases o with
  | none => rfl
  | some v =>
    unfold HT.sIx clipI
    first | rfl | (simp only []; split <;> omega)
theorem Reps.cut {vs : List V} {ds : List D} (r : Reps b.cs G vs ds) (lo hi : Option Int) : Reps b.cs G (cutV vs lo hi) (PD.cut ds lo hi) := by
  unfold cutV PD.cut
  rw [clip_eq, clip_eq, r.length]
  exact (r.drop _).take _
def rIdx (K : PySem.W.Frag) : R2 := fun x y H Q => rIxL K x y H Q ∨ rIxT K x y H Q
theorem ix_idx {X : Cx} : IxR X (rIdx X.K) := ix_list.or ix_tup
/-- x as it is seen now; its parts are known -/
theorem idx_ok {x y d : D} {vx vy : V} (hd : idxD x y = some d) (S : Sat b σ H G env) (rx : (∃ a, vx = .ref a ∧ OwnAt b.cs H G a x) ∨ Rep b.cs G vx x) (ry : Rep b.cs G vy y) (k : Kon b σ env G false d Q) : rIdx b.cs.K vx vy H Q := by
  unfold idxD at hd
  split at hd
  · cases ry
    rcases rx with ⟨a, rfl, ow⟩ | rx
    · exact ow.elim
    · cases rx with
      | tup h r =>
        obtain ⟨v, h1, h2⟩ := at_get r hd
        exact .inr ⟨_, _, _, v, rfl, rfl, SqT.seen S h, h1, k.rep S h2⟩
  · cases ry
    rcases rx with ⟨a, rfl, vs, e, r⟩ | rx
    · obtain ⟨v, h1, h2⟩ := at_get r hd
      exact .inl ⟨_, _, _, v, rfl, rfl, .of e, h1, k.rep S h2⟩
    · cases rx with
      | lst h r =>
        obtain ⟨v, h1, h2⟩ := at_get r hd
        exact .inl ⟨_, _, _, v, rfl, rfl, .of (S.ex _ _ h), h1, k.rep S h2⟩
  · cases hd
def rSli (K : PySem.W.Frag) : V → Option Int → Option Int → Hp → VK → Prop := fun x lo hi H Q => rSlL K x lo hi H Q ∨ rSlA K x lo hi H Q
theorem sl_sli {X : Cx} : SlR X (rSli X.K) := sl_list.or sl_tupA
theorem cut_whole {α : Type} {xs : List α} {lo hi : Option Int} (h : clipI xs.length 0 lo = 0 ∧ clipI xs.length xs.length hi = xs.length) : PD.cut xs lo hi = xs := by
  unfold PD.cut
  rw [h.1, h.2]
  simp
theorem cut_map {α β : Type} (f : α → β) (xs : List α) (lo hi : Option Int) : PD.cut (xs.map f) lo hi = (PD.cut xs lo hi).map f := by
  unfold PD.cut
  rw [List.length_map, List.map_take, List.map_drop]
theorem sl_ok {lo hi : Option Int} {x d : D} {vx : V} (hd : slD lo hi x = some d) (S : Sat b σ H G env) (rx : Rep b.cs G vx x) (k : Kon b σ env G (isL d) d Q) : rSli b.cs.K vx lo hi H Q := by
  unfold slD at hd
  split at hd
  · cases hd
    cases rx with
    | tup h r =>
      refine .inr ⟨_, _, rfl, SqT.seen S h, fun e => ?_, fun _ p hp => ?_⟩
      · rw [clip_eq, clip_eq, r.length] at e
        refine k.rep S (.tup h ?_)
        rw [cut_whole e]
        exact r
      · exact k.tupN S (r.cut lo hi) hp
  · cases hd
    cases rx with
    | lst h r => exact .inl ⟨_, _, rfl, .of (S.ex _ _ h), fun p hp => k.lstN S (r.cut lo hi) hp⟩
  · cases hd
    cases rx with
    | scr h =>
      refine .inl ⟨_, _, rfl, S.ex.seq h, fun p hp => k.lstN S ?_ hp⟩
      rename_i ns _
      have := (Reps.ofInts (c := b.cs) (G := G) ns).cut lo hi
      rw [cut_map] at this
      exact this
  · cases hd
end
end PD
namespace PD
open PySem L2
/-! ### built-ins of one argument -/
section
variable {b : Bs} {σ : L2.St} {env : Env} {H G : Hp} {Q : VK}
theorem sortI_perm : ∀ l : List Int, (sortI l).Perm l := by
  have ins : ∀ (x : Int) (l : List Int), (insI x l).Perm (x :: l) := by
    intro x l
    induction l with
    | nil => exact List.Perm.refl _
    | cons y r ih =>
      unfold insI
      split
      · exact List.Perm.refl _
      · exact (List.Perm.cons y ih).trans (List.Perm.swap x y r)
  intro l
  induction l with
  | nil => exact List.Perm.refl _
  | cons x r ih => exact (ins x _).trans (List.Perm.cons x ih)
theorem insI_pair {x : Int} : ∀ {l : List Int}, l.Pairwise (· ≤ ·) → (insI x l).Pairwise (· ≤ ·)
  | [], _ => by unfold insI; exact List.pairwise_singleton _ _
  | y :: r, h => by
    obtain ⟨h1, h2⟩ := List.pairwise_cons.mp h
    unfold insI
    split
    · rename_i hx
      refine List.pairwise_cons.mpr ⟨fun z hz => ?_, h⟩
      rcases List.mem_cons.mp hz with e | hz
      · rw [e]; exact hx
      · exact Int.le_trans hx (h1 z hz)
    · rename_i hx
      refine List.pairwise_cons.mpr ⟨fun z hz => ?_, insI_pair h2⟩
      have : z ∈ x :: r := by
        have hp : (insI x r).Perm (x :: r) := by
          clear h h1 h2 hz hx
          induction r with
          | nil => exact List.Perm.refl _
          | cons y r ih =>
            unfold insI
            split
            · exact List.Perm.refl _
            · exact (List.Perm.cons y ih).trans (List.Perm.swap x y r)
        exact hp.mem_iff.mp hz
      rcases List.mem_cons.mp this with e | q
      · rw [e]; omega
      · exact h1 z q
theorem sortI_pair : ∀ l : List Int, (sortI l).Pairwise (· ≤ ·)
  | [] => List.Pairwise.nil
  | x :: r => insI_pair (sortI_pair r)
theorem sort_one {l m : List Int} (p : l.Perm m) (h1 : l.Pairwise (· ≤ ·)) (h2 : m.Pairwise (· ≤ ·)) : l = m := p.eq_of_pairwise (fun a b _ _ h g => Int.le_antisymm h g) h1 h2
theorem sort_is {l m : List Int} (p : l.Perm m) (h1 : l.Pairwise (· ≤ ·)) : l = sortI m := sort_one (p.trans (sortI_perm m).symm) h1 (sortI_pair m)
theorem maxI_mem : ∀ (l : List Int) (m : Int), maxI m l ∈ m :: l ∧ ∀ y ∈ m :: l, y ≤ maxI m l
  | [], m => by unfold maxI; simp
  | x :: r, m => by
    unfold maxI
    have key : ∀ z : Int, (z = if m < x then x else m) → maxI z r ∈ m :: x :: r ∧ ∀ y ∈ m :: x :: r, y ≤ maxI z r := by
      intro z hz
      obtain ⟨h1, h2⟩ := maxI_mem r z
      have hh := h2 _ List.mem_cons_self
      refine ⟨?_, fun y hy => ?_⟩
      · rcases List.mem_cons.mp h1 with e | h
        · rw [e, hz]; split <;> simp
        · exact List.mem_cons_of_mem _ (List.mem_cons_of_mem _ h)
      · rcases List.mem_cons.mp hy with e | hy
        · rw [e]; split at hz <;> omega
        · rcases List.mem_cons.mp hy with e | hy
          · rw [e]; split at hz <;> omega
          · exact h2 y (List.mem_cons_of_mem _ hy)
    exact key _ rfl
theorem minI_mem : ∀ (l : List Int) (m : Int), minI m l ∈ m :: l ∧ ∀ y ∈ m :: l, minI m l ≤ y
  | [], m => by unfold minI; simp
  | x :: r, m => by
    unfold minI
    have key : ∀ z : Int, (z = if x < m then x else m) → minI z r ∈ m :: x :: r ∧ ∀ y ∈ m :: x :: r, minI z r ≤ y := by
      intro z hz
      obtain ⟨h1, h2⟩ := minI_mem r z
      have hh := h2 _ List.mem_cons_self
      refine ⟨?_, fun y hy => ?_⟩
      · rcases List.mem_cons.mp h1 with e | h
        · rw [e, hz]; split <;> simp
        · exact List.mem_cons_of_mem _ (List.mem_cons_of_mem _ h)
      · rcases List.mem_cons.mp hy with e | hy
        · rw [e]; split at hz <;> omega
        · rcases List.mem_cons.mp hy with e | hy
          · rw [e]; split at hz <;> omega
          · exact h2 y (List.mem_cons_of_mem _ hy)
    exact key _ rfl
theorem Reps.toBools : ∀ {vs : List V} {ds : List D} {bs : List Bool}, Reps b.cs G vs ds → boolsD ds = some bs → vs = bs.map V.bl
  | _, _, _, .nil, h => by
    simp [PD.boolsD] at h
    subst h
    rfl
  | _, _, _, .cons (d := .bl i) (ds := ds) q r, h => by
    unfold PD.boolsD at h
    obtain ⟨ms, h1, h2⟩ := Option.map_eq_some_iff.mp h
    subst h2
    cases q
    rw [Reps.toBools r h1]
    rfl
  | _, _, _, .cons (d := .non) q r, h | _, _, _, .cons (d := .int _) q r, h | _, _, _, .cons (d := .w _) q r, h | _, _, _, .cons (d := .rp _) q r, h | _, _, _, .cons (d := .scr _) q r, h
  | _, _, _, .cons (d := .tup _) q r, h | _, _, _, .cons (d := .lst _) q r, h | _, _, _, .cons (d := .dic _ _) q r, h => by simp [PD.boolsD] at h
end

/-! ### repr -/
theorem log_lt {i : Int} (h : i.natAbs < 2 ^ 168) : i.natAbs.log2 < 168 := by
  by_cases z : i.natAbs = 0
  · rw [z]; decide
  · exact (Nat.log2_lt z).mpr h
theorem int_shown_len {i : Int} (h : i.natAbs < 2 ^ 168) : (PyData.shown (.int i)).length ≤ 170 := by
  simp only [PyData.shown]
  have e := ofString_length (toString i)
  have l := int_text_length_le (by decide) (log_lt h)
  omega
section
variable {b : Bs} {σ : L2.St} {env : Env} {H G : Hp} {Q : VK}
theorem log_small {i : Int} (h : i.natAbs < 2 ^ 168) : i.natAbs.log2 < 1920 := by
  by_cases z : i.natAbs = 0
  · rw [z]; decide
  · have := (Nat.log2_lt z).mpr h
    omega
theorem bits_small {i : Int} (h : i.natAbs < 2 ^ 168) : (if i == 0 then 0 else i.natAbs.log2 + 1) ≤ 168 := by
  split
  · omega
  · rename_i z
    have z' : i.natAbs ≠ 0 := by
      intro e
      apply z
      rw [Int.natAbs_eq_zero.mp e]
      rfl
    have := (Nat.log2_lt z').mpr h
    omega
mutual
theorem Rep.fits (ok : WOk b.cs.W) : ∀ {n : Nat} {v : V} {d : D}, Rep b.cs G v d → D.pl n d = true → D.small d = true →
    (toPy b.cs.W d).showable = true ∧ (toPy b.cs.W d).leavesShort 170 = true ∧ (toPy b.cs.W d).weight ≤ D.wt d
  | _, _, _, .non, _, _ => by simp [toPy, PyData.showable, PyData.leavesShort, PyData.weight]
  | _, _, _, .bl x, _, _ => by simp [toPy, PyData.showable, PyData.leavesShort, PyData.weight]
  | _, _, _, .int x, _, h => by
    unfold D.small at h
    have h := of_decide_eq_true h
    unfold toPy D.wt
    simp only [PyData.showable, PyData.leavesShort, PyData.weight]
    exact ⟨decide_eq_true (log_small h), decide_eq_true (int_shown_len h), bits_small h⟩
  | _, _, _, .w h, _, _ => by
    have hm := List.mem_of_getElem? h
    have o1 := ok.ok _ hm
    have o2 := ok.ln _ hm
    unfold toPy D.wt
    rw [List.getD_eq_getElem?_getD, h]
    simp only [PyData.showable, PyData.leavesShort, PyData.weight, Option.getD_some]
    refine ⟨trivial, ?_, o2⟩
    unfold PyData.strOk at o1
    rw [List.all_eq_true]
    intro x hx
    have := (Array.all_eq_true'.mp o1) x (by simpa using hx)
    simp only [decide_eq_true_eq] at this ⊢
    omega
  | _, _, _, .rp _, h, _ => by unfold D.pl at h; cases h
  | _, _, _, .scr _, h, _ => by unfold D.pl at h; cases h
  | 0, _, _, .tup _ _, h, _ => by unfold D.pl at h; cases h
  | n + 1, _, _, .tup q r, h, hs => by
    unfold D.pl at h
    unfold D.small at hs
    obtain ⟨h1, h2, h3⟩ := Reps.fits ok r h hs
    unfold toPy D.wt
    simp only [PyData.showable, PyData.leavesShort, PyData.weight]
    exact ⟨h1, h2, h3⟩
  | 0, _, _, .lst _ _, h, _ => by unfold D.pl at h; cases h
  | n + 1, _, _, .lst q r, h, hs => by
    unfold D.pl at h
    unfold D.small at hs
    obtain ⟨h1, h2, h3⟩ := Reps.fits ok r h hs
    unfold toPy D.wt
    simp only [PyData.showable, PyData.leavesShort, PyData.weight]
    exact ⟨h1, h2, h3⟩
  | 0, _, _, .dic _ _ _, h, _ => by unfold D.pl at h; cases h
  | n + 1, _, _, .dic _ _ _, h, _ => by unfold D.pl at h; cases h
theorem Reps.fits (ok : WOk b.cs.W) : ∀ {n : Nat} {v : List V} {d : List D}, Reps b.cs G v d → D.pls n d = true → D.smalls d = true →
    PyData.showableAll (toPys b.cs.W d) = true ∧ PyData.leavesShortAll 170 (toPys b.cs.W d) = true ∧ PyData.weightAll (toPys b.cs.W d) ≤ D.wts d
  | _, _, _, .nil, _, _ => by simp [toPys, PyData.showableAll, PyData.leavesShortAll, PyData.weightAll]
  | n, _, _, .cons q r, h, hs => by
    unfold D.pls at h
    unfold D.smalls at hs
    rw [Bool.and_eq_true] at h hs
    obtain ⟨h1, h2, h3⟩ := Rep.fits ok q h.1 hs.1
    obtain ⟨g1, g2, g3⟩ := Reps.fits ok r h.2 hs.2
    unfold toPys D.wts
    simp only [PyData.showableAll, PyData.leavesShortAll, PyData.weightAll, h1, g1, h2, g2]
    exact ⟨rfl, rfl, by omega⟩
end
end
def rRepr (K : PySem.W.Frag) : List V → Hp → VK → Prop := fun xs H Q => (∃ (a : Addr) (d : PyData), xs = [.ref a] ∧ Dp K H (.ref a) d ∧ d.showable = true ∧ d.hasDict = false ∧ d.depth ≤ 500 ∧ d.shown.length ≤ sizeLine ∧ Q (.str d.shown) H) ∨
  ∃ i : Int, xs = [.int i] ∧ i.natAbs < 2 ^ 168 ∧ Q (.str (PyData.shown (.int i))) H
theorem call_repr {X : Cx} (hu : X.A.units + 600 < cLine) (hg : X.A.guards = some []) : CallR X (.builtin "repr") (rRepr X.K) := by
  intro pins s σ H xs us Q I r h
  rcases h with ⟨a, d, rfl, hd, h1, h2, h3, h4, q⟩ | ⟨i, rfl, hi, q⟩
  · obtain ⟨u, rfl, rx⟩ := vals1 r
    cases rx
    obtain ⟨as, r1⟩ := Dp.reads I d _ _ hd rfl
    refine repr_of_reads' r1 h1 (PyData.noDict_hsm h2) hg (by omega) (fun _ _ e => e) (fun h' u tk hk => ?_) h4
    exact ⟨.str d.shown, H, I.kept (t' := tk) hk, ⟨u, rfl⟩, q⟩
  · obtain ⟨u, rfl, t, rfl⟩ := vals1 r
    exact P.repr_of_int (log_small hi) ⟨.str _, H, I.tok _, ⟨_, rfl⟩, q⟩

/-! ### all of them -/
/-- sorted(t), t a tuple of ints -/
def rSortT (K : PySem.W.Frag) : List V → Hp → VK → Prop := fun vs H Q => ∃ (a : Addr) (ns : List Int), vs = [V.ref a] ∧ SqT K H a (ns.map V.int) ∧
  ∀ (ns' : List Int) (p : Addr), ns'.Perm ns → ns'.Pairwise (· ≤ ·) → H p = none → Q (.ref p) (upd H p (.lst (ns'.map V.int)))
def rBi (K : PySem.W.Frag) : BI → List V → Hp → VK → Prop
  | .len => fun xs H Q => ∃ p ys, xs = [.ref p] ∧ (SqL K H p ys ∨ SqT K H p ys) ∧ Q (.int ys.length) H
  | .tuple => fun xs H Q => ∃ p ys, xs = [.ref p] ∧ ((SqL K H p ys ∧ ∀ l, H l = none → Q (.ref l) (upd H l (.tup ys))) ∨ (SqT K H p ys ∧ Q (.ref p) H))
  | .list => fun xs H Q => ∃ p ys, xs = [.ref p] ∧ (SqL K H p ys ∨ SqT K H p ys) ∧ ∀ l, H l = none → Q (.ref l) (upd H l (.lst ys))
  | .int => fun xs H Q => (∃ i, xs = [.int i] ∧ Q (.int i) H) ∨ ∃ k, xs = [.bl k] ∧ Q (.int (if k then 1 else 0)) H
  | .sorted => fun xs H Q => rSortedI K xs H Q ∨ rSortT K xs H Q
  | .sum => rSum K
  | .max => rMax K
  | .min => rMin K
  | .all => rAll K
  | .repr => rRepr K
  | .set => fun _ _ _ => False
def biName : BI → Str
  | .len => "len"
  | .tuple => "tuple"
  | .list => "list"
  | .int => "int"
  | .sorted => "sorted"
  | .sum => "sum"
  | .max => "max"
  | .min => "min"
  | .all => "all"
  | .repr => "repr"
  | .set => "set"
def biVal : BI → Value
  | .len => .builtin "len"
  | .tuple => .type "tuple"
  | .list => .type "list"
  | .int => .type "int"
  | .sorted => .builtin "sorted"
  | .sum => .builtin "sum"
  | .max => .builtin "max"
  | .min => .builtin "min"
  | .all => .builtin "all"
  | .repr => .builtin "repr"
  | .set => .type "set"
theorem cr_bi {X : Cx} (hc : X.calm = true) (hu : X.A.units + 600 < cLine) (hg : X.A.guards = some []) (hst : CallR X (.builtin "sorted") (rSortT X.K)) : ∀ i, CallR X (biVal i) (rBi X.K i)
  | .len => call_len_seq
  | .tuple => call_tuple_of
  | .list => call_list_of
  | .int => call_int1
  | .sorted => cr_sortedI.or hst
  | .sum => cr_sum hc
  | .max => cr_max hc
  | .min => cr_min hc
  | .all => cr_all hc
  | .repr => call_repr hu hg
  | .set => fun _ _ _ _ _ _ _ _ _ h => h.elim
section
variable {b : Bs} {σ : L2.St} {env : Env} {H G : Hp} {Q : VK}
/-- seen now: known data, or one's own object -/
def Seen (b : Bs) (H G : Hp) (v : V) (d : D) : Prop := (∃ a, v = .ref a ∧ OwnAt b.cs H G a d) ∨ Rep b.cs G v d
theorem Seen.now (s : Seen b H G v d) (S : Sat b σ H G env) : Rep b.cs H v d := by
  rcases s with ⟨a, rfl, o⟩ | r
  · exact o.seen S.ex
  · exact r.mono S.ex
/-- a list or a tuple that is seen: its items are known -/
theorem Seen.lst {ds : List D} (s : Seen b H G v (.lst ds)) (S : Sat b σ H G env) : ∃ a vs, v = .ref a ∧ H a = some (.lst vs) ∧ Reps b.cs G vs ds := by
  rcases s with ⟨a, rfl, vs, e, r⟩ | r
  · exact ⟨a, vs, rfl, e, r⟩
  · cases r with
    | lst h r => exact ⟨_, _, rfl, S.ex _ _ h, r⟩
theorem Seen.tup {ds : List D} (s : Seen b H G v (.tup ds)) : ∃ a vs, v = .ref a ∧ SqT b.cs.K G a vs ∧ Reps b.cs G vs ds := by
  rcases s with ⟨a, rfl, o⟩ | r
  · exact o.elim
  · cases r with
    | tup h r => exact ⟨_, _, rfl, h, r⟩
theorem repr_line {d : PyData} {w : Nat} (h2 : d.leavesShort 170 = true) (h3 : d.weight ≤ w) (hw : w ≤ 90000) : d.shown.length ≤ sizeLine := by
  have := PyData.shown_le 170 (by decide) d h2
  rw [sizeLine_eq]
  omega
theorem bi_ok (ok : WOk b.cs.W) {i : BI} {x d : D} {o : Bool} {vx : V} (hd : biD i x = some (o, d)) (S : Sat b σ H G env) (rx : Seen b H G vx x) (k : Kon b σ env G o d Q) : rBi b.cs.K i [vx] H Q := by
  unfold biD at hd
  split at hd
  · cases hd
    obtain ⟨a, vs, rfl, e, r⟩ := rx.tup
    refine ⟨_, _, rfl, .inr (SqT.seen S e), ?_⟩
    rw [r.length]
    exact k.rep S (.int _)
  · cases hd
    obtain ⟨a, vs, rfl, e, r⟩ := rx.lst S
    refine ⟨_, _, rfl, .inl (.of e), ?_⟩
    rw [r.length]
    exact k.rep S (.int _)
  · cases hd
    obtain ⟨a, vs, rfl, e, r⟩ := rx.tup
    exact ⟨_, _, rfl, .inr ⟨SqT.seen S e, k.rep S (.tup e r)⟩⟩
  · cases hd
    obtain ⟨a, vs, rfl, e, r⟩ := rx.lst S
    exact ⟨_, _, rfl, .inl ⟨.of e, fun l hl => k.tupN S r hl⟩⟩
  · cases hd
    obtain ⟨a, vs, rfl, e, r⟩ := rx.tup
    exact ⟨_, _, rfl, .inr (SqT.seen S e), fun l hl => k.lstN S r hl⟩
  · cases hd
    obtain ⟨a, vs, rfl, e, r⟩ := rx.lst S
    exact ⟨_, _, rfl, .inl (.of e), fun l hl => k.lstN S r hl⟩
  · cases hd
    rcases rx with ⟨a, _, o⟩ | rx
    · exact o.elim
    · cases rx
      exact .inl ⟨_, rfl, k.rep S (.int _)⟩
  · cases hd
    rcases rx with ⟨a, _, o⟩ | rx
    · exact o.elim
    · cases rx
      exact .inr ⟨_, rfl, k.rep S (.int _)⟩
  · obtain ⟨ns, h1, h2⟩ := Option.map_eq_some_iff.mp hd
    cases h2
    obtain ⟨a, vs, rfl, e, r⟩ := rx.lst S
    have hv := r.toInts h1
    subst hv
    refine .inl ⟨a, ns, rfl, .of e, fun ns' p hp hs hn => ?_⟩
    rw [sort_is hp hs]
    exact k.lstN S (Reps.ofInts _) hn
  · obtain ⟨ns, h1, h2⟩ := Option.map_eq_some_iff.mp hd
    cases h2
    obtain ⟨a, vs, rfl, e, r⟩ := rx.tup
    have hv := r.toInts h1
    subst hv
    refine .inr ⟨a, ns, rfl, SqT.seen S e, fun ns' p hp hs hn => ?_⟩
    rw [sort_is hp hs]
    exact k.lstN S (Reps.ofInts _) hn
  · obtain ⟨ns, h1, h2⟩ := Option.map_eq_some_iff.mp hd
    cases h2
    obtain ⟨a, vs, rfl, e, r⟩ := rx.lst S
    have hv := r.toInts h1
    subst hv
    exact ⟨a, ns, rfl, .of e, k.rep S (.int _)⟩
  · obtain ⟨ns, h1, h2⟩ := Option.bind_eq_some_iff.mp hd
    cases ns with
    | nil => cases h2
    | cons m t =>
      cases h2
      obtain ⟨a, vs, rfl, e, r⟩ := rx.lst S
      have hv := r.toInts h1
      subst hv
      refine ⟨a, m :: t, rfl, .of e, by simp, fun z hz hy => ?_⟩
      obtain ⟨q1, q2⟩ := maxI_mem t m
      rw [Int.le_antisymm (q2 z hz) (hy _ q1)]
      exact k.rep S (.int _)
  · obtain ⟨ns, h1, h2⟩ := Option.bind_eq_some_iff.mp hd
    cases ns with
    | nil => cases h2
    | cons m t =>
      cases h2
      obtain ⟨a, vs, rfl, e, r⟩ := rx.lst S
      have hv := r.toInts h1
      subst hv
      refine ⟨a, m :: t, rfl, .of e, by simp, fun z hz hy => ?_⟩
      obtain ⟨q1, q2⟩ := minI_mem t m
      rw [Int.le_antisymm (hy _ q1) (q2 z hz)]
      exact k.rep S (.int _)
  · obtain ⟨ns, h1, h2⟩ := Option.map_eq_some_iff.mp hd
    cases h2
    obtain ⟨a, vs, rfl, e, r⟩ := rx.lst S
    have hv := r.toBools h1
    subst hv
    exact ⟨a, ns, rfl, .of e, k.rep S (.bl _)⟩
  · split at hd
    · rename_i hp
      cases hd
      rw [Bool.and_eq_true, Bool.and_eq_true] at hp
      obtain ⟨⟨hp, hs⟩, hw⟩ := hp
      have hw := of_decide_eq_true hw
      have rn := rx.now S
      obtain ⟨a, vs, rfl, e, r⟩ := rx.tup
      obtain ⟨l1, l2, l3⟩ := rn.lay ok hp
      obtain ⟨f1, f2, f3⟩ := rn.fits ok hp hs
      exact .inl ⟨a, _, rfl, rn.dp ok.nd hp, f1, l3, l2, repr_line f2 f3 hw, k.rep S (.rp rfl)⟩
    · cases hd
  · split at hd
    · rename_i hp
      cases hd
      rw [Bool.and_eq_true, Bool.and_eq_true] at hp
      obtain ⟨⟨hp, hs⟩, hw⟩ := hp
      have hw := of_decide_eq_true hw
      have rn := rx.now S
      obtain ⟨a, vs, rfl, e, r⟩ := rx.lst S
      obtain ⟨l1, l2, l3⟩ := rn.lay ok hp
      obtain ⟨f1, f2, f3⟩ := rn.fits ok hp hs
      exact .inl ⟨a, _, rfl, rn.dp ok.nd hp, f1, l3, l2, repr_line f2 f3 hw, k.rep S (.rp rfl)⟩
    · cases hd
  · split at hd
    · rename_i hi
      cases hd
      rcases rx with ⟨a, _, o⟩ | rx
      · exact o.elim
      · cases rx
        exact .inr ⟨_, rfl, hi, k.rep S (.rp (by simp only [toPy]))⟩
    · cases hd
  · cases hd
end
end PD
/-! sorted of a tuple of ints. -/
namespace PD
open PySem PySem.Spec PyProof.Rows L2 SrtO
section
variable {prog : Program} {w : World} {A : Around} {E : Value → Shared → Prop} {s : Shared}
abbrev grow (h : Heap) (vs : List Value) : Heap :=
  (h.push (seqObj "list" #[] 0)).update h.objs.size
    (Obj.mapSeq (· ++ vs.toArray))
theorem gathered {t : Addr} {vs : List Value} {Q : List Value → Shared → Prop} (ht : IsTup s.heap t vs.toArray) (hn : vs.length ≤ sizeLine)
    (k : Q vs { s with heap := grow s.heap vs }) : wpAny (model prog w) A (collect (.ref t)) Q E s := by
  obtain ⟨ob, h1, h2, m, h3⟩ := ht
  have h1' : (s.heap.push (seqObj "list" #[] 0)).get? t = some ob := Heap.get?_push_of_some _ h1
  have hE : (s.heap.push (seqObj "list" #[] 0)).get? s.heap.objs.size = some (seqObj "list" #[] 0) := Heap.get?_push_size _ rfl
  unfold collect
  refine wpAny_bind (wpAny_runValue (codeAny_builtin entry_proto_collect' (?_ : wpAny _ _ (do
    again (.builtin "list.__iadd__" ⟨[← newList [], .ref t], []⟩)) _ _ s)))
  refine wpAny_bind (wpAny_newList (wpAny_pure ⟨Code.quiet_builtin _ (by decide +kernel), codeAny_builtin entry_list_iadd' (?_ :
    wpAny _ _ (Builtin.List.listExtendWith (.ref s.heap.objs.size) (.ref t)
      (.ref s.heap.objs.size)) _ _ { s with heap := s.heap.push (seqObj "list" #[] 0) })⟩))
  unfold Builtin.List.listExtendWith
  refine wpAny_bind (wpAny_typeOf (T := "tuple") ⟨ob, h1', h2⟩ ?_)
  rw [if_pos (by
    have e : (Value.type "tuple" == Value.type "tuple") = true := rfl
    rw [e, Bool.or_true])]
  refine wpAny_bind (listItems_at h1' h3 (wpAny_bind (listItems_at hE rfl ?_)))
  rw [if_neg (by simp)]
  refine wpAny_bind (listUpdate_at hE rfl ?_ (Nat.zero_le _)
    (by simp only [Array.size_append, List.size_toArray, List.length_nil]; omega))
  refine wpAny_pure (?_ : wpAny (model prog w) A (do
    let o ← load s.heap.objs.size
    match o.data with
    | .seq xs _ => pure xs.toList
    | _ => unsupported "internal:collect") Q E { s with heap := grow s.heap vs })
  refine wpAny_bind (wpAny_load (get?_update_seq hE _) ?_)
  refine (?_ : wpAny _ _ (pure ((#[] : Array Value) ++ vs.toArray).toList) Q E _)
  rw [show ((#[] : Array Value) ++ vs.toArray).toList = vs by simp]
  exact wpAny_pure k
theorem sortedT {t : Addr} {vs : List Value} {ns : List Int} {Q : Value → Shared → Prop} (ht : IsTup s.heap t vs.toArray) (hn : vs.length ≤ sizeLine) (hI : IntsAre vs ns)
    (k : ∀ out : List Value, Srtd ltIv out → Stb ltIv out vs → Q (.ref (s.heap.objs.size + 1)) { s with heap := sortedAll s.heap vs out.toArray }) :
    wpAny (model prog w) A (call (.builtin "sorted") [.ref t]) Q E s := by
  have sz : (grow s.heap vs).objs.size = s.heap.objs.size + 1 := by
    show ((s.heap.push _).update _ _).objs.size = _
    rw [Heap.size_update, size_push']
  have at1 : ((grow s.heap vs).push (seqObj "list" vs.toArray 0)).get? (s.heap.objs.size + 1) = some (seqObj "list" vs.toArray 0) := by
    rw [← sz]
    exact Heap.get?_push_size _ rfl
  refine Calls.call_function_entry kind_sorted plain_sorted entry_sorted (args_sorted1 _)
    (?_ : wpAny _ _ (Builtin.«sorted» ⟨[.ref t], []⟩) _ _ _)
  unfold Builtin.«sorted»
  refine wpAny_bind (m := checkCount "sorted" 1 1 _) (wpAny_pure (wpAny_bind
    (gathered ht hn (wpAny_bind (wpAny_newList ?_ hn)))))
  rw [show Heap.objs _ = (grow s.heap vs).objs from rfl, sz]
  refine wpAny_bind (wpAny_holding (wpAny_call_entry slot_list_sort ⟨_, at1, rfl⟩ entry_list_sort
    (list_sort_ord swo_int at1 hn (fun h2 => ints_sortable hI h2) fun out h1 h2 => ⟨_, rfl, ?_⟩)
    (args_list_sort _)))
  exact wpAny_pure ⟨_, rfl, k out h1 h2⟩
end
theorem cr_sortT {X : Cx} : CallR X (.builtin "sorted") (rSortT X.K) := by
  intro pins s σ H vs us Q I r h
  obtain ⟨a, ns, rfl, hs, q⟩ := h
  obtain ⟨its, rv, ht, hz⟩ := I.tuple hs
  rw [Vals.ref1 r]
  have hi := rv.ints
  refine sortedT ht (by rw [← rv.length]; exact hz) hi fun out h1 h2 => ?_
  obtain ⟨k1, k2, k3⟩ := ints_out hi h1 h2
  obtain ⟨ep, at'⟩ := sortedAll_at s.heap its out.toArray
  have len : ((out.map iv).map V.int).length ≤ sizeLine := by
    rw [List.length_map, k2.length_eq]
    rw [List.length_map] at hz
    exact hz
  have J := I.laid (a := s.heap.objs.size + 1) (o := .lst ((out.map iv).map V.int)) (t' := s.toks) (h' := sortedAll s.heap its out.toArray)
    (fun _ _ => sortedAll_old) (Nat.le_succ _)
    ⟨len, out, ep, vals_of_ints k1, at'⟩
  exact ⟨.ref _, _, J, rfl, q _ _ k2 k3 (I.hok.fresh (Nat.le_succ _))⟩
end PD
/-! Expressions: what a piece of syntax does by data. -/
namespace PD
open PySem L2

structure Tx where
  P : Program
  w : World
  K : PySem.W.Frag
  mg : Str → Option Value
  base : Heap
  W : List Str
  fnm : Nat → Option Str
  gnm : Nat → Option Str
  gdm : Nat → Option Str
  gv : Nat → D
abbrev Tx.cs (T : Tx) : Cs := ⟨T.K, T.W, T.w⟩
def bltNames : List Str := ["len", "tuple", "list", "int", "sorted", "sum", "max", "min", "all", "repr", "set", "isinstance", "range", "str", "bool", "dict", "zip", "enumerate", "reversed"]
structure TOk (T : Tx) : Prop where
  wok : WOk T.W
  glob : ∀ g x, T.gnm g = some x → ∃ v u, T.mg x = some u ∧ RelV v u ∧ ∀ G, Rep T.cs G v (T.gv g)
  gdic : ∀ g x, T.gdm g = some x → ∃ a ks vs, T.gv g = .dic ks vs ∧ T.mg x = some (.ref a) ∧ ∀ q d, findD ks vs q = some d → ∃ z v, T.cs.key q = some (.inr z) ∧ KDct T.K T.w a z v ∧ ∀ G, Rep T.cs G v d
  blt : ∀ x ∈ bltNames, T.mg x = none
structure Gx (T : Tx) (X : Cx) (N : List Str) (sc : Scope) (n : Nat) : Prop where
  prog : X.prog = T.P
  wld : X.w = T.w
  K : X.K = T.K
  mg : X.mg = T.mg
  base : X.base = T.base
  ns : X.N = N
  scp : ∀ x, X.env.scope.names.lookup x = sc.names.lookup x ∨ (sc.names.lookup x = some .free ∧ X.env.scope.names.lookup x = some .cell)
  nd : N.Nodup
  calm : X.calm = true
  guards : X.A.guards = some []
  room : Room (n + 64) X.A
  never : X.xe = fun _ _ => False
  fnok : ∀ x, L2.Loc sc x → X.fn x = true ∨ X.env.scope.names.lookup x = some .local
theorem Gx.units {T : Tx} {X : Cx} {N : List Str} {sc : Scope} {n : Nat} (g : Gx T X N sc n) : X.A.units + 600 < cLine := by
  have := g.room.un
  omega

abbrev FE := Env → Option (Bool × D × Env)
def tEv (b : Bs) (f : FE) : TE := fun σ H Q => ∃ env G own d env', f env = some (own, d, env') ∧ Sat b σ H G env ∧ Kon b σ env' G own d Q
def tLk (b : Bs) (f : Env → Option (D × Env)) : TE := fun σ H Q => ∃ env G d env', f env = some (d, env') ∧ Sat b σ H G env ∧ ∀ v H' G', Same G G' → Sat b σ H' G' env' → Seen b H' G' v d → Q v H'
def tTt (b : Bs) (f : Env → Option (Bool × Env)) : TT := fun σ H Q => ∃ env G r env', f env = some (r, env') ∧ Sat b σ H G env ∧ ∀ H' G', Same G G' → Sat b σ H' G' env' → Q r H'
def ArgAt (b : Bs) (σ : L2.St) (G : Hp) (v : V) : Arg → Prop
  | .v d => Rep b.cs G v d
  | .s i => σ[i]? = some (some v)
def tAr (b : Bs) (f : Env → Option (Arg × Env)) : TE := fun σ H Q => ∃ env G a env', f env = some (a, env') ∧ Sat b σ H G env ∧ ∀ v H' G', Same G G' → Sat b σ H' G' env' → ArgAt b σ G' v a → Q v H'
inductive ArgsAt (b : Bs) (σ : L2.St) (G : Hp) : List V → List Arg → Prop where
  | nil : ArgsAt b σ G [] []
  | cons {v : V} {vs : List V} {a : Arg} {as : List Arg} : ArgAt b σ G v a → ArgsAt b σ G vs as → ArgsAt b σ G (v :: vs) (a :: as)
def tEvs (b : Bs) (f : Env → Option (List D × Env)) : TA := fun σ H Q => ∃ env G ds env', f env = some (ds, env') ∧ Sat b σ H G env ∧ ∀ vs H' G', Same G G' → Sat b σ H' G' env' → Reps b.cs G' vs ds → Q vs H'
def tArs (b : Bs) (f : Env → Option (List Arg × Env)) : TA := fun σ H Q => ∃ env G as env', f env = some (as, env') ∧ Sat b σ H G env ∧ ∀ vs H' G', Same G G' → Sat b σ H' G' env' → ArgsAt b σ G' vs as → Q vs H'

section
variable {X : Cx} {b : Bs} {e e1 e2 e3 : Expr} {pos : Pos}
theorem _root_.L2.PE.wk {t t' : TE} (h : PE X e t) (k : ∀ σ H Q, t' σ H Q → t σ H Q) : PE X e t' := ⟨fun pins s σ H Q I q => h.run pins s σ H Q I (k σ H Q q)⟩
theorem _root_.L2.PT.wk {t t' : TT} (h : PT X e t) (k : ∀ σ H Q, t' σ H Q → t σ H Q) : PT X e t' := ⟨fun pins s σ H Q I q => h.run pins s σ H Q I (k σ H Q q)⟩
theorem _root_.L2.PA.wk {es : List Expr} {t t' : TA} (h : PA X es t) (k : ∀ σ H Q, t' σ H Q → t σ H Q) : PA X es t' := ⟨fun p pins s σ H Q I q => h.run p pins s σ H Q I (k σ H Q q)⟩
variable {σ : L2.St} {H G : Hp} {env env' : Env} {own : Bool} {d : D}
theorem use {f : FE} (h : f env = some (own, d, env')) (S : Sat b σ H G env) {R : V → Hp → Prop} (k : ∀ v H1 G1, Same G G1 → Sat b σ H1 G1 env' → Rep b.cs G1 v d → R v H1) : tEv b f σ H R :=
  ⟨env, G, own, d, env', h, S, fun v H1 G1 g1 S1 r => by
    obtain ⟨G2, g2, S2, r2⟩ := S1.tail r
    exact k v H1 G2 (g1.trans g2) S2 r2⟩
theorem useL {f : Env → Option (D × Env)} (h : f env = some (d, env')) (S : Sat b σ H G env) {R : V → Hp → Prop} (k : ∀ v H1 G1, Same G G1 → Sat b σ H1 G1 env' → Seen b H1 G1 v d → R v H1) : tLk b f σ H R :=
  ⟨env, G, d, env', h, S, k⟩
theorem useT {f : Env → Option (Bool × Env)} {r : Bool} (h : f env = some (r, env')) (S : Sat b σ H G env) {R : Bool → Hp → Prop} (k : ∀ H1 G1, Same G G1 → Sat b σ H1 G1 env' → R r H1) : tTt b f σ H R :=
  ⟨env, G, r, env', h, S, k⟩
theorem Kon.step {G1 : Hp} {Q : VK} (k : Kon b σ env G own d Q) (g : Same G G1) : Kon b σ env G1 own d Q := fun v H' G' g' S r => k v H' G' (g.trans g') S r

structure JE (X : Cx) (b : Bs) (e : Expr) (m : Sm) : Prop where
  ev : PE X e (tEv b m.ev)
  lk : PE X e (tLk b m.lk)
  t : PT X e (tTt b m.t)
  ar : PE X e (tAr b m.ar)
  ns : ∀ es env, starEach (e :: es) env = (false, eval e env) :: starEach es env
  ix : PlainIx e
/-- no star, no slice -/
structure Bare (X : Cx) (e : Expr) : Prop where
  he : ∀ whole, isTrue e X.env whole = (do let v ← whole; standAt e.pos; holding [v] (truthy v))
  ns : ∀ es env, starEach (e :: es) env = (false, eval e env) :: starEach es env
  ix : PlainIx e
/-- no test of its own -/
def Plain (X : Cx) (e : Expr) : Prop := ∀ whole, isTrue e X.env whole = (do let v ← whole; standAt e.pos; holding [v] (truthy v))
theorem tru_of {v : V} {r : Bool} (h : trD d = some r) (s : Seen b H G v d) (S : Sat b σ H G env) : TruV b.cs.K v H r := by
  have rn := s.now S
  unfold trD at h
  split at h
  · cases h; cases rn; rfl
  · cases h; cases rn; rfl
  · cases h; cases rn; rfl
  · cases h
    cases rn with
    | tup e r =>
      refine .inr (.inl ⟨_, e, ?_⟩)
      cases r <;> rfl
  · cases h
    cases rn with
    | lst e r => exact .inl ⟨_, .of e, by cases r <;> rfl⟩
  · cases h
theorem JE.of {f : FE} (hK : X.K = b.cs.K) (h : PE X e (tEv b f)) (he : Bare X e) : JE X b e (Sm.of f) where
  ns := he.ns
  ix := he.ix
  ev := h
  lk := h.wk fun σ H Q ⟨env, G, d, env', q, S, k⟩ => by
    obtain ⟨p, h1, h2⟩ := Option.map_eq_some_iff.mp q
    cases h2
    exact use (own := p.1) (d := p.2.1) (env' := p.2.2) h1 S fun v H1 G1 g1 S1 r => k v H1 G1 g1 S1 (.inr r)
  t := (pt_truth h he.he).wk fun σ H Q ⟨env, G, r, env', q, S, k⟩ => by
    obtain ⟨p, h1, h2⟩ := Option.bind_eq_some_iff.mp q
    obtain ⟨r', h3, h4⟩ := Option.map_eq_some_iff.mp h2
    cases h4
    exact use (own := p.1) (d := p.2.1) (env' := p.2.2) h1 S fun v H1 G1 g1 S1 rv => ⟨r, by rw [hK]; exact tru_of h3 (.inr rv) S1, k H1 G1 g1 S1⟩
  ar := h.wk fun σ H Q ⟨env, G, a, env', q, S, k⟩ => by
    obtain ⟨p, h1, h2⟩ := Option.map_eq_some_iff.mp q
    cases h2
    exact use (own := p.1) (d := p.2.1) (env' := p.2.2) h1 S fun v H1 G1 g1 S1 r => k v H1 G1 g1 S1 r
theorem getC_some {i : Nat} {f : Fl} (h : getC env i = some (f, d)) : env[i]? = some (some (f, d)) := by
  unfold getC at h
  split at h
  · cases h; assumption
  · cases h
theorem set_self {i : Nat} {c : Cell} (h : env[i]? = some c) : env.set i c = env := by
  refine List.ext_getElem? fun j => ?_
  by_cases hij : i = j
  · subst hij
    rw [List.getElem?_set_self (List.getElem?_eq_some_iff.mp h).1, h]
  · rw [List.getElem?_set_ne hij]
/-- a name is read, and held by more than the name from now on -/
theorem Sat.read (S : Sat b σ H G env) {i : Nat} (h : readV env i = some (d, env')) : ∃ G' v, Same G G' ∧ Sat b σ H G' env' ∧ σ[i]? = some (some v) ∧ Rep b.cs G' v d := by
  unfold readV at h
  split at h
  · rename_i hc
    cases h
    have := S.frozen (getC_some hc)
    rw [show frz Fl.fro = Fl.fro from rfl, set_self (getC_some hc)] at this
    exact this
  · rename_i hc
    cases h
    have := S.frozen (getC_some hc)
    rw [show frz Fl.lfro = Fl.lfro from rfl, set_self (getC_some hc)] at this
    exact this
  · rename_i hc
    cases h
    exact S.frozen (getC_some hc)
  · cases h
theorem Sat.look (S : Sat b σ H G env) {i : Nat} (h : lookV env i = some d) : ∃ v, σ[i]? = some (some v) ∧ Seen b H G v d := by
  unfold lookV at h
  obtain ⟨p, h1, h2⟩ := Option.map_eq_some_iff.mp h
  obtain ⟨f, d'⟩ := p
  cases h2
  obtain ⟨v, hv, k⟩ := S.slot i f d' (getC_some h1)
  refine ⟨v, hv, ?_⟩
  cases f with
  | fro => exact .inr k
  | lfro => exact .inr k.1
  | own => obtain ⟨a, e, _, _, o⟩ := k; exact .inl ⟨a, e, o⟩
  | lent => obtain ⟨a, e, _, _, o⟩ := k; exact .inl ⟨a, e, o⟩
theorem JE.va {i : Nat} (hK : X.K = b.cs.K) (h : PE X e (tVar i)) (he : Bare X e) : JE X b e (Sm.va i) where
  ns := he.ns
  ix := he.ix
  ev := h.wk fun σ H Q ⟨env, G, own, d, env', q, S, k⟩ => by
    obtain ⟨p, h1, h2⟩ := Option.map_eq_some_iff.mp q
    cases h2
    obtain ⟨G', v, g, S', hv, r⟩ := S.read h1
    exact ⟨v, hv, k v H G' g S' r⟩
  lk := h.wk fun σ H Q ⟨env, G, d, env', q, S, k⟩ => by
    obtain ⟨p, h1, h2⟩ := Option.map_eq_some_iff.mp q
    cases h2
    obtain ⟨v, hv, r⟩ := S.look h1
    exact ⟨v, hv, k v H G (Same.refl G) S r⟩
  t := (pt_truth h he.he).wk fun σ H Q ⟨env, G, r, env', q, S, k⟩ => by
    obtain ⟨d, h1, h2⟩ := Option.bind_eq_some_iff.mp q
    obtain ⟨r', h3, h4⟩ := Option.map_eq_some_iff.mp h2
    cases h4
    obtain ⟨v, hv, rv⟩ := S.look h1
    exact ⟨v, hv, r, by rw [hK]; exact tru_of h3 rv S, k H G (Same.refl G) S⟩
  ar := h.wk fun σ H Q ⟨env, G, a, env', q, S, k⟩ => by
    obtain ⟨p, h1, h2⟩ := Option.map_eq_some_iff.mp q
    cases h2
    obtain ⟨f, d'⟩ := p
    obtain ⟨v, hv, _⟩ := S.slot i f d' (getC_some h1)
    exact ⟨v, hv, k v H G (Same.refl G) S hv⟩
/-- a constant -/
theorem JE.co {v : V} (hK : X.K = b.cs.K) (h : PE X e (tC v)) (he : Bare X e) (hd : ∀ G, Rep b.cs G v d) : JE X b e (Sm.of fun env => some (false, d, env)) :=
  JE.of hK (h.wk fun σ H Q ⟨env, G, own, d', env', q, S, k⟩ => by
    cases q
    exact k v H G (Same.refl G) S (hd G)) he
end
end PD
namespace PD
open PySem L2
section
variable {X : Cx} {b : Bs} {e e1 e2 e3 : Expr} {pos : Pos} {Φ : Phi} {gv : Nat → D}
/-! ### one by one -/
theorem bare_name {x : Str} : Bare X (.Name x pos) := ⟨fun _ => rfl, fun _ _ => rfl, fun _ _ => rfl⟩
theorem bare_const {k j} : Bare X (.Constant k j pos) := ⟨fun _ => rfl, fun _ _ => rfl, fun _ _ => rfl⟩
theorem bare_bin {o} : Bare X (.BinOp e1 o e2 pos) := ⟨fun _ => rfl, fun _ _ => rfl, fun _ _ => rfl⟩
theorem bare_neg : Bare X (.UnaryOp .USub e pos) := ⟨fun _ => rfl, fun _ _ => rfl, fun _ _ => rfl⟩
theorem bare_tup {es k} : Bare X (.Tuple es k pos) := ⟨fun _ => rfl, fun _ _ => rfl, fun _ _ => rfl⟩
theorem bare_lst {es} : Bare X (.List es pos) := ⟨fun _ => rfl, fun _ _ => rfl, fun _ _ => rfl⟩
theorem bare_dict {ks vs} : Bare X (.Dict ks vs pos) := ⟨fun _ => rfl, fun _ _ => rfl, fun _ _ => rfl⟩
theorem bare_sub : Bare X (.Subscript e1 e2 pos) := ⟨fun _ => rfl, fun _ _ => rfl, fun _ _ => rfl⟩
theorem bare_call {es ks} : Bare X (.Call e es ks pos) := ⟨fun _ => rfl, fun _ _ => rfl, fun _ _ => rfl⟩
theorem bare_comp {gs sc} : Bare X (.ListComp e gs sc pos) := ⟨fun _ => rfl, fun _ _ => rfl, fun _ _ => rfl⟩
theorem je_bin {op : BOp} {a c : IE} (hK : X.K = b.cs.K) (ha : JE X b e1 (sem Φ gv a)) (hb : JE X b e2 (sem Φ gv c)) : JE X b (.BinOp e1 (pOp op) e2 pos) (sem Φ gv (.bin op a c)) := by
  refine JE.of hK ((pe_op (op_bin op) ha.ev hb.ev).wk fun σ H Q ⟨env, G, own, d, env', q, S, k⟩ => ?_) bare_bin
  obtain ⟨p, h1, q⟩ := Option.bind_eq_some_iff.mp q
  obtain ⟨p2, h2, q⟩ := Option.bind_eq_some_iff.mp q
  obtain ⟨d', h3, h4⟩ := Option.map_eq_some_iff.mp q
  cases h4
  refine use (own := p.1) (d := p.2.1) (env' := p.2.2) h1 S fun v1 H1 G1 g1 S1 r1 => ?_
  refine use (own := p2.1) (d := p2.2.1) (env' := p2.2.2) h2 S1 fun v2 H2 G2 g2 S2 r2 => ?_
  rw [hK]
  exact bin_ok h3 S2 (r1.mono g2) r2 (k.step (g1.trans g2))
theorem je_neg {a : IE} (hK : X.K = b.cs.K) (ha : JE X b e (sem Φ gv a)) : JE X b (.UnaryOp .USub e pos) (sem Φ gv (.neg a)) := by
  refine JE.of hK ((pe_un un_neg ha.ev).wk fun σ H Q ⟨env, G, own, d, env', q, S, k⟩ => ?_) bare_neg
  obtain ⟨p, h1, q⟩ := Option.bind_eq_some_iff.mp q
  obtain ⟨o, x, env1⟩ := p
  dsimp only at q
  split at q
  · cases q
    refine use h1 S fun v1 H1 G1 g1 S1 r1 => ?_
    cases r1
    exact ⟨_, rfl, (k.step g1).rep S1 (.int _)⟩
  · cases q
theorem cmp_mark {op : COp} (h : behindInMarks (pCmp op) e2 = false) : behindInMarks (pCmp op) e2 = false := h
theorem je_cmp {op : COp} {a c : IE} (hK : X.K = b.cs.K) (ok : WOk b.cs.W) (hu : X.A.units + 600 < cLine) (hm : behindInMarks (pCmp op) e2 = false) (ha : JE X b e1 (sem Φ gv a)) (hb : JE X b e2 (sem Φ gv c)) :
    JE X b (.Compare e1 [pCmp op] [e2] pos) (sem Φ gv (.cmp op a c)) := by
  have main : ∀ {σ : L2.St} {H : Hp} {R : Bool → VK} {env env' : Env} {G : Hp} {r : Bool}, (((sem Φ gv a).ev env).bind fun p => ((sem Φ gv c).lk p.2.2).bind fun q => (cmpD op p.2.1 q.1).map fun r => (r, q.2)) = some (r, env') →
      Sat b σ H G env → ∀ (Q : VK), (∀ H1 G1, Same G G1 → Sat b σ H1 G1 env' → Q (.bl r) H1) → tOp (rCmp X.K op) (tEv b (sem Φ gv a).ev) (tLk b (sem Φ gv c).lk) σ H Q := by
    intro σ H R env env' G r q S Q k
    obtain ⟨p, h1, q⟩ := Option.bind_eq_some_iff.mp q
    obtain ⟨p2, h2, q⟩ := Option.bind_eq_some_iff.mp q
    obtain ⟨d', h3, h4⟩ := Option.map_eq_some_iff.mp q
    cases h4
    refine use (own := p.1) (d := p.2.1) (env' := p.2.2) h1 S fun v1 H1 G1 g1 S1 r1 => ?_
    refine useL (d := p2.1) (env' := p2.2) h2 S1 fun v2 H2 G2 g2 S2 r2 => ?_
    rw [hK]
    exact cmp_ok ok h3 ((r1.mono g2).mono S2.ex) (r2.now S2) (k H2 G2 (g1.trans g2) S2)
  have pe := pe_cmpR (pos := pos) (op_cmp hu op) ha.ev hb.lk hm
  have pt := pt_cmpR (pos := pos) (op_cmp hu op) ha.ev hb.lk hm
  have conv : ∀ {env : Env} {own : Bool} {d : D} {env' : Env}, (sem Φ gv (.cmp op a c)).ev env = some (own, d, env') → ∃ r, own = false ∧ d = .bl r ∧
      (((sem Φ gv a).ev env).bind fun p => ((sem Φ gv c).lk p.2.2).bind fun q => (cmpD op p.2.1 q.1).map fun r => (r, q.2)) = some (r, env') := by
    intro env own d env' q
    obtain ⟨p, h1, q⟩ := Option.bind_eq_some_iff.mp q
    obtain ⟨p2, h2, q⟩ := Option.bind_eq_some_iff.mp q
    obtain ⟨d', h3, h4⟩ := Option.map_eq_some_iff.mp q
    cases h4
    exact ⟨d', rfl, rfl, by rw [h1, Option.bind_some, h2, Option.bind_some, h3, Option.map_some]⟩
  refine ⟨pe.wk fun σ H Q ⟨env, G, own, d, env', q, S, k⟩ => ?_, pe.wk fun σ H Q ⟨env, G, d, env', q, S, k⟩ => ?_, pt.wk fun σ H Q ⟨env, G, r, env', q, S, k⟩ => ?_, pe.wk fun σ H Q ⟨env, G, x, env', q, S, k⟩ => ?_, fun _ _ => rfl, fun _ _ => rfl⟩
  · obtain ⟨r, rfl, rfl, q2⟩ := conv q
    exact main (R := fun _ => Q) q2 S Q fun H1 G1 g1 S1 => k _ H1 G1 g1 S1 (.bl r)
  · obtain ⟨p, h1, h2⟩ := Option.map_eq_some_iff.mp q
    obtain ⟨o, x, e0⟩ := p
    cases h2
    obtain ⟨r, rfl, rfl, q2⟩ := conv h1
    exact main (R := fun _ => Q) q2 S Q fun H1 G1 g1 S1 => k _ H1 G1 g1 S1 (.inr (.bl r))
  · obtain ⟨p, h1, h2⟩ := Option.bind_eq_some_iff.mp q
    obtain ⟨o, x, e0⟩ := p
    obtain ⟨t, h3, h4⟩ := Option.map_eq_some_iff.mp h2
    cases h4
    obtain ⟨r', rfl, rfl, q2⟩ := conv h1
    cases h3
    exact main (R := fun _ => fun _ _ => True) q2 S _ fun H1 G1 g1 S1 => ⟨_, rfl, k H1 G1 g1 S1⟩
  · obtain ⟨p, h1, h2⟩ := Option.map_eq_some_iff.mp q
    obtain ⟨o, x, e0⟩ := p
    cases h2
    obtain ⟨r, rfl, rfl, q2⟩ := conv h1
    exact main (R := fun _ => Q) q2 S Q fun H1 G1 g1 S1 => k _ H1 G1 g1 S1 (Rep.bl r)
/-- what gives a truth by itself -/
theorem JE.bool {core : Env → Option (Bool × Env)} {f : FE} {te : TE} (pe : PE X e te) (pt : PT X e (tTest te)) (hn : ∀ es env, starEach (e :: es) env = (false, eval e env) :: starEach es env) (hi : PlainIx e)
    (hf : ∀ env, f env = (core env).map fun p => (false, .bl p.1, p.2))
    (main : ∀ (σ : L2.St) (H : Hp) (env : Env) (G : Hp) (r : Bool) (env' : Env) (Q : VK), core env = some (r, env') → Sat b σ H G env → (∀ H1 G1, Same G G1 → Sat b σ H1 G1 env' → Q (.bl r) H1) → te σ H Q) : JE X b e (Sm.of f) := by
  have conv : ∀ {env : Env} {own : Bool} {d : D} {env' : Env}, f env = some (own, d, env') → ∃ r, own = false ∧ d = .bl r ∧ core env = some (r, env') := by
    intro env own d env' q
    rw [hf] at q
    obtain ⟨p, h1, h2⟩ := Option.map_eq_some_iff.mp q
    cases h2
    exact ⟨_, rfl, rfl, h1⟩
  refine ⟨pe.wk fun σ H Q ⟨env, G, own, d, env', q, S, k⟩ => ?_, pe.wk fun σ H Q ⟨env, G, d, env', q, S, k⟩ => ?_, pt.wk fun σ H Q ⟨env, G, r, env', q, S, k⟩ => ?_, pe.wk fun σ H Q ⟨env, G, x, env', q, S, k⟩ => ?_, hn, hi⟩
  · obtain ⟨r, rfl, rfl, q2⟩ := conv q
    exact main σ H env G r env' Q q2 S fun H1 G1 g1 S1 => k _ H1 G1 g1 S1 (.bl r)
  · obtain ⟨p, h1, h2⟩ := Option.map_eq_some_iff.mp q
    obtain ⟨o, x, e0⟩ := p
    cases h2
    obtain ⟨r, rfl, rfl, q2⟩ := conv h1
    exact main σ H env G r _ Q q2 S fun H1 G1 g1 S1 => k _ H1 G1 g1 S1 (.inr (.bl r))
  · obtain ⟨p, h1, h2⟩ := Option.bind_eq_some_iff.mp q
    obtain ⟨o, x, e0⟩ := p
    obtain ⟨t, h3, h4⟩ := Option.map_eq_some_iff.mp h2
    cases h4
    obtain ⟨r', rfl, rfl, q2⟩ := conv h1
    cases h3
    exact main σ H env G _ _ _ q2 S fun H1 G1 g1 S1 => ⟨_, rfl, k H1 G1 g1 S1⟩
  · obtain ⟨p, h1, h2⟩ := Option.map_eq_some_iff.mp q
    obtain ⟨o, x, e0⟩ := p
    cases h2
    obtain ⟨r, rfl, rfl, q2⟩ := conv h1
    exact main σ H env G r _ Q q2 S fun H1 G1 g1 S1 => k _ H1 G1 g1 S1 (Rep.bl r)
theorem je_ch {o1 o2 : COp} {a c t : IE} (hK : X.K = b.cs.K) (ok : WOk b.cs.W) (hu : X.A.units + 600 < cLine) (hm : lastMarks [pCmp o1, pCmp o2] [e2, e3] = false) (ha : JE X b e1 (sem Φ gv a)) (hb : JE X b e2 (sem Φ gv c)) (hc : JE X b e3 (sem Φ gv t)) :
    JE X b (.Compare e1 [pCmp o1, pCmp o2] [e2, e3] pos) (sem Φ gv (.ch o1 o2 a c t)) := by
  refine JE.bool (core := fun env => ((sem Φ gv a).ev env).bind fun p => ((sem Φ gv c).ev p.2.2).bind fun q => (cmpD o1 p.2.1 q.2.1).bind fun r =>
      if r then ((sem Φ gv t).ev q.2.2).bind fun s => (cmpD o2 q.2.1 s.2.1).map fun t => (t, s.2.2) else some (false, q.2.2))
    (pe_chain (op_cmp hu o1) (op_cmp hu o2) ha.ev hb.ev hc.ev hm) (pt_chain (op_cmp hu o1) (op_cmp hu o2) ha.ev hb.ev hc.ev hm) (fun _ _ => rfl) (fun _ _ => rfl) (fun env => ?_) fun σ H env G r env' Q q S k => ?_
  · show (((sem Φ gv a).ev env).bind fun p => ((sem Φ gv c).ev p.2.2).bind fun q => (cmpD o1 p.2.1 q.2.1).bind fun r =>
      if r then ((sem Φ gv t).ev q.2.2).bind fun s => (cmpD o2 q.2.1 s.2.1).map fun t => (false, D.bl t, s.2.2) else some (false, D.bl false, q.2.2)) = _
    cases (sem Φ gv a).ev env with
    | none => rfl
    | some p =>
      simp only [Option.bind_some]
      cases (sem Φ gv c).ev p.2.2 with
      | none => rfl
      | some q =>
        simp only [Option.bind_some]
        cases cmpD o1 p.2.1 q.2.1 with
        | none => rfl
        | some r =>
          simp only [Option.bind_some]
          cases r with
          | false => rfl
          | true =>
            simp only [if_true]
            cases (sem Φ gv t).ev q.2.2 with
            | none => rfl
            | some s =>
              simp only [Option.bind_some, Option.map_map]
              rfl
  · obtain ⟨p, h1, q⟩ := Option.bind_eq_some_iff.mp q
    obtain ⟨p2, h2, q⟩ := Option.bind_eq_some_iff.mp q
    obtain ⟨r1, h3, q⟩ := Option.bind_eq_some_iff.mp q
    refine use (own := p.1) (d := p.2.1) (env' := p.2.2) h1 S fun v1 H1 G1 g1 S1 q1 => ?_
    refine use (own := p2.1) (d := p2.2.1) (env' := p2.2.2) h2 S1 fun v2 H2 G2 g2 S2 q2 => ?_
    rw [hK]
    refine cmp_ok ok h3 ((q1.mono g2).mono S2.ex) (q2.mono S2.ex) ⟨_, rfl, ?_⟩
    cases r1 with
    | false =>
      cases q
      rw [if_neg Bool.false_ne_true]
      exact k H2 G2 (g1.trans g2) S2
    | true =>
      rw [if_pos rfl] at q ⊢
      obtain ⟨p3, h4, q⟩ := Option.bind_eq_some_iff.mp q
      obtain ⟨r2, h5, q⟩ := Option.map_eq_some_iff.mp q
      cases q
      refine use (own := p3.1) (d := p3.2.1) (env' := p3.2.2) h4 S2 fun v3 H3 G3 g3 S3 q3 => ?_
      exact cmp_ok ok h5 ((q2.mono g3).mono S3.ex) (q3.mono S3.ex) (k H3 G3 ((g1.trans g2).trans g3) S3)
/-! ### and, or, not -/
/-- a row of tests -/
structure JB (X : Cx) (b : Bs) (e : Expr) (m : Sm) : Prop where
  ev : PE X e (tEv b m.ev)
  t : PW X e (tTt b m.t)
theorem PW.wk' {t t' : TT} (h : PW X e t) (k : ∀ σ H Q, t' σ H Q → t σ H Q) : PW X e t' := ⟨fun wh pins s σ H Q I q => h.run wh pins s σ H Q I (k σ H Q q)⟩
theorem JB.je {m : Sm} (h : JB X b e m) (hl : m.lk = fun env => (m.ev env).map fun p => (p.2.1, p.2.2)) (ha : m.ar = fun env => (m.ev env).map fun p => (.v p.2.1, p.2.2))
    (hn : ∀ es env, starEach (e :: es) env = (false, eval e env) :: starEach es env) (hi : PlainIx e) : JE X b e m where
  ev := h.ev
  lk := h.ev.wk fun σ H Q ⟨env, G, d, env', q, S, k⟩ => by
    rw [hl] at q
    obtain ⟨p, h1, h2⟩ := Option.map_eq_some_iff.mp q
    cases h2
    exact use (own := p.1) (d := p.2.1) (env' := p.2.2) h1 S fun v H1 G1 g1 S1 r => k v H1 G1 g1 S1 (.inr r)
  t := h.t.pt
  ar := h.ev.wk fun σ H Q ⟨env, G, a, env', q, S, k⟩ => by
    rw [ha] at q
    obtain ⟨p, h1, h2⟩ := Option.map_eq_some_iff.mp q
    cases h2
    exact use (own := p.1) (d := p.2.1) (env' := p.2.2) h1 S fun v H1 G1 g1 S1 r => k v H1 G1 g1 S1 r
  ns := hn
  ix := hi
theorem jb_and1 {m : Sm} (h : JE X b e m) : JB X b (.BoolOp .And [e] pos) m := ⟨pe_one h.ev, pw_and1 h.t⟩
theorem jb_or1 {m : Sm} (h : JE X b e m) : JB X b (.BoolOp .Or [e] pos) m := ⟨pe_one h.ev, pw_or1 h.t⟩
theorem jb_and {r : List Expr} {a c : IE} (ha : JE X b e1 (sem Φ gv a)) (hb : JB X b (.BoolOp .And (e2 :: r) pos) (sem Φ gv c)) : JB X b (.BoolOp .And (e1 :: e2 :: r) pos) (sem Φ gv (.and_ a c)) where
  ev := (pe_and ha.ev hb.ev).wk fun σ H Q ⟨env, G, own, d, env', q, S, k⟩ => by
    obtain ⟨p, h1, q⟩ := Option.bind_eq_some_iff.mp q
    obtain ⟨o, x, e0⟩ := p
    refine use h1 S fun v1 H1 G1 g1 S1 r1 => ?_
    split at q
    · rename_i hx
      simp only at hx
      subst hx
      cases r1
      refine ⟨true, rfl, ?_⟩
      rw [if_pos rfl]
      obtain ⟨p2, h2, q⟩ := Option.bind_eq_some_iff.mp q
      obtain ⟨o2, x2, e02⟩ := p2
      refine use h2 S1 fun v2 H2 G2 g2 S2 r2 => ?_
      split at q
      · rename_i hx2
        simp only at hx2
        subst hx2
        cases q
        exact k v2 H2 G2 (g1.trans g2) S2 r2
      · cases q
    · rename_i hx
      simp only at hx
      subst hx
      cases r1
      cases q
      refine ⟨false, rfl, ?_⟩
      rw [if_neg Bool.false_ne_true]
      exact k _ H1 G1 g1 S1 (.bl false)
    · cases q
  t := PW.wk' (pw_and ha.t hb.t) fun σ H Q ⟨env, G, r, env', q, S, k⟩ => by
    obtain ⟨p, h1, q⟩ := Option.bind_eq_some_iff.mp q
    obtain ⟨x, e0⟩ := p
    refine useT h1 S fun H1 G1 g1 S1 => ?_
    cases x with
    | true =>
      rw [if_pos rfl] at q ⊢
      exact useT q S1 fun H2 G2 g2 S2 => k H2 G2 (g1.trans g2) S2
    | false =>
      rw [if_neg Bool.false_ne_true] at q ⊢
      cases q
      exact k H1 G1 g1 S1
theorem jb_or {r : List Expr} {a c : IE} (ha : JE X b e1 (sem Φ gv a)) (hb : JB X b (.BoolOp .Or (e2 :: r) pos) (sem Φ gv c)) : JB X b (.BoolOp .Or (e1 :: e2 :: r) pos) (sem Φ gv (.or_ a c)) where
  ev := (pe_or ha.ev hb.ev).wk fun σ H Q ⟨env, G, own, d, env', q, S, k⟩ => by
    obtain ⟨p, h1, q⟩ := Option.bind_eq_some_iff.mp q
    obtain ⟨o, x, e0⟩ := p
    refine use h1 S fun v1 H1 G1 g1 S1 r1 => ?_
    split at q
    · rename_i hx
      simp only at hx
      subst hx
      cases r1
      refine ⟨false, rfl, ?_⟩
      rw [if_neg Bool.false_ne_true]
      obtain ⟨p2, h2, q⟩ := Option.bind_eq_some_iff.mp q
      obtain ⟨o2, x2, e02⟩ := p2
      refine use h2 S1 fun v2 H2 G2 g2 S2 r2 => ?_
      split at q
      · rename_i hx2
        simp only at hx2
        subst hx2
        cases q
        exact k v2 H2 G2 (g1.trans g2) S2 r2
      · cases q
    · rename_i hx
      simp only at hx
      subst hx
      cases r1
      cases q
      refine ⟨true, rfl, ?_⟩
      rw [if_pos rfl]
      exact k _ H1 G1 g1 S1 (.bl true)
    · cases q
  t := PW.wk' (pw_or ha.t hb.t) fun σ H Q ⟨env, G, r, env', q, S, k⟩ => by
    obtain ⟨p, h1, q⟩ := Option.bind_eq_some_iff.mp q
    obtain ⟨x, e0⟩ := p
    refine useT h1 S fun H1 G1 g1 S1 => ?_
    cases x with
    | false =>
      rw [if_neg Bool.false_ne_true] at q ⊢
      exact useT q S1 fun H2 G2 g2 S2 => k H2 G2 (g1.trans g2) S2
    | true =>
      rw [if_pos rfl] at q ⊢
      cases q
      exact k H1 G1 g1 S1
theorem je_and {r : List Expr} {a c : IE} (h : JB X b (.BoolOp .And (e1 :: e2 :: r) pos) (sem Φ gv (.and_ a c))) : JE X b (.BoolOp .And (e1 :: e2 :: r) pos) (sem Φ gv (.and_ a c)) := h.je rfl rfl (fun _ _ => rfl) (fun _ _ => rfl)
theorem je_or {r : List Expr} {a c : IE} (h : JB X b (.BoolOp .Or (e1 :: e2 :: r) pos) (sem Φ gv (.or_ a c))) : JE X b (.BoolOp .Or (e1 :: e2 :: r) pos) (sem Φ gv (.or_ a c)) := h.je rfl rfl (fun _ _ => rfl) (fun _ _ => rfl)
theorem je_not {a : IE} (ha : JE X b e (sem Φ gv a)) : JE X b (.UnaryOp .Not e pos) (sem Φ gv (.not_ a)) where
  ev := (pe_not ha.ev).wk fun σ H Q ⟨env, G, own, d, env', q, S, k⟩ => by
    obtain ⟨p, h1, q⟩ := Option.bind_eq_some_iff.mp q
    obtain ⟨o, x, e0⟩ := p
    refine use h1 S fun v1 H1 G1 g1 S1 r1 => ?_
    split at q
    · rename_i hx
      simp only at hx
      subst hx
      cases r1
      cases q
      exact ⟨_, rfl, k _ H1 G1 g1 S1 (Rep.bl _)⟩
    · cases q
  lk := (pe_not ha.ev).wk fun σ H Q ⟨env, G, d, env', q, S, k⟩ => by
    obtain ⟨p, h1, h2⟩ := Option.map_eq_some_iff.mp q
    cases h2
    obtain ⟨p2, h1, q⟩ := Option.bind_eq_some_iff.mp h1
    obtain ⟨o, x, e0⟩ := p2
    refine use h1 S fun v1 H1 G1 g1 S1 r1 => ?_
    split at q
    · rename_i hx
      simp only at hx
      subst hx
      cases r1
      cases q
      exact ⟨_, rfl, k _ H1 G1 g1 S1 (.inr (Rep.bl _))⟩
    · cases q
  t := (pt_not ha.t).wk fun σ H Q ⟨env, G, r, env', q, S, k⟩ => by
    obtain ⟨p, h1, h2⟩ := Option.map_eq_some_iff.mp q
    cases h2
    exact useT (r := p.1) (env' := p.2) h1 S fun H1 G1 g1 S1 => k H1 G1 g1 S1
  ar := (pe_not ha.ev).wk fun σ H Q ⟨env, G, a', env', q, S, k⟩ => by
    obtain ⟨p, h1, h2⟩ := Option.map_eq_some_iff.mp q
    cases h2
    obtain ⟨p2, h1, q⟩ := Option.bind_eq_some_iff.mp h1
    obtain ⟨o, x, e0⟩ := p2
    refine use h1 S fun v1 H1 G1 g1 S1 r1 => ?_
    split at q
    · rename_i hx
      simp only at hx
      subst hx
      cases r1
      cases q
      exact ⟨_, rfl, k _ H1 G1 g1 S1 (Rep.bl _)⟩
    · cases q
  ns := fun _ _ => rfl
  ix := fun _ _ => rfl
theorem je_ite {c a d : IE} (hc : JE X b e1 (sem Φ gv c)) (ha : JE X b e2 (sem Φ gv a)) (hd : JE X b e3 (sem Φ gv d)) : JE X b (.IfExp e1 e2 e3 pos) (sem Φ gv (.ite c a d)) := by
  have pe := pe_ifExp (pos := pos) hc.t ha.ev hd.ev
  have ev : PE X (.IfExp e1 e2 e3 pos) (tEv b (sem Φ gv (.ite c a d)).ev) := pe.wk fun σ H Q ⟨env, G, own, x, env', q, S, k⟩ => by
    obtain ⟨p, h1, q⟩ := Option.bind_eq_some_iff.mp q
    obtain ⟨t, e0⟩ := p
    refine useT h1 S fun H1 G1 g1 S1 => ?_
    cases t with
    | true =>
      rw [if_pos rfl] at q ⊢
      exact ⟨_, G1, own, x, env', q, S1, k.step g1⟩
    | false =>
      rw [if_neg Bool.false_ne_true] at q ⊢
      exact ⟨_, G1, own, x, env', q, S1, k.step g1⟩
  refine ⟨ev, ev.wk fun σ H Q ⟨env, G, x, env', q, S, k⟩ => ?_, ⟨fun pins s σ H Q I ⟨env, G, r, env', q, S, k⟩ => nomatch q⟩, ev.wk fun σ H Q ⟨env, G, x, env', q, S, k⟩ => ?_, fun _ _ => rfl, fun _ _ => rfl⟩
  · obtain ⟨p, h1, h2⟩ := Option.map_eq_some_iff.mp q
    cases h2
    exact use (own := p.1) (d := p.2.1) (env' := p.2.2) h1 S fun v H1 G1 g1 S1 r => k v H1 G1 g1 S1 (.inr r)
  · obtain ⟨p, h1, h2⟩ := Option.map_eq_some_iff.mp q
    cases h2
    exact use (own := p.1) (d := p.2.1) (env' := p.2.2) h1 S fun v H1 G1 g1 S1 r => k v H1 G1 g1 S1 r
end
end PD
namespace PD
open PySem L2
section
variable {X : Cx} {b : Bs} {e e1 e2 e3 : Expr} {pos : Pos} {Φ : Phi} {gv : Nat → D}
/-! ### several -/
structure JEs (X : Cx) (b : Bs) (es : List Expr) (m : Sms) : Prop where
  ev : PA X es (tEvs b m.ev)
  ar : PA X es (tArs b m.ar)
  len : ∀ env ds env', m.ev env = some (ds, env') → ds.length = es.length
  pl : ∀ env (p : Pos), (backTo p (starEach es env)).any (·.1) = false ∧ (starEach es env).length = es.length
theorem jes_nil : JEs X b [] (sems Φ gv .nil) where
  ev := pa_nil.wk fun σ H Q ⟨env, G, ds, env', q, S, k⟩ => by
    cases q
    exact k [] H G (Same.refl G) S .nil
  ar := pa_nil.wk fun σ H Q ⟨env, G, ds, env', q, S, k⟩ => by
    cases q
    exact k [] H G (Same.refl G) S .nil
  len := fun env ds env' q => by cases q; rfl
  pl := fun _ _ => ⟨rfl, rfl⟩
theorem jes_cons {es : List Expr} {a : IE} {c : IEs} (ha : JE X b e (sem Φ gv a)) (hb : JEs X b es (sems Φ gv c)) : JEs X b (e :: es) (sems Φ gv (.cons a c)) where
  ev := (pa_cons ha.ev hb.ev (ha.ns _ _)).wk fun σ H Q ⟨env, G, ds, env', q, S, k⟩ => by
    obtain ⟨p, h1, q⟩ := Option.bind_eq_some_iff.mp q
    obtain ⟨o, x, e0⟩ := p
    obtain ⟨p2, h2, q⟩ := Option.map_eq_some_iff.mp q
    cases q
    refine use h1 S fun v1 H1 G1 g1 S1 r1 => ?_
    exact ⟨_, G1, _, _, h2, S1, fun vs H2 G2 g2 S2 r2 => k _ H2 G2 (g1.trans g2) S2 (.cons (r1.mono g2) r2)⟩
  ar := (pa_cons ha.ar hb.ar (ha.ns _ _)).wk fun σ H Q ⟨env, G, ds, env', q, S, k⟩ => by
    obtain ⟨p, h1, q⟩ := Option.bind_eq_some_iff.mp q
    obtain ⟨x, e0⟩ := p
    obtain ⟨p2, h2, q⟩ := Option.map_eq_some_iff.mp q
    cases q
    refine ⟨_, G, _, _, h1, S, fun v1 H1 G1 g1 S1 r1 => ?_⟩
    refine ⟨_, G1, _, _, h2, S1, fun vs H2 G2 g2 S2 r2 => k _ H2 G2 (g1.trans g2) S2 (.cons ?_ r2)⟩
    cases x with
    | v d => exact Rep.mono g2 r1
    | s i => exact r1
  len := fun env ds env' q => by
    obtain ⟨p, h1, q⟩ := Option.bind_eq_some_iff.mp q
    obtain ⟨p2, h2, q⟩ := Option.map_eq_some_iff.mp q
    cases q
    rw [List.length_cons, List.length_cons, hb.len _ _ _ h2]
  pl := fun env p => by
    rw [ha.ns]
    refine ⟨?_, by rw [List.length_cons, List.length_cons, (hb.pl env p).2]⟩
    show (false || (backTo p (starEach es env)).any (·.1)) = false
    rw [(hb.pl env p).1]
    rfl
theorem jt_nil : PTs X [] (tTt b (sems Φ gv .nil).t) := ⟨fun pins s σ H Q I ⟨env, G, r, env', q, S, k⟩ => pts_nil.run pins s σ H Q I (by cases q; exact k H G (Same.refl G) S)⟩
theorem jt_one {a : IE} (ha : JE X b e (sem Φ gv a)) : PTs X [e] (tTt b (sems Φ gv (.cons a .nil)).t) := by
  refine ⟨fun pins s σ H Q I ⟨env, G, r, env', q, S, k⟩ => (pts_one ha.t).run pins s σ H Q I ?_⟩
  obtain ⟨p, h1, q⟩ := Option.bind_eq_some_iff.mp q
  obtain ⟨x, e0⟩ := p
  refine useT h1 S fun H1 G1 g1 S1 => ?_
  cases x with
  | false =>
    rw [if_neg Bool.false_ne_true] at q
    cases q
    exact k H1 G1 g1 S1
  | true =>
    rw [if_pos rfl] at q
    cases q
    exact k H1 G1 g1 S1
theorem je_tup {es : List Expr} {k : Nat} {c : IEs} (hK : X.K = b.cs.K) (hn : es.length ≤ 1000) (h : JEs X b es (sems Φ gv c)) : JE X b (.Tuple es k pos) (sem Φ gv (.tup c)) := by
  refine JE.of hK ((pe_tup h.ev).wk fun σ H Q ⟨env, G, own, d, env', q, S, k⟩ => ?_) bare_tup
  obtain ⟨p, h1, q⟩ := Option.map_eq_some_iff.mp q
  cases q
  refine ⟨_, G, p.1, p.2, h1, S, fun vs H1 G1 g1 S1 r1 => ⟨?_, fun a ha => (k.step g1).tupN S1 r1 ha⟩⟩
  rw [r1.length, h.len _ _ _ h1, sizeLine_eq]
  omega
theorem je_lst {es : List Expr} {c : IEs} (hK : X.K = b.cs.K) (hn : es.length ≤ 1000) (h : JEs X b es (sems Φ gv c)) : JE X b (.List es pos) (sem Φ gv (.lst c)) := by
  refine JE.of hK ((pe_lst h.ev).wk fun σ H Q ⟨env, G, own, d, env', q, S, k⟩ => ?_) bare_lst
  obtain ⟨p, h1, q⟩ := Option.map_eq_some_iff.mp q
  cases q
  refine ⟨_, G, p.1, p.2, h1, S, fun vs H1 G1 g1 S1 r1 => ⟨?_, fun a ha => (k.step g1).lstN S1 r1 ha⟩⟩
  rw [r1.length, h.len _ _ _ h1, sizeLine_eq]
  omega
theorem je_dnew (hK : X.K = b.cs.K) : JE X b (.Dict [] [] pos) (sem Φ gv .dnew) := by
  refine JE.of hK (pe_dnewK.wk fun σ H Q ⟨env, G, own, d, env', q, S, k⟩ => ?_) bare_dict
  cases q
  intro p hp
  obtain ⟨S', h1, h2, h3⟩ := S.made (o := .dK []) hp
  exact k _ _ _ (Same.refl G) S' ⟨p, rfl, h1, h2, ⟨[], upd_same, .nil, .nil⟩, h3⟩
/-! ### places and slices -/
theorem je_idx {a c : IE} (hK : X.K = b.cs.K) (ha : JE X b e1 (sem Φ gv a)) (hb : JE X b e2 (sem Φ gv c)) : JE X b (.Subscript e1 e2 pos) (sem Φ gv (.idx a c)) := by
  refine JE.of hK ((pe_ix ix_idx ha.ev hb.ev hb.ix).wk fun σ H Q ⟨env, G, own, d, env', q, S, k⟩ => ?_) bare_sub
  obtain ⟨p, h1, q⟩ := Option.bind_eq_some_iff.mp q
  obtain ⟨p2, h2, q⟩ := Option.bind_eq_some_iff.mp q
  obtain ⟨d', h3, h4⟩ := Option.map_eq_some_iff.mp q
  cases h4
  refine use (own := p.1) (d := p.2.1) (env' := p.2.2) h1 S fun v1 H1 G1 g1 S1 r1 => ?_
  refine use (own := p2.1) (d := p2.2.1) (env' := p2.2.2) h2 S1 fun v2 H2 G2 g2 S2 r2 => ?_
  rw [hK]
  exact idx_ok h3 S2 (.inr (r1.mono g2)) r2 (k.step (g1.trans g2))
theorem je_idxV {i : Nat} {c : IE} (hK : X.K = b.cs.K) (ha : PE X e1 (tVar i)) (hb : JE X b e2 (sem Φ gv c)) : JE X b (.Subscript e1 e2 pos) (sem Φ gv (.idxV i c)) := by
  refine JE.of hK ((pe_ix ix_idx ha hb.ev hb.ix).wk fun σ H Q ⟨env, G, own, d, env', q, S, k⟩ => ?_) bare_sub
  obtain ⟨z, h0, q⟩ := Option.bind_eq_some_iff.mp q
  obtain ⟨p, h1, q⟩ := Option.bind_eq_some_iff.mp q
  obtain ⟨o, x, e0⟩ := p
  obtain ⟨y, h2, q⟩ := Option.bind_eq_some_iff.mp q
  obtain ⟨d', h3, h4⟩ := Option.map_eq_some_iff.mp q
  cases h4
  obtain ⟨v, hv, _⟩ := S.look h0
  refine ⟨v, hv, ?_⟩
  refine use h1 S fun v1 H1 G1 g1 S1 r1 => ?_
  obtain ⟨v', hv', rv⟩ := S1.look h2
  rw [hv] at hv'
  cases hv'
  rw [hK]
  exact idx_ok h3 S1 rv r1 (k.step g1)
theorem je_slL {a c : IE} {p2 : Pos} (hK : X.K = b.cs.K) (ha : JE X b e1 (sem Φ gv a)) (hb : JE X b e2 (sem Φ gv c)) : JE X b (.Subscript e1 (.Slice (some e2) none none p2) pos) (sem Φ gv (.slL a c)) := by
  refine JE.of hK ((pe_slice sl_sli ha.ev (po_some hb.ev) po_none).wk fun σ H Q ⟨env, G, own, d, env', q, S, k⟩ => ?_) bare_sub
  obtain ⟨p, h1, q⟩ := Option.bind_eq_some_iff.mp q
  obtain ⟨p2, h2, q⟩ := Option.bind_eq_some_iff.mp q
  obtain ⟨o, x, e0⟩ := p2
  refine use (own := p.1) (d := p.2.1) (env' := p.2.2) h1 S fun v1 H1 G1 g1 S1 r1 => ?_
  refine use h2 S1 fun v2 H2 G2 g2 S2 r2 => ?_
  split at q
  · rename_i hx
    simp only at hx
    subst hx
    cases r2
    obtain ⟨d', h3, h4⟩ := Option.map_eq_some_iff.mp q
    cases h4
    refine ⟨_, rfl, ?_⟩
    rw [hK]
    exact sl_ok h3 S2 (r1.mono g2) (k.step (g1.trans g2))
  · cases q
theorem je_slU {a c : IE} {p2 : Pos} (hK : X.K = b.cs.K) (ha : JE X b e1 (sem Φ gv a)) (hb : JE X b e2 (sem Φ gv c)) : JE X b (.Subscript e1 (.Slice none (some e2) none p2) pos) (sem Φ gv (.slU a c)) := by
  refine JE.of hK ((pe_slice sl_sli ha.ev po_none (po_some hb.ev)).wk fun σ H Q ⟨env, G, own, d, env', q, S, k⟩ => ?_) bare_sub
  obtain ⟨p, h1, q⟩ := Option.bind_eq_some_iff.mp q
  obtain ⟨p2, h2, q⟩ := Option.bind_eq_some_iff.mp q
  obtain ⟨o, x, e0⟩ := p2
  refine use (own := p.1) (d := p.2.1) (env' := p.2.2) h1 S fun v1 H1 G1 g1 S1 r1 => ?_
  refine use h2 S1 fun v2 H2 G2 g2 S2 r2 => ?_
  split at q
  · rename_i hx
    simp only at hx
    subst hx
    cases r2
    obtain ⟨d', h3, h4⟩ := Option.map_eq_some_iff.mp q
    cases h4
    refine ⟨_, rfl, ?_⟩
    rw [hK]
    exact sl_ok h3 S2 (r1.mono g2) (k.step (g1.trans g2))
  · cases q
theorem je_slB {a c t : IE} {p2 : Pos} (hK : X.K = b.cs.K) (ha : JE X b e1 (sem Φ gv a)) (hb : JE X b e2 (sem Φ gv c)) (hc : JE X b e3 (sem Φ gv t)) : JE X b (.Subscript e1 (.Slice (some e2) (some e3) none p2) pos) (sem Φ gv (.slB a c t)) := by
  refine JE.of hK ((pe_slice sl_sli ha.ev (po_some hb.ev) (po_some hc.ev)).wk fun σ H Q ⟨env, G, own, d, env', q, S, k⟩ => ?_) bare_sub
  obtain ⟨p, h1, q⟩ := Option.bind_eq_some_iff.mp q
  obtain ⟨p2, h2, q⟩ := Option.bind_eq_some_iff.mp q
  obtain ⟨p3, h3, q⟩ := Option.bind_eq_some_iff.mp q
  obtain ⟨o, x, e0⟩ := p2
  obtain ⟨o', x', e0'⟩ := p3
  refine use (own := p.1) (d := p.2.1) (env' := p.2.2) h1 S fun v1 H1 G1 g1 S1 r1 => ?_
  refine use h2 S1 fun v2 H2 G2 g2 S2 r2 => ?_
  split at q
  · rename_i hx hx'
    simp only at hx hx'
    subst hx hx'
    cases r2
    refine ⟨_, rfl, use h3 S2 fun v3 H3 G3 g3 S3 r3 => ?_⟩
    cases r3
    obtain ⟨d', h4, h5⟩ := Option.map_eq_some_iff.mp q
    cases h5
    refine ⟨_, rfl, ?_⟩
    rw [hK]
    exact sl_ok h4 S3 ((r1.mono g2).mono g3) (k.step ((g1.trans g2).trans g3))
  · cases q
/-! ### built-ins -/
theorem bi_blt : ∀ i : BI, bootBuiltins (biName i) = some (biVal i) := fun i => by cases i <;> decide +kernel
theorem bi_mem : ∀ i : BI, biName i ∈ bltNames := fun i => by cases i <;> decide +kernel
theorem bi_name : ∀ i : BI, biName i ≠ "__name__" ∧ (biName i == ("__debug__" : Str)) = false := fun i => by cases i <;> decide +kernel
theorem pe_bi {i : BI} {p : Pos} {t : TE} (hr : CallR X (biVal i) (rBi X.K i)) (hg : Gl X (biName i)) (hm : X.mg (biName i) = none) (ha : PE X e t) (hn : ∀ es env, starEach (e :: es) env = (false, eval e env) :: starEach es env) :
    PE X (.Call (.Name (biName i) p) [e] [] pos) (tCB (rBi X.K i) (tCons t tNil)) := by
  have hb := bi_blt i
  obtain ⟨n1, n2⟩ := bi_name i
  have pa := pa_cons ha pa_nil (hn _ _)
  cases i <;> first
    | exact pe_callB hr hg hm hb pa n1 n2 (hn _ _) rfl
    | exact pe_callTy hr hg hm hb pa n1 n2 (hn _ _) rfl
theorem je_bi {i : BI} {p : Pos} {a : IE} (hK : X.K = b.cs.K) (ok : WOk b.cs.W) (hr : CallR X (biVal i) (rBi X.K i)) (hg : Gl X (biName i)) (hm : X.mg (biName i) = none) (ha : JE X b e (sem Φ gv a)) :
    JE X b (.Call (.Name (biName i) p) [e] [] pos) (sem Φ gv (.bi i a)) := by
  refine JE.of hK ((pe_bi hr hg hm ha.lk ha.ns).wk fun σ H Q ⟨env, G, own, d, env', q, S, k⟩ => ?_) bare_call
  obtain ⟨p, h1, q⟩ := Option.bind_eq_some_iff.mp q
  obtain ⟨d', h3, h4⟩ := Option.map_eq_some_iff.mp q
  obtain ⟨o, x⟩ := d'
  cases h4
  refine useL (d := p.1) (env' := p.2) h1 S fun v1 H1 G1 g1 S1 r1 => ?_
  rw [hK]
  exact bi_ok ok h3 S1 r1 (k.step g1)
def b2Name : B2 → Str
  | .max => "max"
  | .min => "min"
def rB2 : B2 → List V → Hp → VK → Prop
  | .max => fun xs H Q => ∃ i j, xs = [.int i, .int j] ∧ Q (.int (if j > i then j else i)) H
  | .min => fun xs H Q => ∃ i j, xs = [.int i, .int j] ∧ Q (.int (if j < i then j else i)) H
theorem je_b2 {i : B2} {p : Pos} {a c : IE} (hK : X.K = b.cs.K) (hc : X.calm = true) (hg : Gl X (b2Name i)) (hm : X.mg (b2Name i) = none) (ha : JE X b e1 (sem Φ gv a)) (hb : JE X b e2 (sem Φ gv c)) :
    JE X b (.Call (.Name (b2Name i) p) [e1, e2] [] pos) (sem Φ gv (.b2 i a c)) := by
  have pl : (backTo pos (starEach [e2] X.env)).any (·.1) = false := by
    rw [hb.ns]
    rfl
  have pe : PE X (.Call (.Name (b2Name i) p) [e1, e2] [] pos) (tCB (rB2 i) (tCons (tEv b (sem Φ gv a).ev) (tCons (tEv b (sem Φ gv c).ev) tNil))) := by
    have pa := pa_cons ha.ev (pa_cons hb.ev pa_nil (hb.ns _ _)) (ha.ns _ _)
    cases i with
    | max => exact pe_callB (call_max2 hc) hg hm (by decide +kernel) pa (by decide +kernel) (by decide +kernel) (ha.ns _ _) pl
    | min => exact pe_callB (call_min2 hc) hg hm (by decide +kernel) pa (by decide +kernel) (by decide +kernel) (ha.ns _ _) pl
  refine JE.of hK (pe.wk fun σ H Q ⟨env, G, own, d, env', q, S, k⟩ => ?_) bare_call
  obtain ⟨⟨o1, x1, w1⟩, h1, q⟩ := Option.bind_eq_some_iff.mp q
  obtain ⟨⟨o2, x2, w2⟩, h2, q⟩ := Option.bind_eq_some_iff.mp q
  obtain ⟨d', h3, h4⟩ := Option.map_eq_some_iff.mp q
  cases h4
  refine use h1 S fun v1 H1 G1 g1 S1 r1 => ?_
  refine use h2 S1 fun v2 H2 G2 g2 S2 r2 => ?_
  have k' := k.step (g1.trans g2)
  simp only at h3
  unfold b2D at h3
  split at h3
  · cases h3
    cases r1
    cases r2
    exact ⟨_, _, rfl, k'.rep S2 (.int _)⟩
  · cases h3
    cases r1
    cases r2
    exact ⟨_, _, rfl, k'.rep S2 (.int _)⟩
  · cases h3
def tyName : TY → Str
  | .tup => "tuple"
  | .str => "str"
  | .int => "int"
  | .bool => "bool"
  | .lst => "list"
def tyStr : TY → String
  | .tup => "tuple"
  | .str => "str"
  | .int => "int"
  | .bool => "bool"
  | .lst => "list"
theorem Rep.tyx {H : Hp} {v : V} {d : D} (r : Rep b.cs H v d) : ∀ t, isiD t d = some own → ∃ u : String, TyX b.cs.K H v (.type u) ∧ kitB u (tyStr t) = some own := by
  intro t h
  cases r with
  | non => exact ⟨"NoneType", .base (.non), by cases t <;> (simp only [isiD] at h; first | (cases h; decide +kernel) | cases h)⟩
  | bl x => exact ⟨"bool", .base (.bl x), by cases t <;> (simp only [isiD] at h; first | (cases h; decide +kernel) | cases h)⟩
  | int x => exact ⟨"int", .base (.int x), by cases t <;> (simp only [isiD] at h; first | (cases h; decide +kernel) | cases h)⟩
  | w hw => exact ⟨"str", .base (.str _), by cases t <;> (simp only [isiD] at h; first | (cases h; decide +kernel) | cases h)⟩
  | rp _ => cases t <;> (simp only [isiD] at h; cases h)
  | scr _ => cases t <;> (simp only [isiD] at h; cases h)
  | tup e r =>
    refine ⟨"tuple", ?_, by cases t <;> (simp only [isiD] at h; first | (cases h; decide +kernel) | cases h)⟩
    rcases e with (e | ⟨o, e⟩) | ⟨o, its, n, e, c, _⟩
    · exact .base (.tup e)
    · exact .fTuple e
    · exact .kTuple e c
  | lst e r => exact ⟨"list", .base (.lst e), by cases t <;> (simp only [isiD] at h; first | (cases h; decide +kernel) | cases h)⟩
  | dic _ _ _ => cases t <;> (simp only [isiD] at h; cases h)
theorem je_isi {t : TY} {p p' : Pos} {a : IE} (hK : X.K = b.cs.K) (hg : Gl X "isinstance") (hm : X.mg "isinstance" = none) (hg2 : Gl X (tyName t)) (hm2 : X.mg (tyName t) = none) (ha : JE X b e (sem Φ gv a)) :
    JE X b (.Call (.Name "isinstance" p) [e, .Name (tyName t) p'] [] pos) (sem Φ gv (.isi t a)) := by
  have pn : PE X (.Name (tyName t) p') (tC (.ty (tyStr t))) := by
    cases t <;> exact pe_bltn (u := .type _) hg2 hm2 (by decide +kernel) rfl (by decide +kernel) (by decide +kernel)
  have pe : PE X (.Call (.Name "isinstance" p) [e, .Name (tyName t) p'] [] pos) (tCB (rIsi X.K) (tCons (tEv b (sem Φ gv a).ev) (tCons (tC (.ty (tyStr t))) tNil))) :=
    pe_callB call_isi hg hm (by decide +kernel) (pa_cons ha.ev (pa_cons pn pa_nil) (ha.ns _ _)) (by decide +kernel) (by decide +kernel) (ha.ns _ _) rfl
  refine JE.of hK (pe.wk fun σ H Q ⟨env, G, own, d, env', q, S, k⟩ => ?_) bare_call
  obtain ⟨p, h1, q⟩ := Option.bind_eq_some_iff.mp q
  obtain ⟨d', h3, h4⟩ := Option.map_eq_some_iff.mp q
  cases h4
  refine use (own := p.1) (d := p.2.1) (env' := p.2.2) h1 S fun v1 H1 G1 g1 S1 r1 => ?_
  obtain ⟨u, tx, kb⟩ := (r1.mono S1.ex).tyx t h3
  exact ⟨_, _, .type u, .type (tyStr t), d', rfl, .ty _, by rw [hK]; exact tx, kit_ty kb, (k.step g1).rep S1 (.bl _)⟩
end
end PD
namespace PD
open PySem L2
section
variable {X : Cx} {b : Bs} {e e1 e2 e3 : Expr} {pos : Pos} {Φ : Phi} {gv : Nat → D}
theorem upto_rg (a n : Int) : rgV a n = (upto a (n - a).toNat).map V.int := by
  unfold rgV
  generalize (n - a).toNat = k
  clear n
  induction k generalizing a with
  | zero => rfl
  | succ k ih =>
    unfold upto
    rw [List.range_succ_eq_map, List.map_cons, List.map_cons, List.map_map, ← ih (a + 1)]
    refine congr (congrArg _ (by simp)) (List.map_congr_left fun j _ => ?_)
    show V.int (a + ((j + 1 : Nat) : Int)) = V.int (a + 1 + (j : Nat))
    congr 1
    omega
theorem je_tupR {a : IE} {p p1 p2 : Pos} (hK : X.K = b.cs.K) (hc : X.calm = true) (hg : Gl X "tuple") (hm : X.mg "tuple" = none) (hg2 : Gl X "range") (hm2 : X.mg "range" = none) (ha : JE X b e (sem Φ gv a)) :
    JE X b (.Call (.Name "tuple" p) [.Call (.Name "range" p1) [e] [] p2] [] pos) (sem Φ gv (.tupR a)) := by
  refine JE.of hK ((pe_tupRg hc hg hm (prg_1 hg2 hm2 ha.ev (ha.ns _ _))).wk fun σ H Q ⟨env, G, own, d, env', q, S, k⟩ => ?_) bare_call
  obtain ⟨⟨o, x, w⟩, h1, q⟩ := Option.bind_eq_some_iff.mp q
  refine use h1 S fun v1 H1 G1 g1 S1 r1 => ?_
  simp only at q
  split at q
  · cases r1
    split at q
    · rename_i n hn
      cases q
      refine ⟨_, rfl, ⟨by omega, by omega, by omega, by omega, by omega⟩, fun p hp => ?_⟩
      rw [upto_rg]
      have : (n - 0).toNat = n.toNat := by omega
      rw [this]
      exact (k.step g1).tupN S1 (Reps.ofInts _) hp
    · cases q
  · cases q
theorem je_lstR {a : IE} {p p1 p2 : Pos} (hK : X.K = b.cs.K) (hc : X.calm = true) (hg : Gl X "list") (hm : X.mg "list" = none) (hg2 : Gl X "range") (hm2 : X.mg "range" = none) (ha : JE X b e (sem Φ gv a)) :
    JE X b (.Call (.Name "list" p) [.Call (.Name "range" p1) [e] [] p2] [] pos) (sem Φ gv (.lstR a)) := by
  refine JE.of hK ((pe_listRg hc hg hm (prg_1 hg2 hm2 ha.ev (ha.ns _ _))).wk fun σ H Q ⟨env, G, own, d, env', q, S, k⟩ => ?_) bare_call
  obtain ⟨⟨o, x, w⟩, h1, q⟩ := Option.bind_eq_some_iff.mp q
  refine use h1 S fun v1 H1 G1 g1 S1 r1 => ?_
  simp only at q
  split at q
  · cases r1
    split at q
    · rename_i n hn
      cases q
      refine ⟨_, rfl, ⟨by omega, by omega, by omega, by omega, by omega⟩, fun p hp => ?_⟩
      rw [upto_rg]
      have : (n - 0).toNat = n.toNat := by omega
      rw [this]
      exact (k.step g1).lstN S1 (Reps.ofInts _) hp
    · cases q
  · cases q

/-! ### what changes an object -/
theorem ownC_some {env : Env} {i : Nat} {f : Fl} {d : D} (h : ownC env i = some (f, d)) : env[i]? = some (some (f, d)) ∧ isOwn f = true := by
  unfold ownC at h
  split at h
  · rename_i hc
    cases h
    exact ⟨getC_some hc, rfl⟩
  · rename_i hc
    cases h
    exact ⟨getC_some hc, rfl⟩
  · cases h
theorem Sat.own {σ : L2.St} {H G : Hp} {env : Env} (S : Sat b σ H G env) {i : Nat} {f : Fl} {d : D} (h : ownC env i = some (f, d)) :
    ∃ a, σ[i]? = some (some (V.ref a)) ∧ OwnAt b.cs H G a d ∧ ∀ o d', OwnAt b.cs (upd H a o) G a d' → Sat b σ (upd H a o) G (env.set i (some (f, d'))) := by
  obtain ⟨he, hf⟩ := ownC_some h
  obtain ⟨v, hv, k⟩ := S.slot i f d he
  obtain ⟨a, ea, ga, ow, _⟩ := k.isRef hf
  subst ea
  exact ⟨a, hv, ow, fun o d' ow' => S.write he hf hv ow'⟩
theorem lst_ty {σ : L2.St} {H G : Hp} {env : Env} (S : Sat b σ H G env) {i : Nat} {z : D} (h : ((lookV env i).bind fun z => if isL z then some z else none) = some z) : ∃ v, σ[i]? = some (some v) ∧ tyV b.cs.K "list" v H := by
  obtain ⟨y, h1, h2⟩ := Option.bind_eq_some_iff.mp h
  obtain ⟨v, hv, s⟩ := S.look h1
  refine ⟨v, hv, ?_⟩
  cases y <;> first
    | (rw [if_neg (by exact Bool.false_ne_true)] at h2; cases h2)
    | skip
  obtain ⟨a, vs, rfl, e, _⟩ := s.lst S
  exact .inl ⟨rfl, _, .of e⟩
theorem meth_few {c : Pos} (hn : ∀ es env, starEach (e :: es) env = (false, eval e env) :: starEach es env) :
    ((backTo c (starEach [e] X.env)).all (fun x => !x.1) && (backToKw c (keywordEach [] X.env)).all (fun x => x.1.isSome)
      && decide (([e] : List Expr).length + ([] : List Keyword).length + (if ([] : List Keyword).isEmpty then 0 else 1) < 30)) = true := by
  rw [hn]
  rfl
theorem je_app {i : Nat} {a : IE} {x : Str} {p ap : Pos} (hK : X.K = b.cs.K) (hl : (ap.endLine == pos.line) = true) (hv : PE X (.Name x p) (tVar i)) (ha : JE X b e (sem Φ gv a)) :
    JE X b (.Call (.Attribute (.Name x p) "append" ap) [e] [] pos) (sem Φ gv (.app i a)) := by
  refine JE.of hK ((pe_bm PySem.F.plainAttrs_list PySem.F.slot_list_append PySem.F.type_list_append mt_append hv (pa_cons ha.ev pa_nil (ha.ns _ _)) rfl (meth_few ha.ns) hl (ha.ns _ _) rfl).wk fun σ H Q ⟨env, G, own, d, env', q, S, k⟩ => ?_) bare_call
  obtain ⟨z, h0, q⟩ := Option.bind_eq_some_iff.mp q
  obtain ⟨⟨o, y, w⟩, h1, q⟩ := Option.bind_eq_some_iff.mp q
  obtain ⟨v, hv, ty⟩ := lst_ty S h0
  refine ⟨v, hv, by rw [hK]; exact ty, use h1 S fun v1 H1 G1 g1 S1 r1 => ?_⟩
  simp only at q
  split at q
  · rename_i f xs ho
    split at q
    · rename_i hn
      cases q
      obtain ⟨l, hl, ⟨vs, e, r⟩, wr⟩ := S1.own ho
      rw [hv] at hl
      cases hl
      refine ⟨l, vs, v1, rfl, rfl, e, by rw [r.length]; exact lt_line hn, ?_⟩
      exact (k.step g1).rep (wr _ _ ⟨_, upd_same, r.app (.cons r1 .nil)⟩) .non
    · cases q
  · cases q
theorem je_ext {i : Nat} {a : IE} {x : Str} {p ap : Pos} (hK : X.K = b.cs.K) (hl : (ap.endLine == pos.line) = true) (hv : PE X (.Name x p) (tVar i)) (ha : JE X b e (sem Φ gv a)) :
    JE X b (.Call (.Attribute (.Name x p) "extend" ap) [e] [] pos) (sem Φ gv (.ext i a)) := by
  refine JE.of hK ((pe_bm PySem.F.plainAttrs_list PySem.F.slot_list_extend PySem.F.type_list_extend mt_extend hv (pa_cons ha.ev pa_nil (ha.ns _ _)) rfl (meth_few ha.ns) hl (ha.ns _ _) rfl).wk fun σ H Q ⟨env, G, own, d, env', q, S, k⟩ => ?_) bare_call
  obtain ⟨z, h0, q⟩ := Option.bind_eq_some_iff.mp q
  obtain ⟨⟨o, y, w⟩, h1, q⟩ := Option.bind_eq_some_iff.mp q
  obtain ⟨v, hv, ty⟩ := lst_ty S h0
  refine ⟨v, hv, by rw [hK]; exact ty, use h1 S fun v1 H1 G1 g1 S1 r1 => ?_⟩
  simp only at q
  split at q
  · rename_i f xs ys ho
    split at q
    · rename_i hn
      cases q
      obtain ⟨l, hl, ⟨vs, e, r⟩, wr⟩ := S1.own ho
      rw [hv] at hl
      cases hl
      cases r1 with
      | lst e2 r2 =>
        refine ⟨l, _, vs, _, rfl, rfl, e, S1.ex _ _ e2, by rw [r.length, r2.length]; exact le_line hn, ?_⟩
        exact (k.step g1).rep (wr _ _ ⟨_, upd_same, r.app r2⟩) .non
    · cases q
  · cases q
theorem je_popAt {i : Nat} {a : IE} {x : Str} {p ap : Pos} (hK : X.K = b.cs.K) (hl : (ap.endLine == pos.line) = true) (hv : PE X (.Name x p) (tVar i)) (ha : JE X b e (sem Φ gv a)) :
    JE X b (.Call (.Attribute (.Name x p) "pop" ap) [e] [] pos) (sem Φ gv (.popAt i a)) := by
  refine JE.of hK ((pe_bm PySem.F.plainAttrs_list PySem.F.slot_list_pop PySem.F.type_list_pop mt_popAt hv (pa_cons ha.ev pa_nil (ha.ns _ _)) rfl (meth_few ha.ns) hl (ha.ns _ _) rfl).wk fun σ H Q ⟨env, G, own, d, env', q, S, k⟩ => ?_) bare_call
  obtain ⟨z, h0, q⟩ := Option.bind_eq_some_iff.mp q
  obtain ⟨⟨o, y, w⟩, h1, q⟩ := Option.bind_eq_some_iff.mp q
  obtain ⟨v, hv, ty⟩ := lst_ty S h0
  refine ⟨v, hv, by rw [hK]; exact ty, use h1 S fun v1 H1 G1 g1 S1 r1 => ?_⟩
  simp only at q
  split at q
  · rename_i f xs n ho
    split at q
    · rename_i hn
      obtain ⟨x', h3, h4⟩ := Option.map_eq_some_iff.mp q
      cases h4
      obtain ⟨l, hl, ⟨vs, e, r⟩, wr⟩ := S1.own ho
      rw [hv] at hl
      cases hl
      cases r1
      obtain ⟨y', hy, ry⟩ := r.get h3
      have hlt : n.toNat < xs.length := (List.getElem?_eq_some_iff.mp h3).1
      refine ⟨l, vs, n, n.toNat, y', rfl, rfl, e, by omega, by omega, ?_, hy, ?_⟩
      · refine (ixN_seq ?_).1
        unfold ixN
        rw [r.length, if_pos (by omega), if_pos (by omega)]
      · exact (k.step g1).rep (wr _ _ ⟨_, upd_same, r.erase _⟩) ry
    · cases q
  · cases q
theorem je_pop {i : Nat} {x : Str} {p ap : Pos} (hK : X.K = b.cs.K) (hl : (ap.endLine == pos.line) = true) (hv : PE X (.Name x p) (tVar i)) :
    JE X b (.Call (.Attribute (.Name x p) "pop" ap) [] [] pos) (sem Φ gv (.pop i)) := by
  refine JE.of hK ((pe_bm0 PySem.F.plainAttrs_list PySem.F.slot_list_pop PySem.F.type_list_pop mt_pop hv rfl hl).wk fun σ H Q ⟨env, G, own, d, env', q, S, k⟩ => ?_) bare_call
  simp only [sem, Sm.of] at q
  split at q
  · rename_i f xs ho
    obtain ⟨x', h3, h4⟩ := Option.map_eq_some_iff.mp q
    cases h4
    obtain ⟨l, hl, ⟨vs, e, r⟩, wr⟩ := S.own ho
    rw [← r.length] at h3
    obtain ⟨y', hy, ry⟩ := r.get h3
    exact ⟨_, hl, .inl ⟨rfl, _, .of e⟩, l, vs, y', rfl, rfl, e, hy, k.rep (wr _ _ ⟨_, upd_same, r.dropLast⟩) ry⟩
  · cases q
theorem je_clear {i : Nat} {x : Str} {p ap : Pos} (hK : X.K = b.cs.K) (hl : (ap.endLine == pos.line) = true) (hv : PE X (.Name x p) (tVar i)) :
    JE X b (.Call (.Attribute (.Name x p) "clear" ap) [] [] pos) (sem Φ gv (.clear i)) := by
  refine JE.of hK ((pe_bm0 PySem.F.plainAttrs_list PySem.F.slot_list_clear PySem.F.type_list_clear mt_clear hv rfl hl).wk fun σ H Q ⟨env, G, own, d, env', q, S, k⟩ => ?_) bare_call
  simp only [sem, Sm.of] at q
  split at q
  · rename_i f xs ho
    cases q
    obtain ⟨l, hl, ⟨vs, e, r⟩, wr⟩ := S.own ho
    exact ⟨_, hl, .inl ⟨rfl, _, .of e⟩, l, vs, rfl, rfl, e, k.rep (wr _ _ ⟨_, upd_same, .nil⟩) .non⟩
  · cases q

/-! ### dicts -/
theorem key_inj (ok : WOk b.cs.W) {p q : DK} {k : Key} (h1 : b.cs.key p = some k) (h2 : b.cs.key q = some k) : p = q := by
  cases p with
  | i n =>
    cases h1
    cases q with
    | i m => cases h2; rfl
    | w m => obtain ⟨z, _, e⟩ := Option.map_eq_some_iff.mp h2; cases e
  | w n =>
    obtain ⟨z, hz, e⟩ := Option.map_eq_some_iff.mp h1
    subst e
    cases q with
    | i m => cases h2
    | w m =>
      obtain ⟨z', hz', e⟩ := Option.map_eq_some_iff.mp h2
      cases e
      rw [str_inj ok.nd hz hz']
theorem find_ok (ok : WOk b.cs.W) {G : Hp} {q : DK} {k : Key} (hq : b.cs.key q = some k) : ∀ {kvs : List (Key × V)} {ks : List DK} {ds : List D}, Keys b.cs kvs ks → Reps b.cs G (kvs.map (·.2)) ds →
    (∀ d, findD ks ds q = some d → ∃ v, valV kvs k = some v ∧ Rep b.cs G v d) ∧ (findD ks ds q).isSome = (valV kvs k).isSome
  | _, _, _, .nil, .nil => ⟨fun d h => (nomatch h), rfl⟩
  | _, _, _, .cons (k := k0) (v := v0) (kvs := kvs) (q := q0) h0 hr, .cons r0 rr => by
    have ih := find_ok ok hq hr rr
    by_cases e : q0 = q
    · subst e
      have ek : k0 = k := Option.some.inj (h0.symm.trans hq)
      subst ek
      rw [show findD (q0 :: _) (_ :: _) q0 = some _ from if_pos rfl, valV_pos rfl]
      exact ⟨fun d h => ⟨v0, rfl, by cases h; exact r0⟩, rfl⟩
    · have ne : ¬ k0 = k := fun ek => e (key_inj ok h0 (ek ▸ hq))
      rw [show findD (q0 :: _) (_ :: _) q = findD _ _ q from if_neg e, valV_neg (p := (k0, v0)) ne]
      exact ih
theorem key_rep {G : Hp} {v : V} {d : D} {q : DK} (h : keyD d = some q) (r : Rep b.cs G v d) : ∃ k, b.cs.key q = some k ∧ v = kV k := by
  unfold keyD at h
  split at h
  · cases h
    cases r
    exact ⟨.inl _, rfl, rfl⟩
  · cases h
    cases r with
    | w hw =>
      refine ⟨.inr _, ?_, rfl⟩
      show (b.cs.W[_]?).map Sum.inr = _
      rw [hw]
      rfl
  · cases h
theorem Seen.dic {σ : L2.St} {H G : Hp} {env : Env} {v : V} {ks : List DK} {ds : List D} (s : Seen b H G v (.dic ks ds)) (S : Sat b σ H G env) : ∃ a kvs, v = .ref a ∧ H a = some (.dK kvs) ∧ Keys b.cs kvs ks ∧ Reps b.cs G (kvs.map (·.2)) ds := by
  rcases s with ⟨a, rfl, kvs, e, k, r⟩ | r
  · exact ⟨a, kvs, rfl, e, k, r⟩
  · cases r with
    | dic e k r => exact ⟨_, _, rfl, S.ex _ _ e, k, r⟩
theorem je_dget {i : Nat} {a : IE} (hK : X.K = b.cs.K) (ok : WOk b.cs.W) (hu : X.A.units + 600 < cLine) (hv : PE X e1 (tVar i)) (ha : JE X b e2 (sem Φ gv a)) : JE X b (.Subscript e1 e2 pos) (sem Φ gv (.dget i a)) := by
  refine JE.of hK ((pe_dget (by omega) hv ha.ev ha.ix).wk fun σ H Q ⟨env, G, own, d, env', q, S, k⟩ => ?_) bare_sub
  obtain ⟨z, h0, q⟩ := Option.bind_eq_some_iff.mp q
  obtain ⟨⟨o, y, w⟩, h1, q⟩ := Option.bind_eq_some_iff.mp q
  obtain ⟨x, h2, q⟩ := Option.bind_eq_some_iff.mp q
  obtain ⟨d', h3, h4⟩ := Option.map_eq_some_iff.mp q
  cases h4
  obtain ⟨v, hv, _⟩ := S.look h0
  refine ⟨v, hv, use h1 S fun v1 H1 G1 g1 S1 r1 => ?_⟩
  obtain ⟨v', hv', rv⟩ := S1.look h2
  rw [hv] at hv'
  cases hv'
  unfold dgetD at h3
  split at h3
  · obtain ⟨kk, h5, h6⟩ := Option.bind_eq_some_iff.mp h3
    obtain ⟨p, kvs, rfl, e, hk, r⟩ := rv.dic S1
    obtain ⟨key, hq, rfl⟩ := key_rep h5 r1
    obtain ⟨u, hu, ru⟩ := (find_ok ok hq hk r).1 _ h6
    refine ⟨p, u, rfl, ?_, (k.step g1).rep S1 ru⟩
    rw [← hu]
    exact DGet.k e
  · cases h3
theorem je_din {i : Nat} {a : IE} {neg : Bool} (hK : X.K = b.cs.K) (ok : WOk b.cs.W) (hu : X.A.units + 600 < cLine) (hm : behindInMarks (if neg then .NotIn else .In) e2 = false) (ha : JE X b e1 (sem Φ gv a)) (hv : PE X e2 (tVar i)) :
    JE X b (.Compare e1 [if neg then .NotIn else .In] [e2] pos) (sem Φ gv (.din neg a i)) := by
  have core : ∀ (σ : L2.St) (H : Hp) (env : Env) (G : Hp) (r : Bool) (env' : Env) (Q : VK), (((sem Φ gv a).ev env).bind fun q => (lookV q.2.2 i).bind fun x => (dinD x q.2.1).map fun b => (if neg then !b else b, q.2.2)) = some (r, env') →
      Sat b σ H G env → (∀ H1 G1, Same G G1 → Sat b σ H1 G1 env' → Q (.bl r) H1) → (if neg then tDNotIn (tEv b (sem Φ gv a).ev) (tVar i) else tDIn (tEv b (sem Φ gv a).ev) (tVar i)) σ H Q := by
    intro σ H env G r env' Q q S k
    obtain ⟨⟨o, y, w⟩, h1, q⟩ := Option.bind_eq_some_iff.mp q
    obtain ⟨x, h2, q⟩ := Option.bind_eq_some_iff.mp q
    obtain ⟨d', h3, h4⟩ := Option.map_eq_some_iff.mp q
    cases h4
    unfold dinD at h3
    split at h3
    · rename_i ks ds
      obtain ⟨kk, h5, h6⟩ := Option.map_eq_some_iff.mp h3
      subst h6
      have fin : ∀ (v1 : V) (H1 G1 : Hp), Same G G1 → Sat b σ H1 G1 w → Rep b.cs G1 v1 y → ∃ v, σ[i]? = some (some v) ∧ ∃ p o, v = .ref p ∧ DGet H1 p v1 o ∧ o.isSome = (findD ks ds kk).isSome := by
        intro v1 H1 G1 g1 S1 r1
        obtain ⟨v', hv', rv⟩ := S1.look h2
        obtain ⟨p, kvs, rfl, e, hk, r⟩ := rv.dic S1
        obtain ⟨key, hq, rfl⟩ := key_rep h5 r1
        exact ⟨_, hv', p, _, rfl, DGet.k e, ((find_ok ok hq hk r).2).symm⟩
      cases neg with
      | true =>
        refine use h1 S fun v1 H1 G1 g1 S1 r1 => ?_
        obtain ⟨v, hv, p, o', rfl, dg, es⟩ := fin v1 H1 G1 g1 S1 r1
        refine ⟨_, hv, p, o', rfl, dg, ?_⟩
        rw [es]
        exact k H1 G1 g1 S1
      | false =>
        refine use h1 S fun v1 H1 G1 g1 S1 r1 => ?_
        obtain ⟨v, hv, p, o', rfl, dg, es⟩ := fin v1 H1 G1 g1 S1 r1
        refine ⟨_, hv, p, o', rfl, dg, ?_⟩
        rw [es]
        exact k H1 G1 g1 S1
    · cases h3
  have pc : PC X (if neg then .NotIn else .In) e1 e2 (if neg then tDNotIn (tEv b (sem Φ gv a).ev) (tVar i) else tDIn (tEv b (sem Φ gv a).ev) (tVar i)) := by
    cases neg with
    | true => exact pc_dnotin (by omega) ha.ev hv
    | false => exact pc_din (by omega) ha.ev hv
  refine JE.bool (core := fun env => ((sem Φ gv a).ev env).bind fun q => (lookV q.2.2 i).bind fun x => (dinD x q.2.1).map fun b => (if neg then !b else b, q.2.2)) (pe_cmp pc hm) (pt_cmp pc hm) (fun _ _ => rfl) (fun _ _ => rfl) (fun env => ?_) core
  cases (sem Φ gv a).ev env with
  | none => rfl
  | some q =>
    simp only [Option.bind_some]
    cases lookV q.2.2 i with
    | none => rfl
    | some x =>
      simp only [Option.bind_some, Option.map_map]
      rfl
theorem je_gget {g : Nat} {a : IE} {pa : Addr} {ks : List DK} {ds : List D} (hK : X.K = b.cs.K) (hw : X.w = b.cs.w) (hd : gv g = .dic ks ds) (hv : PE X e1 (tC (.ref pa)))
    (hf : ∀ q d, findD ks ds q = some d → ∃ z v, b.cs.key q = some (.inr z) ∧ KDct b.cs.K b.cs.w pa z v ∧ ∀ G, Rep b.cs G v d) (ha : JE X b e2 (sem Φ gv a)) : JE X b (.Subscript e1 e2 pos) (sem Φ gv (.gget g a)) := by
  refine JE.of hK ((pe_ix ix_kdict hv ha.ev ha.ix).wk fun σ H Q ⟨env, G, own, d, env', q, S, k⟩ => ?_) bare_sub
  obtain ⟨⟨o, y, w⟩, h1, q⟩ := Option.bind_eq_some_iff.mp q
  obtain ⟨d', h3, h4⟩ := Option.map_eq_some_iff.mp q
  cases h4
  refine use h1 S fun v1 H1 G1 g1 S1 r1 => ?_
  rw [hd] at h3
  obtain ⟨kk, h5, h6⟩ := Option.bind_eq_some_iff.mp h3
  obtain ⟨z, u, hz, kd, ru⟩ := hf _ _ h6
  obtain ⟨key, hq, rfl⟩ := key_rep h5 r1
  rw [hz] at hq
  cases hq
  refine ⟨pa, z, u, rfl, rfl, ?_, (k.step g1).rep S1 (ru _)⟩
  rw [hK, hw]
  exact kd
end
end PD
/-! Calls: what a def promises. -/
namespace PD
open PySem L2

/-- the arguments at the entry -/
structure ArgsOk (c : Cs) (H G : Hp) (as : List (Bool × D)) (vs : List V) : Prop where
  len : vs.length = as.length
  ex : Same G H
  fro : ∀ (i : Nat) (d : D), as[i]? = some (false, d) → ∃ v, vs[i]? = some v ∧ Rep c G v d
  lent : ∀ (i : Nat) (d : D), as[i]? = some (true, d) → ∃ a, vs[i]? = some (V.ref a) ∧ G a = none ∧ OwnAt c H G a d
  apart : ∀ (i j : Nat) (d e : D) (a : Addr), as[i]? = some (true, d) → as[j]? = some (true, e) → vs[i]? = some (V.ref a) → vs[j]? = some (V.ref a) → i = j
/-- lent at an address -/
def LentTo (as : List (Bool × D)) (vs : List V) (p : Addr) : Prop := ∃ (i : Nat) (d : D), as[i]? = some (true, d) ∧ vs[i]? = some (V.ref p)
/-- what the call leaves -/
structure PostOk (c : Cs) (H G : Hp) (as : List (Bool × D)) (vs : List V) (r : (Bool × D) × List (Bool × D)) (v : V) (H' G' : Hp) : Prop where
  ex : Same G G'
  ex' : Same G' H'
  keep : ∀ p o, H p = some o → ¬ LentTo as vs p → H' p = some o
  new : ∀ p o, G' p = some o → G p = some o ∨ H p = none ∨ LentTo as vs p
  alive : ∀ p, LentTo as vs p → ∃ o, H' p = some o
  resF : r.1.1 = false → Rep c G' v r.1.2
  resO : r.1.1 = true → ∃ a, v = .ref a ∧ G' a = none ∧ H a = none ∧ OwnAt c H' G' a r.1.2
  plen : r.2.length = as.length
  lentF : ∀ (i : Nat) (d d' : D) (a : Addr), as[i]? = some (true, d) → r.2[i]? = some (false, d') → vs[i]? = some (V.ref a) → Rep c G' (.ref a) d'
  lentO : ∀ (i : Nat) (d d' : D) (a : Addr), as[i]? = some (true, d) → r.2[i]? = some (true, d') → vs[i]? = some (V.ref a) → G' a = none ∧ OwnAt c H' G' a d'
def SpD (c : Cs) (φ : List (Bool × D) → Option ((Bool × D) × List (Bool × D))) : Sp := fun vs H Q _ =>
  ∃ G as r, φ as = some r ∧ ArgsOk c H G as vs ∧ ∀ v H' G', PostOk c H G as vs r v H' G' → Q v H'
/-- a def keeps a promise, where there is room -/
structure RunG (T : Tx) (n : Nat) (f : Addr) (fd : FuncData) (ps : List Str) (sp : Sp) : Prop where
  len : ∀ vs H Q E, sp vs H Q E → vs.length = ps.length
  run : ∀ (A : Around) (outer : List PySem.Env) (s : Shared) (H : Hp) (args : Args) (us : List Value) (vs : List V) (Q : VK) (E : XK), Room (n + 64) A → A.guards = some [] → Env0 T.P T.w T.K T.mg T.base A outer s H → BindsTo s fd args (ps.zip us) → Vals vs us → sp vs H Q E →
    codeAny (model T.P T.w) A (.call (.ref f) args) (CR CX0 outer T.P T.w H s Q E) s
structure FnG (T : Tx) (n : Nat) (x : Str) (φ : List (Bool × D) → Option ((Bool × D) × List (Bool × D))) : Prop where
  ex : ∃ f fd ps, T.mg x = some (.ref f) ∧ PySem.W.keepIn T.K (.ref f) = true ∧ Binds T.K fd ps [] ∧ RunG T n f fd ps (SpD T.cs φ)
section
variable {T : Tx} {X : Cx} {N : List Str} {sc : Scope} {n : Nat}
/-- the callee runs -/
theorem run_fnG {f : Addr} {fd : FuncData} {ps : List Str} {sp : Sp} {pins : List (Addr × Obj)} {σ : L2.St} {H : Hp} {s : Shared} {Q : VK} {us : List Value} {vs : List V} {E : XK} (g : Gx T X N sc n) (F : RunG T n f fd ps sp) (hb : Binds T.K fd ps [])
    (I : Inv X pins σ H s) (r : Vals vs us) (h : sp vs H Q E) : wpAny (model X.prog X.w) X.A (call (.ref f) us) (EP X pins σ Q) X.xe s := by
  have hl : (us ++ ([] : List Value)).length = ps.length := by
    rw [List.append_nil, ← r.length]
    exact F.len _ _ _ _ h
  have e0 := I.env0
  have kin := I.kIn
  rw [g.prog, g.wld, g.K, g.mg, g.base] at e0
  rw [g.K] at kin
  have bt := hb s us kin hl
  rw [List.append_nil] at bt
  have := F.run X.A X.stack s H ⟨us, []⟩ us vs Q E g.room g.guards e0 bt r h
  rw [← g.prog, ← g.wld] at this
  refine wpAny_call (codeAny_mono this fun res s' hq => ?_)
  cases res with
  | error e => exact False.elim hq
  | ok fl =>
    cases fl with
    | ret u => exact I.after hq
    | next => exact False.elim hq
    | brk => exact False.elim hq
    | cont => exact False.elim hq
theorem pe_callG {f : Addr} {fd : FuncData} {ps : List Str} {sp : Sp} {x : Str} {p pos : Pos} {e : Expr} {es : List Expr} {t : TA} {E : XK} (g : Gx T X N sc n) (F : RunG T n f fd ps sp) (hg : Gl X x) (hm : T.mg x = some (.ref f))
    (hk : PySem.W.keepIn T.K (.ref f) = true) (hb : Binds T.K fd ps []) (ha : PA X (e :: es) t) (hd : (x == ("__debug__" : Str)) = false) (hs : starEach (e :: es) X.env = (false, eval e X.env) :: starEach es X.env)
    (hp : (backTo pos (starEach es X.env)).any (·.1) = false) : PE X (.Call (.Name x p) (e :: es) [] pos) (fun σ H Q => t σ H fun vs H1 => sp vs H1 Q E) := by
  have hm' : X.mg x = some (.ref f) := by rw [g.mg]; exact hm
  have hk' : PySem.W.keepIn X.K (.ref f) = true := by rw [g.K]; exact hk
  refine ⟨fun pins s σ H Q I h => wpAny_Call_Name_kw (ld_glob I hg hm' ?_ hd)⟩
  refine PySem.W.callWith_K (h₀ := X.base) I.ok.mod.kin hk' (thn (ha.run pos pins s σ H _ I h) fun us s1 ⟨vs, H1, I1, r, q⟩ => ⟨I1.kIn, ?_⟩) hs hp
  exact run_fnG g F hb I1 r q
theorem pe_callG0 {f : Addr} {fd : FuncData} {ps : List Str} {sp : Sp} {x : Str} {p pos : Pos} {E : XK} (g : Gx T X N sc n) (F : RunG T n f fd ps sp) (hg : Gl X x) (hm : T.mg x = some (.ref f))
    (hk : PySem.W.keepIn T.K (.ref f) = true) (hb : Binds T.K fd ps []) (hd : (x == ("__debug__" : Str)) = false) : PE X (.Call (.Name x p) [] [] pos) (fun σ H Q => sp [] H Q E) := by
  have hm' : X.mg x = some (.ref f) := by rw [g.mg]; exact hm
  have hk' : PySem.W.keepIn X.K (.ref f) = true := by rw [g.K]; exact hk
  refine ⟨fun pins s σ H Q I h => wpAny_Call_Name_kw (ld_glob I hg hm' ?_ hd)⟩
  exact PySem.W.callWith_K0 I.kIn hk' (run_fnG (us := []) g F hb I .nil h)
end

/-! ### the caller's names behind a call -/
section
variable {b : Bs} {σ : L2.St} {env : Env} {H G : Hp}
theorem getC_iff {i : Nat} {f : Fl} {d : D} : getC env i = some (f, d) ↔ env[i]? = some (some (f, d)) := by
  refine ⟨getC_some, fun h => ?_⟩
  unfold getC
  rw [h]
/-- what an argument is -/
def argV (env : Env) : Arg → Option (Bool × D)
  | .v d => some (false, d)
  | .s i => (getC env i).map fun c => (isOwn c.1, c.2)
theorem argsOf_eq : ∀ {args : List Arg} {as : List (Bool × D)}, argsOf env args = some as → args.length = as.length ∧ ∀ (i : Nat) (a : Arg), args[i]? = some a → argV env a = as[i]?
  | [], as, h => by
    cases h
    exact ⟨rfl, fun i a e => by simp at e⟩
  | .v d :: r, as, h => by
    obtain ⟨as', h1, h2⟩ := Option.map_eq_some_iff.mp h
    subst h2
    obtain ⟨l, k⟩ := argsOf_eq h1
    refine ⟨by rw [List.length_cons, List.length_cons, l], fun i a e => ?_⟩
    cases i with
    | zero => cases e; rfl
    | succ i => exact k i a (by simpa using e)
  | .s j :: r, as, h => by
    unfold argsOf at h
    split at h
    · rename_i d hc
      obtain ⟨as', h1, h2⟩ := Option.map_eq_some_iff.mp h
      subst h2
      obtain ⟨l, k⟩ := argsOf_eq h1
      refine ⟨by rw [List.length_cons, List.length_cons, l], fun i a e => ?_⟩
      cases i with
      | zero =>
        cases e
        show (getC env j).map _ = _
        rw [hc]
        rfl
      | succ i => exact k i a (by simpa using e)
    · rename_i d hc
      obtain ⟨as', h1, h2⟩ := Option.map_eq_some_iff.mp h
      subst h2
      obtain ⟨l, k⟩ := argsOf_eq h1
      refine ⟨by rw [List.length_cons, List.length_cons, l], fun i a e => ?_⟩
      cases i with
      | zero =>
        cases e
        show (getC env j).map _ = _
        rw [hc]
        rfl
      | succ i => exact k i a (by simpa using e)
    · rename_i f d h3 h4 hc
      obtain ⟨as', h1, h2⟩ := Option.map_eq_some_iff.mp h
      subst h2
      obtain ⟨l, k⟩ := argsOf_eq h1
      refine ⟨by rw [List.length_cons, List.length_cons, l], fun i a e => ?_⟩
      cases i with
      | zero =>
        cases e
        show (getC env j).map _ = _
        rw [hc]
        cases f with
        | own => exact (h3 rfl).elim
        | lent => exact (h4 rfl).elim
        | fro => rfl
        | lfro => rfl
      | succ i => exact k i a (by simpa using e)
    · cases h
theorem lentAt_s {i : Nat} {r : List Arg} : lentAt env (.s i :: r) = (match getC env i with
  | some (.own, _) => i :: lentAt env r
  | some (.lent, _) => i :: lentAt env r
  | _ => lentAt env r) := rfl
theorem mem_lentAt : ∀ {args : List Arg} {j : Nat}, j ∈ lentAt env args ↔ .s j ∈ args ∧ ∃ f d, env[j]? = some (some (f, d)) ∧ isOwn f = true
  | [], j => by
    unfold lentAt
    simp
  | .v d :: r, j => by
    unfold lentAt
    rw [mem_lentAt]
    simp
  | .s i :: r, j => by
    unfold lentAt
    split
    · rename_i d hc
      rw [List.mem_cons, mem_lentAt]
      constructor
      · rintro (e | ⟨h1, h2⟩)
        · subst e
          exact ⟨List.mem_cons_self, _, _, getC_some hc, rfl⟩
        · exact ⟨List.mem_cons_of_mem _ h1, h2⟩
      · rintro ⟨h1, h2⟩
        rcases List.mem_cons.mp h1 with e | h1
        · cases e; exact .inl rfl
        · exact .inr ⟨h1, h2⟩
    · rename_i d hc
      rw [List.mem_cons, mem_lentAt]
      constructor
      · rintro (e | ⟨h1, h2⟩)
        · subst e
          exact ⟨List.mem_cons_self, _, _, getC_some hc, rfl⟩
        · exact ⟨List.mem_cons_of_mem _ h1, h2⟩
      · rintro ⟨h1, h2⟩
        rcases List.mem_cons.mp h1 with e | h1
        · cases e; exact .inl rfl
        · exact .inr ⟨h1, h2⟩
    · rename_i h3 h4
      rw [mem_lentAt]
      constructor
      · rintro ⟨h1, h2⟩
        exact ⟨List.mem_cons_of_mem _ h1, h2⟩
      · rintro ⟨h1, f, d, h2, hf⟩
        rcases List.mem_cons.mp h1 with e | h1
        · cases e
          cases f with
          | own => exact absurd (getC_iff.mpr h2) (h3 _)
          | lent => exact absurd (getC_iff.mpr h2) (h4 _)
          | fro => cases hf
          | lfro => cases hf
        · exact ⟨h1, f, d, h2, hf⟩
theorem lentAt_congr {env1 : Env} : ∀ {args : List Arg}, (∀ j, .s j ∈ args → env1[j]? = env[j]?) → lentAt env1 args = lentAt env args
  | [], _ => rfl
  | .v d :: r, h => by
    unfold lentAt
    exact lentAt_congr fun j hj => h j (List.mem_cons_of_mem _ hj)
  | .s i :: r, h => by
    have e : getC env1 i = getC env i := by
      unfold getC
      rw [h i List.mem_cons_self]
    unfold lentAt
    rw [e, lentAt_congr fun j hj => h j (List.mem_cons_of_mem _ hj)]
/-- a cell behind the call -/
def newCell (f : Fl) (p : Bool × D) : Fl × D := match f with
  | .own => (if p.1 then .own else .fro, p.2)
  | .lent => (if p.1 then .lent else .lfro, p.2)
  | f => (f, p.2)
theorem posts_at : ∀ {args : List Arg} {ps : List (Bool × D)} {env : Env}, args.length = ps.length → nodupN (lentAt env args) = true → ∀ j : Nat,
    ((∀ f d, env[j]? = some (some (f, d)) → isOwn f = true → Arg.s j ∉ args) → (posts args ps env)[j]? = env[j]?) ∧
    (∀ f d, env[j]? = some (some (f, d)) → isOwn f = true → Arg.s j ∈ args → ∃ (k : Nat) (p : Bool × D), args[k]? = some (Arg.s j) ∧ ps[k]? = some p ∧ (posts args ps env)[j]? = some (some (newCell f p)))
  | [], ps, env, hl, hn, j => by
    have e : posts [] ps env = env := by cases ps <;> rfl
    rw [e]
    exact ⟨fun _ => rfl, fun f d h hf hm => by simp at hm⟩
  | .v d0 :: r, [], env, hl, _, _ => by simp at hl
  | .s i :: r, [], env, hl, _, _ => by simp at hl
  | .v d0 :: r, p :: ps, env, hl, hn, j => by
    have ih := posts_at (args := r) (ps := ps) (env := env) (by simpa using hl) hn j
    have e : posts (.v d0 :: r) (p :: ps) env = posts r ps env := rfl
    rw [e]
    refine ⟨fun h => ih.1 fun f d he hf hm => h f d he hf (List.mem_cons_of_mem _ hm), fun f d he hf hm => ?_⟩
    have hm' : Arg.s j ∈ r := by
      rcases List.mem_cons.mp hm with q | q
      · cases q
      · exact q
    obtain ⟨k, q, h1, h2, h3⟩ := ih.2 f d he hf hm'
    exact ⟨k + 1, q, by simpa using h1, by simpa using h2, h3⟩
  | .s i :: r, p :: ps, env, hl, hn, j => by
    have e : posts (.s i :: r) (p :: ps) env = posts r ps (postArg env i p) := rfl
    rw [e]
    have hl' : r.length = ps.length := by simpa using hl
    by_cases ho : ∃ f d, env[i]? = some (some (f, d)) ∧ isOwn f = true
    · obtain ⟨f0, d0, he0, hf0⟩ := ho
      have hi : i < env.length := (List.getElem?_eq_some_iff.mp he0).1
      have lt : lentAt env (.s i :: r) = i :: lentAt env r := by
        rw [lentAt_s, getC_iff.mpr he0]
        cases f0 <;> first | rfl | cases hf0
      rw [lt] at hn
      unfold nodupN at hn
      rw [Bool.and_eq_true] at hn
      have nm : i ∉ lentAt env r := by
        have := hn.1
        simpa using this
      have nr : Arg.s i ∉ r := fun hm => nm (mem_lentAt.mpr ⟨hm, f0, d0, he0, hf0⟩)
      have pe : postArg env i p = env.set i (some (newCell f0 p)) := by
        unfold postArg
        rw [getC_iff.mpr he0]
        cases f0 <;> first | rfl | cases hf0
      rw [pe]
      have same : ∀ m, m ≠ i → (env.set i (some (newCell f0 p)))[m]? = env[m]? := fun m hm => List.getElem?_set_ne (Ne.symm hm)
      have hn' : nodupN (lentAt (env.set i (some (newCell f0 p))) r) = true := by
        rw [lentAt_congr (env := env) fun m hm => same m fun q => nr (q ▸ hm)]
        exact hn.2
      have ih := posts_at (args := r) (ps := ps) (env := env.set i (some (newCell f0 p))) hl' hn' j
      by_cases hj : j = i
      · subst hj
        have st := ih.1 fun f d he hf hm => nr hm
        refine ⟨fun h => absurd List.mem_cons_self (h f0 d0 he0 hf0), fun f d he hf hm => ⟨0, p, rfl, rfl, ?_⟩⟩
        rw [he0] at he
        cases he
        rw [st, List.getElem?_set_self hi]
      · rw [same j hj] at ih
        refine ⟨fun h => ih.1 fun f d he hf hm => h f d he hf (List.mem_cons_of_mem _ hm), fun f d he hf hm => ?_⟩
        have hm' : Arg.s j ∈ r := by
          rcases List.mem_cons.mp hm with q | q
          · cases q; exact absurd rfl hj
          · exact q
        obtain ⟨k, q, h1, h2, h3⟩ := ih.2 f d he hf hm'
        exact ⟨k + 1, q, by simpa using h1, by simpa using h2, h3⟩
    · have lt : lentAt env (.s i :: r) = lentAt env r := by
        rw [lentAt_s]
        split
        · rename_i d hc
          exact absurd ⟨_, _, getC_some hc, rfl⟩ ho
        · rename_i d hc
          exact absurd ⟨_, _, getC_some hc, rfl⟩ ho
        · rfl
      have pe : postArg env i p = env := by
        unfold postArg
        split
        · rename_i d hc
          exact absurd ⟨_, _, getC_some hc, rfl⟩ ho
        · rename_i d hc
          exact absurd ⟨_, _, getC_some hc, rfl⟩ ho
        · rfl
      rw [lt] at hn
      rw [pe]
      have ih := posts_at (args := r) (ps := ps) (env := env) hl' hn j
      refine ⟨fun h => ih.1 fun f d he hf hm => h f d he hf (List.mem_cons_of_mem _ hm), fun f d he hf hm => ?_⟩
      have hm' : Arg.s j ∈ r := by
        rcases List.mem_cons.mp hm with q | q
        · cases q; exact absurd ⟨f, d, he, hf⟩ ho
        · exact q
      obtain ⟨k, q, h1, h2, h3⟩ := ih.2 f d he hf hm'
      exact ⟨k + 1, q, by simpa using h1, by simpa using h2, h3⟩
theorem posts_len : ∀ {args : List Arg} {ps : List (Bool × D)} {env : Env}, (posts args ps env).length = env.length
  | [], ps, env => by cases ps <;> rfl
  | .v d :: r, [], env => rfl
  | .s i :: r, [], env => rfl
  | .v d :: r, p :: ps, env => posts_len (args := r) (ps := ps) (env := env)
  | .s i :: r, p :: ps, env => by
    have e : posts (.s i :: r) (p :: ps) env = posts r ps (postArg env i p) := rfl
    rw [e, posts_len]
    unfold postArg
    split <;> first | rfl | rw [List.length_set]
end
end PD
namespace PD
open PySem L2
section
variable {b : Bs} {σ : L2.St} {env : Env} {H G : Hp}
theorem ArgsAt.length : ∀ {vs : List V} {args : List Arg}, ArgsAt b σ G vs args → vs.length = args.length
  | _, _, .nil => rfl
  | _, _, .cons _ r => congrArg (· + 1) (ArgsAt.length r)
theorem ArgsAt.get : ∀ {vs : List V} {args : List Arg} {i : Nat} {a : Arg}, ArgsAt b σ G vs args → args[i]? = some a → ∃ v, vs[i]? = some v ∧ ArgAt b σ G v a
  | _, _, _, _, .nil, h => by simp at h
  | _, _, 0, _, .cons h _, e => by
    simp at e
    subst e
    exact ⟨_, rfl, h⟩
  | _, _, i + 1, _, .cons _ r, e => by
    obtain ⟨v, h1, h2⟩ := ArgsAt.get (i := i) r (by simpa using e)
    exact ⟨v, by simpa using h1, h2⟩
theorem nodup_ix : ∀ {l : List Nat}, nodupN l = true → l.Nodup
  | [], _ => List.nodup_nil
  | x :: r, h => by
    unfold nodupN at h
    rw [Bool.and_eq_true] at h
    refine List.nodup_cons.mpr ⟨?_, nodup_ix h.2⟩
    have := h.1
    simpa using this
/-- the same name is lent once -/
theorem lent_once : ∀ {args : List Arg} {i j k : Nat}, (lentAt env args).Nodup → args[i]? = some (Arg.s k) → args[j]? = some (Arg.s k) → (∃ f d, env[k]? = some (some (f, d)) ∧ isOwn f = true) → i = j
  | [], i, j, k, _, h, _, _ => by simp at h
  | a :: r, 0, 0, k, _, _, _, _ => rfl
  | a :: r, i + 1, j + 1, k, hn, h1, h2, ho => by
    have hn' : (lentAt env r).Nodup := by
      cases a with
      | v d => exact hn
      | s m =>
        rw [lentAt_s] at hn
        split at hn
        · exact (List.nodup_cons.mp hn).2
        · exact (List.nodup_cons.mp hn).2
        · exact hn
    have := lent_once (i := i) (j := j) hn' (by simpa using h1) (by simpa using h2) ho
    rw [this]
  | a :: r, 0, j + 1, k, hn, h1, h2, ho => by
    obtain ⟨f, d, he, hf⟩ := ho
    have e : a = Arg.s k := by simpa using h1
    subst e
    have hm : Arg.s k ∈ r := List.mem_of_getElem? (by simpa using h2)
    have : lentAt env (Arg.s k :: r) = k :: lentAt env r := by
      rw [lentAt_s, getC_iff.mpr he]
      cases f <;> first | rfl | cases hf
    rw [this] at hn
    exact absurd (mem_lentAt.mpr ⟨hm, f, d, he, hf⟩) (List.nodup_cons.mp hn).1
  | a :: r, i + 1, 0, k, hn, h1, h2, ho => by
    obtain ⟨f, d, he, hf⟩ := ho
    have e : a = Arg.s k := by simpa using h2
    subst e
    have hm : Arg.s k ∈ r := List.mem_of_getElem? (by simpa using h1)
    have : lentAt env (Arg.s k :: r) = k :: lentAt env r := by
      rw [lentAt_s, getC_iff.mpr he]
      cases f <;> first | rfl | cases hf
    rw [this] at hn
    exact absurd (mem_lentAt.mpr ⟨hm, f, d, he, hf⟩) (List.nodup_cons.mp hn).1
/-- an argument that is lent stands in a name -/
theorem lent_name {args : List Arg} {as : List (Bool × D)} {i : Nat} {d : D} (ha : argsOf env args = some as) (h : as[i]? = some (true, d)) : ∃ k f, args[i]? = some (Arg.s k) ∧ env[k]? = some (some (f, d)) ∧ isOwn f = true := by
  obtain ⟨hl, hk⟩ := argsOf_eq ha
  have hi : i < args.length := by
    rw [hl]
    exact (List.getElem?_eq_some_iff.mp h).1
  have e := hk i _ (List.getElem?_eq_getElem hi)
  rw [h] at e
  cases q : args[i] with
  | v d' =>
    rw [q] at e
    cases e
  | s k =>
    rw [q] at e
    obtain ⟨⟨f, d'⟩, h1, h2⟩ := Option.map_eq_some_iff.mp e
    simp only [Prod.mk.injEq] at h2
    obtain ⟨h2, h3⟩ := h2
    subst h3
    exact ⟨k, f, by rw [List.getElem?_eq_getElem hi, q], getC_some h1, h2⟩
theorem args_ok (S : Sat b σ H G env) {args : List Arg} {as : List (Bool × D)} {vs : List V} (ra : ArgsAt b σ G vs args) (ha : argsOf env args = some as) (hn : nodupN (lentAt env args) = true) : ArgsOk b.cs H G as vs := by
  obtain ⟨hl, hk⟩ := argsOf_eq ha
  have at1 : ∀ {i : Nat} {d : D}, as[i]? = some (true, d) → ∃ k f a, args[i]? = some (Arg.s k) ∧ env[k]? = some (some (f, d)) ∧ isOwn f = true ∧ σ[k]? = some (some (V.ref a)) ∧ vs[i]? = some (V.ref a) ∧ G a = none ∧ OwnAt b.cs H G a d := by
    intro i d h
    obtain ⟨k, f, h1, h2, h3⟩ := lent_name ha h
    obtain ⟨v, hv, c⟩ := S.slot k f d h2
    obtain ⟨a, rfl, ga, ow, _⟩ := c.isRef h3
    obtain ⟨u, hu, q⟩ := ra.get h1
    have q : σ[k]? = some (some u) := q
    rw [hv] at q
    cases q
    exact ⟨k, f, a, h1, h2, h3, hv, hu, ga, ow⟩
  refine ⟨by rw [ra.length, hl], S.ex, fun i d h => ?_, fun i d h => ?_, fun i j d e a h1 h2 v1 v2 => ?_⟩
  · have hi : i < args.length := by
      rw [hl]
      exact (List.getElem?_eq_some_iff.mp h).1
    have e := hk i _ (List.getElem?_eq_getElem hi)
    obtain ⟨u, hu, q⟩ := ra.get (List.getElem?_eq_getElem hi)
    rw [h] at e
    refine ⟨u, hu, ?_⟩
    cases w : args[i] with
    | v d' =>
      rw [w] at e q
      cases e
      exact q
    | s k =>
      rw [w] at e q
      obtain ⟨⟨f, d'⟩, h1, h2⟩ := Option.map_eq_some_iff.mp e
      simp only [Prod.mk.injEq] at h2
      obtain ⟨h2, h3⟩ := h2
      subst h3
      obtain ⟨v, hv, c⟩ := S.slot k f d' (getC_some h1)
      have q : σ[k]? = some (some u) := q
      rw [hv] at q
      cases q
      cases f with
      | fro => exact c
      | lfro => exact c.1
      | own => cases h2
      | lent => cases h2
  · obtain ⟨k, f, a, _, _, _, _, h4, h5, h6⟩ := at1 h
    exact ⟨a, h4, h5, h6⟩
  · obtain ⟨k1, f1, a1, p1, p2, p3, p4, p5, _, _⟩ := at1 h1
    obtain ⟨k2, f2, a2, r1, r2, r3, r4, r5, _, _⟩ := at1 h2
    rw [v1] at p5
    rw [v2] at r5
    cases p5
    cases r5
    have ek : k1 = k2 := S.apart k1 k2 f1 f2 d e a p2 r2 p3 r3 p4 r4
    subst ek
    exact lent_once (nodup_ix hn) p1 r1 ⟨f1, d, p2, p3⟩
theorem newCell_own {f : Fl} {p : Bool × D} (h : isOwn (newCell f p).1 = true) : isOwn f = true := by
  cases f <;> first | rfl | (obtain ⟨l, d⟩ := p; exact h)
/-- THE CALLER behind the call -/
theorem Sat.after (S : Sat b σ H G env) {args : List Arg} {as : List (Bool × D)} {vs : List V} {r : (Bool × D) × List (Bool × D)} {v : V} {H' G' : Hp} (ra : ArgsAt b σ G vs args) (ha : argsOf env args = some as) (hn : nodupN (lentAt env args) = true)
    (P : PostOk b.cs H G as vs r v H' G') : Sat b σ H' G' (posts args r.2 env) ∧ ResAt b σ H' G' (posts args r.2 env) v r.1.2 r.1.1 := by
  obtain ⟨hl, hk⟩ := argsOf_eq ha
  have hlp : args.length = r.2.length := by rw [hl, P.plen]
  -- who is lent
  have lentI : ∀ p, LentTo as vs p → ∃ k f d, Arg.s k ∈ args ∧ env[k]? = some (some (f, d)) ∧ isOwn f = true ∧ σ[k]? = some (some (V.ref p)) := by
    rintro p ⟨i, d, h1, h2⟩
    obtain ⟨k, f, h3, h4, h5⟩ := lent_name ha h1
    obtain ⟨u, hu, q⟩ := ra.get h3
    have q : σ[k]? = some (some u) := q
    rw [h2] at hu
    cases hu
    exact ⟨k, f, d, List.mem_of_getElem? h3, h4, h5, q⟩
  have lentO : ∀ {k : Nat} {f : Fl} {d : D} {p : Addr}, Arg.s k ∈ args → env[k]? = some (some (f, d)) → isOwn f = true → σ[k]? = some (some (V.ref p)) → LentTo as vs p := by
    intro k f d p hm he hf hs
    obtain ⟨i, hi⟩ := List.mem_iff_getElem?.mp hm
    have e := hk i _ hi
    rw [show argV env (Arg.s k) = some (isOwn f, d) by show (getC env k).map _ = _; rw [getC_iff.mpr he]; rfl, hf] at e
    obtain ⟨u, hu, q⟩ := ra.get hi
    have q : σ[k]? = some (some u) := q
    rw [hs] at q
    cases q
    exact ⟨i, d, e.symm, hu⟩
  have lentB : ∀ p, LentTo as vs p → G p = none ∧ (b.H0 p = none ∨ ∃ q ∈ b.L, q.2 = p) := by
    intro p hp
    obtain ⟨k, f, d, _, he, hf, hs⟩ := lentI p hp
    obtain ⟨u, hu, c⟩ := S.slot k f d he
    obtain ⟨a, rfl, ga, _, hh⟩ := c.isRef hf
    rw [hs] at hu
    cases hu
    refine ⟨ga, ?_⟩
    rcases hh with q | q
    · exact .inl q
    · exact .inr ⟨_, q, rfl⟩
  have back : ∀ {k : Nat} {g : Fl} {e : D}, (posts args r.2 env)[k]? = some (some (g, e)) →
      (env[k]? = some (some (g, e)) ∧ (isOwn g = true → Arg.s k ∉ args)) ∨
      (∃ (f : Fl) (d : D) (i : Nat) (p : Bool × D), env[k]? = some (some (f, d)) ∧ isOwn f = true ∧ args[i]? = some (Arg.s k) ∧ r.2[i]? = some p ∧ (g, e) = newCell f p) := by
    intro k g e h
    obtain ⟨q1, q2⟩ := posts_at (args := args) (ps := r.2) (env := env) hlp hn k
    by_cases ho : ∃ f d, env[k]? = some (some (f, d)) ∧ isOwn f = true ∧ Arg.s k ∈ args
    · obtain ⟨f, d, h1, h2, h3⟩ := ho
      obtain ⟨i, p, h4, h5, h6⟩ := q2 f d h1 h2 h3
      rw [h6] at h
      exact .inr ⟨f, d, i, p, h1, h2, h4, h5, (Option.some.inj (Option.some.inj h)).symm⟩
    · have := q1 fun f d h1 h2 h3 => ho ⟨f, d, h1, h2, h3⟩
      rw [this] at h
      exact .inl ⟨h, fun hg hm => ho ⟨g, e, h, hg, hm⟩⟩
  have sat : Sat b σ H' G' (posts args r.2 env) := by
    refine ⟨by rw [posts_len]; exact S.len, P.ex', S.ex0.trans P.ex, fun p o e k => ?_, fun p o e => ?_, fun q hq => ?_, fun k g e h => ?_, fun i j f g d e a h1 h2 o1 o2 s1 s2 => ?_⟩
    · refine P.keep p o (S.keep p o e k) fun hp => ?_
      rcases (lentB p hp).2 with q | ⟨q, hq, eq⟩
      · rw [e] at q; cases q
      · exact k q hq eq
    · rcases P.new p o e with q | q | q
      · exact S.new p o q
      · cases w : b.H0 p with
        | none => exact .inr (.inl rfl)
        | some z =>
          by_cases hx : ∃ q ∈ b.L, q.2 = p
          · exact .inr (.inr hx)
          · have := S.keep p z w fun y hy ey => hx ⟨y, hy, ey⟩
            rw [q] at this; cases this
      · exact .inr (lentB p q).2
    · by_cases hp : LentTo as vs q.2
      · exact P.alive _ hp
      · obtain ⟨o, ho⟩ := S.lents q hq
        exact ⟨o, P.keep _ _ ho hp⟩
    · rcases back h with ⟨h1, h2⟩ | ⟨f, d, i, p, h1, h2, h3, h4, h5⟩
      · obtain ⟨v, hv, c⟩ := S.slot k g e h1
        refine ⟨v, hv, c.mono P.ex fun a ea ga ⟨z, hz⟩ og => ?_⟩
        subst ea
        have nl : ¬ LentTo as vs a := by
          rintro hp
          obtain ⟨k', f', d', hm', he', hf', hs'⟩ := lentI a hp
          have ek := S.apart k k' g f' e d' a h1 he' og hf' hv hs'
          subst ek
          exact h2 og hm'
        have hk' := P.keep a z hz nl
        refine ⟨?_, by rw [hk', hz]⟩
        cases w : G' a with
        | none => rfl
        | some y =>
          rcases P.new a y w with q | q | q
          · rw [ga] at q; cases q
          · rw [hz] at q; cases q
          · exact absurd q nl
      · obtain ⟨v, hv, c⟩ := S.slot k f d h1
        obtain ⟨a, rfl, ga, ow, hh⟩ := c.isRef h2
        refine ⟨_, hv, ?_⟩
        have e1 := hk i _ h3
        rw [show argV env (Arg.s k) = some (isOwn f, d) by show (getC env k).map _ = _; rw [getC_iff.mpr h1]; rfl, h2] at e1
        obtain ⟨u, hu, q⟩ := ra.get h3
        have q : σ[k]? = some (some u) := q
        rw [hv] at q
        cases q
        obtain ⟨l, d'⟩ := p
        cases l with
        | true =>
          obtain ⟨g1, o1⟩ := P.lentO i d d' a e1.symm h4 hu
          cases f with
          | fro => cases h2
          | lfro => cases h2
          | own =>
            cases h5
            obtain ⟨a', ea, n, m, _⟩ := c
            cases ea
            exact ⟨a, rfl, g1, m, o1⟩
          | lent =>
            cases h5
            obtain ⟨a', ea, n, m, _⟩ := c
            cases ea
            exact ⟨a, rfl, g1, m, o1⟩
        | false =>
          have r1 := P.lentF i d d' a e1.symm h4 hu
          cases f with
          | fro => cases h2
          | lfro => cases h2
          | own =>
            cases h5
            exact r1
          | lent =>
            cases h5
            obtain ⟨a', ea, n, m, _⟩ := c
            cases ea
            exact ⟨r1, a, rfl, m⟩
    · have old : ∀ {k : Nat} {g : Fl} {e : D}, (posts args r.2 env)[k]? = some (some (g, e)) → isOwn g = true → ∃ f d, env[k]? = some (some (f, d)) ∧ isOwn f = true := by
        intro k g e h hg
        rcases back h with ⟨h1, _⟩ | ⟨f, d, i, p, h1, h2, _, _, h5⟩
        · exact ⟨g, e, h1, hg⟩
        · exact ⟨f, d, h1, h2⟩
      obtain ⟨f1, d1, x1, y1⟩ := old h1 o1
      obtain ⟨f2, d2, x2, y2⟩ := old h2 o2
      exact S.apart i j f1 f2 d1 d2 a x1 x2 y1 y2 s1 s2
  refine ⟨sat, ?_⟩
  obtain ⟨⟨o, d⟩, ps⟩ := r
  cases o with
  | false => exact P.resF rfl
  | true =>
    obtain ⟨a, ea, ga, ha0, ow⟩ := P.resO rfl
    refine ⟨a, ea, ga, ?_, ow, fun i f e h hf hs => ?_⟩
    · cases w : b.H0 a with
      | none => rfl
      | some z =>
        by_cases hx : ∃ q ∈ b.L, q.2 = a
        · obtain ⟨q, hq, eq⟩ := hx
          obtain ⟨o, ho⟩ := S.lents q hq
          rw [eq, ha0] at ho; cases ho
        · have := S.keep a z w fun y hy ey => hx ⟨y, hy, ey⟩
          rw [ha0] at this; cases this
    · rcases back h with ⟨h1, _⟩ | ⟨f', d', i', p', h1, h2, _, _, _⟩
      · obtain ⟨v', hv, c⟩ := S.slot i f e h1
        obtain ⟨a', rfl, _, ow', _⟩ := c.isRef hf
        rw [hs] at hv; cases hv
        obtain ⟨z, hz⟩ := ow'.some
        rw [ha0] at hz; cases hz
      · obtain ⟨v', hv, c⟩ := S.slot i f' d' h1
        obtain ⟨a', rfl, _, ow', _⟩ := c.isRef h2
        rw [hs] at hv; cases hv
        obtain ⟨z, hz⟩ := ow'.some
        rw [ha0] at hz; cases hz
end
section
variable {T : Tx} {X : Cx} {N : List Str} {sc : Scope} {n : Nat} {b : Bs} {Φ : Phi} {gv : Nat → D} {pos p : Pos} {x : Str} {f : Nat} {e : Expr} {es : List Expr} {c : IEs}
theorem call_read {σ : L2.St} {H1 G G1 : Hp} {Q : VK} {env' : Env} {own : Bool} {d : D} {args : List Arg} {env1 : Env} {vs : List V} (hb : b.cs = T.cs) (S1 : Sat b σ H1 G1 env1) (g1 : Same G G1) (ra : ArgsAt b σ G1 vs args)
    (q : ((argsOf env1 args).bind fun as => if nodupN (lentAt env1 args) then (Φ f as).map fun r => (r.1.1, r.1.2, posts args r.2 env1) else none) = some (own, d, env')) (k : Kon b σ env' G own d Q) (E : XK) : SpD T.cs (Φ f) vs H1 Q E := by
  obtain ⟨as, h2, q⟩ := Option.bind_eq_some_iff.mp q
  split at q
  · rename_i hn
    obtain ⟨r, h3, h4⟩ := Option.map_eq_some_iff.mp q
    cases h4
    refine ⟨G1, as, r, h3, ?_, fun v H' G' P => ?_⟩
    · rw [← hb]
      exact args_ok S1 ra h2 hn
    · rw [← hb] at P
      obtain ⟨S2, r2⟩ := S1.after ra h2 hn P
      exact k v H' G' (g1.trans P.ex) S2 r2
  · cases q
theorem je_call (g : Gx T X N sc n) (hb : b.cs = T.cs) (F : FnG T n x (Φ f)) (hg : Gl X x) (hd : (x == ("__debug__" : Str)) = false) (hs : starEach (e :: es) X.env = (false, eval e X.env) :: starEach es X.env)
    (ha : JEs X b (e :: es) (sems Φ gv c)) : JE X b (.Call (.Name x p) (e :: es) [] pos) (sem Φ gv (.call f c)) := by
  have hK : X.K = b.cs.K := by rw [g.K, hb]
  obtain ⟨fa, fd, ps, hm, hk, hbd, R⟩ := F.ex
  have hp : (backTo pos (starEach es X.env)).any (·.1) = false := by
    have := (ha.pl X.env pos).1
    rw [hs] at this
    exact this
  refine JE.of hK ((pe_callG (E := E0) g R hg hm hk hbd ha.ar hd hs hp).wk fun σ H Q ⟨env, G, own, d, env', q, S, k⟩ => ?_) bare_call
  obtain ⟨⟨args, env1⟩, h1, q⟩ := Option.bind_eq_some_iff.mp q
  exact ⟨env, G, args, env1, h1, S, fun vs H1 G1 g1 S1 ra => call_read hb S1 g1 ra q k _⟩
theorem je_call0 (g : Gx T X N sc n) (hb : b.cs = T.cs) (F : FnG T n x (Φ f)) (hg : Gl X x) (hd : (x == ("__debug__" : Str)) = false) : JE X b (.Call (.Name x p) [] [] pos) (sem Φ gv (.call f .nil)) := by
  have hK : X.K = b.cs.K := by rw [g.K, hb]
  obtain ⟨fa, fd, ps, hm, hk, hbd, R⟩ := F.ex
  refine JE.of hK ((pe_callG0 (E := E0) g R hg hm hk hbd hd).wk fun σ H Q ⟨env, G, own, d, env', q, S, k⟩ => ?_) bare_call
  exact call_read hb S (Same.refl G) .nil q k _
end
end PD
/-! Targets, walks, comprehensions. -/
namespace PD
open PySem L2
section
variable {b : Bs} {σ : L2.St} {env env' : Env} {H G : Hp}
theorem free_lt {i : Nat} (h : freeC env i = true) : i < env.length ∧ ∀ f d, env[i]? = some (some (f, d)) → f = .fro ∨ f = .own := by
  unfold freeC at h
  split at h
  · rename_i e
    exact ⟨(List.getElem?_eq_some_iff.mp e).1, fun f d q => by rw [e] at q; cases q⟩
  · rename_i e
    exact ⟨(List.getElem?_eq_some_iff.mp e).1, fun f d q => by rw [e] at q; cases q; exact .inl rfl⟩
  · rename_i e
    exact ⟨(List.getElem?_eq_some_iff.mp e).1, fun f d q => by rw [e] at q; cases q; exact .inr rfl⟩
  · cases h
/-- a name is given a value -/
theorem Sat.put (S : Sat b σ H G env) {i : Nat} {own : Bool} {d : D} {v : V} (h : putC env i own d = some env') (r : ResAt b σ H G env v d own) : Sat b (σ.set i (some v)) H G env' := by
  unfold putC at h
  split at h
  · rename_i hf
    cases h
    obtain ⟨hi, _⟩ := free_lt hf
    have his : i < σ.length := by rw [← S.len]; exact hi
    refine ⟨by rw [List.length_set, List.length_set]; exact S.len, S.ex, S.ex0, S.keep, S.new, S.lents, fun j f e hj => ?_, fun j l f g d1 e1 a hj hl o1 o2 s1 s2 => ?_⟩
    · by_cases hij : j = i
      · subst hij
        rw [List.getElem?_set_self hi] at hj
        refine ⟨v, List.getElem?_set_self his, ?_⟩
        cases own with
        | false =>
          cases hj
          exact r
        | true =>
          cases hj
          obtain ⟨a, ea, ga, ha, ow, _⟩ := r
          exact ⟨a, ea, ga, ha, ow⟩
      · rw [List.getElem?_set_ne (Ne.symm hij)] at hj ⊢
        exact S.slot j f e hj
    · by_cases hij : j = i
      · by_cases hil : l = i
        · rw [hij, hil]
        · subst hij
          rw [List.getElem?_set_ne (Ne.symm hil)] at hl s2
          rw [List.getElem?_set_self hi] at hj
          rw [List.getElem?_set_self his] at s1
          cases own with
          | false => cases hj; cases o1
          | true =>
            obtain ⟨a', ea, _, _, _, hn⟩ := r
            cases s1
            cases ea
            exact absurd s2 (hn l g e1 hl o2)
      · rw [List.getElem?_set_ne (Ne.symm hij)] at hj s1
        by_cases hil : l = i
        · subst hil
          rw [List.getElem?_set_self hi] at hl
          rw [List.getElem?_set_self his] at s2
          cases own with
          | false => cases hl; cases o2
          | true =>
            obtain ⟨a', ea, _, _, _, hn⟩ := r
            cases s2
            cases ea
            exact absurd s1 (hn j f d1 hj o1)
        · rw [List.getElem?_set_ne (Ne.symm hil)] at hl s2
          exact S.apart j l f g d1 e1 a hj hl o1 o2 s1 s2
  · cases h
theorem wipe_ne : ∀ {is : List Nat} {j : Nat}, j ∉ is → (wipe σ is)[j]? = σ[j]?
  | [], j, _ => rfl
  | v :: vs, j, h => by
    unfold wipe
    rw [List.getElem?_set_ne (fun q => h (by rw [q]; exact List.mem_cons_self)), wipe_ne fun q => h (List.mem_cons_of_mem _ q)]
theorem Sat.wiped (S : Sat b σ H G env) {is : List Nat} (h : ∀ i ∈ is, ∀ c, env[i]? ≠ some (some c)) : Sat b (wipe σ is) H G env := by
  have ni : ∀ {j : Nat} {c : Fl × D}, env[j]? = some (some c) → j ∉ is := fun e hm => h _ hm _ e
  refine ⟨by rw [wipe_length]; exact S.len, S.ex, S.ex0, S.keep, S.new, S.lents, fun j f d hj => ?_, fun j l f g d e a hj hl o1 o2 s1 s2 => ?_⟩
  · rw [wipe_ne (ni hj)]
    exact S.slot j f d hj
  · rw [wipe_ne (ni hj)] at s1
    rw [wipe_ne (ni hl)] at s2
    exact S.apart j l f g d e a hj hl o1 o2 s1 s2
theorem Sat.unwiped {is : List Nat} (S : Sat b (wipe σ is) H G env) : Sat b σ H G env := by
  refine ⟨by rw [← wipe_length σ is]; exact S.len, S.ex, S.ex0, S.keep, S.new, S.lents, fun j f d hj => ?_, fun j l f g d e a hj hl o1 o2 s1 s2 => ?_⟩
  · obtain ⟨v, hv, k⟩ := S.slot j f d hj
    exact ⟨v, (wipe_some hv).1, k⟩
  · obtain ⟨v, hv, _⟩ := S.slot j f d hj
    obtain ⟨u, hu, _⟩ := S.slot l g e hl
    have e1 := (wipe_some hv).1
    have e2 := (wipe_some hu).1
    rw [s1] at e1
    rw [s2] at e2
    cases e1
    cases e2
    exact S.apart j l f g d e a hj hl o1 o2 hv hu
theorem clear_len : ∀ {is : List Nat} {env : Env}, (clearAt is env).length = env.length
  | [], _ => rfl
  | i :: is, env => by
    unfold clearAt
    rw [clear_len, List.length_set]
theorem clear_at : ∀ {is : List Nat} {env : Env} {j : Nat} {c : Fl × D}, (clearAt is env)[j]? = some (some c) → env[j]? = some (some c) ∧ j ∉ is
  | [], _, _, _, h => ⟨h, by simp⟩
  | i :: is, env, j, c, h => by
    unfold clearAt at h
    obtain ⟨h1, h2⟩ := clear_at h
    by_cases hj : j = i
    · subst hj
      by_cases hl : j < env.length
      · rw [List.getElem?_set_self hl] at h1
        cases h1
      · have := (List.getElem?_eq_some_iff.mp h1).1
        rw [List.length_set] at this
        exact absurd this hl
    · rw [List.getElem?_set_ne (Ne.symm hj)] at h1
      exact ⟨h1, fun hm => (List.mem_cons.mp hm).elim hj h2⟩
theorem Sat.cleared (S : Sat b σ H G env) (is : List Nat) : Sat b (wipe σ is) H G (clearAt is env) := by
  refine ⟨by rw [wipe_length, clear_len]; exact S.len, S.ex, S.ex0, S.keep, S.new, S.lents, fun j f d hj => ?_, fun j l f g d e a hj hl o1 o2 s1 s2 => ?_⟩
  · obtain ⟨h1, h2⟩ := clear_at hj
    rw [wipe_ne h2]
    exact S.slot j f d h1
  · obtain ⟨h1, h2⟩ := clear_at hj
    obtain ⟨h3, h4⟩ := clear_at hl
    rw [wipe_ne h2] at s1
    rw [wipe_ne h4] at s2
    exact S.apart j l f g d e a h1 h3 o1 o2 s1 s2
/-- what the rules' list that grows is: no name's -/
structure Aside (b : Bs) (G : Hp) (σ : L2.St) (env : Env) (p : Addr) : Prop where
  g : G p = none
  h : b.H0 p = none
  l : ∀ q ∈ b.L, q.2 ≠ p
abbrev Bs.with (b : Bs) (p : Addr) (o : HO) : Bs := { b with H0 := upd b.H0 p o }
theorem Sat.poke (S : Sat b σ H G env) {p : Addr} (A : Aside b G σ env p) (hn : ∀ (i : Nat) (f : Fl) (e : D), env[i]? = some (some (f, e)) → isOwn f = true → σ[i]? ≠ some (some (V.ref p))) (o : HO) : Sat b σ (upd H p o) G env := by
  refine ⟨S.len, fun a u e => ?_, S.ex0, fun a u e k => ?_, S.new, fun q hq => ?_, fun j f d hj => ?_, S.apart⟩
  · rw [upd_ne (ne_of_none e A.g)]
    exact S.ex _ _ e
  · rw [upd_ne (ne_of_none e A.h)]
    exact S.keep _ _ e k
  · obtain ⟨z, hz⟩ := S.lents q hq
    exact ⟨z, by rw [upd_ne (A.l q hq)]; exact hz⟩
  · obtain ⟨v, hv, k⟩ := S.slot j f d hj
    refine ⟨v, hv, k.mono (Same.refl G) fun a ea n _ og => ⟨n, ?_⟩⟩
    subst ea
    have ne : a ≠ p := by
      rintro rfl
      exact hn j f d hj og hv
    rw [upd_ne ne]
theorem Sat.into (S : Sat b σ H G env) {p : Addr} {o : HO} (A : Aside b G σ env p) (hn : ∀ (i : Nat) (f : Fl) (e : D), env[i]? = some (some (f, e)) → isOwn f = true → σ[i]? ≠ some (some (V.ref p))) (hp : H p = some o) : Sat (b.with p o) σ H G env := by
  refine ⟨S.len, S.ex, S.ex0, fun a u e k => ?_, fun a u e => ?_, S.lents, fun j f d hj => ?_, S.apart⟩
  · by_cases h : a = p
    · subst h
      have e : upd b.H0 a o a = some u := e
      rw [upd_same] at e
      cases e
      exact hp
    · have e : upd b.H0 p o a = some u := e
      rw [upd_ne h] at e
      exact S.keep a u e k
  · rcases S.new a u e with q | q | q
    · exact .inl q
    · refine .inr (.inl ?_)
      show upd b.H0 p o a = none
      rw [upd_ne (ne_of_none e A.g)]
      exact q
    · exact .inr (.inr q)
  · obtain ⟨v, hv, k⟩ := S.slot j f d hj
    refine ⟨v, hv, ?_⟩
    cases f with
    | fro => exact k
    | lfro => exact k
    | lent => exact k
    | own =>
      obtain ⟨a, ea, ga, ha, ow⟩ := k
      refine ⟨a, ea, ga, ?_, ow⟩
      show upd b.H0 p o a = none
      subst ea
      have ne : a ≠ p := by
        rintro rfl
        exact hn j .own d hj rfl hv
      rw [upd_ne ne]
      exact ha
theorem Sat.outof {p : Addr} {o : HO} (S : Sat (b.with p o) σ H G env) (h0 : b.H0 p = none) (g0 : b.G0 p = none) (hl : ∀ q ∈ b.L, q.2 ≠ p) :
    Sat b σ H G env ∧ H p = some o ∧ Aside b G σ env p ∧ ∀ (i : Nat) (f : Fl) (e : D), env[i]? = some (some (f, e)) → isOwn f = true → σ[i]? ≠ some (some (V.ref p)) := by
  have e0 : (b.with p o).H0 p = some o := upd_same
  have sub : ∀ a, (b.with p o).H0 a = none → b.H0 a = none := by
    intro a e
    by_cases h : a = p
    · rw [h]; exact h0
    · have e : upd b.H0 p o a = none := e
      rw [upd_ne h] at e
      exact e
  have up : ∀ a u, b.H0 a = some u → (b.with p o).H0 a = some u := fun a u e => by
    show upd b.H0 p o a = some u
    rw [upd_ne (ne_of_none e h0)]
    exact e
  have gp : G p = none := by
    cases w : G p with
    | none => rfl
    | some z =>
      rcases S.new p z w with q | q | ⟨q, hq, eq⟩
      · have q : b.G0 p = some z := q
        rw [g0] at q; cases q
      · rw [e0] at q; cases q
      · exact absurd eq (hl q hq)
  refine ⟨⟨S.len, S.ex, S.ex0, fun a u e k => S.keep a u (up a u e) k, fun a u e => ?_, S.lents, fun j f d hj => ?_, S.apart⟩, S.keep p o e0 hl, ⟨gp, h0, hl⟩, fun i f e he hf hs => ?_⟩
  · rcases S.new a u e with q | q | q
    · exact .inl q
    · exact .inr (.inl (sub a q))
    · exact .inr (.inr q)
  · obtain ⟨v, hv, k⟩ := S.slot j f d hj
    refine ⟨v, hv, ?_⟩
    cases f with
    | fro => exact k
    | lfro => exact k
    | lent => exact k
    | own =>
      obtain ⟨a, ea, ga, ha, ow⟩ := k
      exact ⟨a, ea, ga, sub a ha, ow⟩
  · obtain ⟨v, hv, k⟩ := S.slot i f e he
    rw [hs] at hv
    cases hv
    cases f with
    | fro => cases hf
    | lfro => cases hf
    | lent => obtain ⟨a, ea, ga, ha, _⟩ := k; cases ea; exact hl _ ha rfl
    | own => obtain ⟨a, ea, ga, ha, _⟩ := k; cases ea; rw [e0] at ha; cases ha
end

/-! ### targets -/
def gT (K : PySem.W.Frag) : TGt → TG
  | .one i => gName i
  | .two i j => gTup K 2 (gCons (gName i) (gCons (gName j) gNil))
section
variable {b : Bs} {σ : L2.St} {env env' : Env} {H G : Hp} {d : D} {v : V}
theorem put_ok (S : Sat b σ H G env) {t : TGt} (h : putT t d env = some env') (r : Rep b.cs G v d) {Q : L2.St → Hp → Prop}
    (k : ∀ σ', Sat b σ' H G env' → (∃ vs : List V, vs.length = t.is.length ∧ σ' = (t.is.zip vs).foldl (fun s p => s.set p.1 (some p.2)) σ) → Q σ' H) : gT b.cs.K t v σ H Q := by
  cases t with
  | one i => exact k _ (S.put h r) ⟨[v], rfl, rfl⟩
  | two i j =>
    unfold putT at h
    split at h
    · rename_i ht
      cases ht
    · rename_i d1 d2 ht
      cases ht
      obtain ⟨e1, h1, h2⟩ := Option.bind_eq_some_iff.mp h
      cases r with
      | tup hs r =>
        rename_i a xs
        cases r with
        | cons r1 r' =>
          cases r' with
          | cons r2 r'' =>
            cases r''
            rename_i v1 v2
            have S1 : Sat b (σ.set i (some v1)) H G e1 := S.put (own := false) h1 r1
            have S2 : Sat b ((σ.set i (some v1)).set j (some v2)) H G env' := S1.put (own := false) h2 r2
            refine ⟨a, [v1, v2], rfl, SqT.seen S hs, rfl, ?_⟩
            refine ⟨v1, [v2], rfl, ?_⟩
            refine ⟨v2, [], rfl, ?_⟩
            exact ⟨rfl, k _ S2 ⟨[v1, v2], rfl, rfl⟩⟩
    · cases h
end

/-! ### walks -/
def Yld (c : Cs) (J : It) (ds : List D) (G1 : Hp) : Prop :=
  ∀ (b : Bs), b.cs = c → ∀ (i : Nat) (σ : L2.St) (H G : Hp) (env : Env), Same G1 G → Sat b σ H G env →
    (i < ds.length → J.go i H ∧ ∀ x H', J.yld i H x H' → ∃ G', Same G G' ∧ Sat b σ H' G' env ∧ ∃ d, ds[i]? = some d ∧ Rep c G' x d) ∧ (ds.length ≤ i → J.stop i H)
def tI (b : Bs) (f : Env → Option (List D × Env)) : TI := fun σ H R => ∃ env G ds env', f env = some (ds, env') ∧ Sat b σ H G env ∧ ∀ J H' G', Same G G' → Sat b σ H' G' env' → Yld b.cs J ds G' → R J H'
theorem _root_.L2.PI.wk {X : Cx} {tg e : Expr} {t t' : TI} (h : PI X tg e t) (k : ∀ σ H R, t' σ H R → t σ H R) : PI X tg e t' := ⟨fun pins s σ H R I q => h.run pins s σ H R I (k σ H R q)⟩
theorem _root_.L2.PI.or {X : Cx} {tg e : Expr} {t t' : TI} (h : PI X tg e t) (h' : PI X tg e t') : PI X tg e (fun σ H R => t σ H R ∨ t' σ H R) := ⟨fun pins s σ H R I q => q.elim (h.run pins s σ H R I) (h'.run pins s σ H R I)⟩
section
variable {X : Cx} {b : Bs} {e e1 e2 tg : Expr} {pos p : Pos} {Φ : Phi} {gv : Nat → D}
theorem yld_lst {c : Cs} {G1 : Hp} {a : Addr} {vs : List V} {ds : List D} (h : G1 a = some (.lst vs)) (r : Reps c G1 vs ds) : Yld c (Itl c.K a) ds G1 := by
  intro b hb i σ H G env g S
  have hs : SqL c.K H a vs := .of (S.ex _ _ (g _ _ h))
  refine ⟨fun hi => ?_, fun hi => ⟨vs, hs, by rw [r.length]; exact hi⟩⟩
  have hiv : i < vs.length := by rw [r.length]; exact hi
  refine ⟨⟨vs, vs[i], hs, by simp [hiv]⟩, fun x H' hy => ?_⟩
  obtain ⟨rfl, hx⟩ := hy
  obtain ⟨v, hv, rv⟩ := r.get (List.getElem?_eq_getElem hi)
  have := hx vs hs
  rw [hv] at this
  cases this
  exact ⟨G, Same.refl G, S, _, List.getElem?_eq_getElem hi, rv.mono g⟩
theorem yld_tup {c : Cs} {G1 : Hp} {a : Addr} {vs : List V} {ds : List D} (h : SqT c.K G1 a vs) (r : Reps c G1 vs ds) : Yld c (Itt c.K a) ds G1 := by
  intro b hb i σ H G env g S
  have hs : SqT c.K H a vs := same_t S.ex (same_t g h)
  refine ⟨fun hi => ?_, fun hi => ⟨vs, hs, by rw [r.length]; exact hi⟩⟩
  have hiv : i < vs.length := by rw [r.length]; exact hi
  refine ⟨⟨vs, vs[i], hs, by simp [hiv]⟩, fun x H' hy => ?_⟩
  obtain ⟨rfl, hx⟩ := hy
  obtain ⟨v, hv, rv⟩ := r.get (List.getElem?_eq_getElem hi)
  have := hx vs hs
  rw [hv] at this
  cases this
  exact ⟨G, Same.refl G, S, _, List.getElem?_eq_getElem hi, rv.mono g⟩
theorem upto_len : ∀ (n : Nat) (lo : Int), (upto lo n).length = n
  | 0, _ => rfl
  | n + 1, lo => by
    unfold upto
    rw [List.length_cons, upto_len n]
theorem upto_get : ∀ (n : Nat) (lo : Int) (i : Nat), i < n → (upto lo n)[i]? = some (lo + i)
  | 0, _, _, h => by omega
  | n + 1, lo, 0, _ => by
    unfold upto
    simp
  | n + 1, lo, i + 1, h => by
    unfold upto
    rw [List.getElem?_cons_succ, upto_get n (lo + 1) i (by omega)]
    congr 1
    omega
theorem yld_rng {c : Cs} {G1 : Hp} {lo : Int} {n : Nat} : Yld c (Itr lo n) ((upto lo n).map D.int) G1 := by
  intro b hb i σ H G env g S
  rw [List.length_map, upto_len]
  refine ⟨fun hi => ⟨hi, fun x H' hy => ?_⟩, fun hi => hi⟩
  obtain ⟨rfl, rfl⟩ := hy
  refine ⟨G, Same.refl G, S, .int (lo + i), ?_, .int _⟩
  rw [List.getElem?_map, upto_get n lo i hi]
  rfl
theorem ji_seq {a : IE} (hK : X.K = b.cs.K) (ha : JE X b e (sem Φ gv a)) : PI X tg e (tI b (semI Φ gv (.seq a))) := by
  refine ((pi_list ha.ev).or (pi_tup ha.ev)).wk fun σ H R ⟨env, G, ds, env', q, S, k⟩ => ?_
  obtain ⟨⟨o, x, w⟩, h1, q⟩ := Option.bind_eq_some_iff.mp q
  simp only at q
  split at q
  · cases q
    refine .inl (use h1 S fun v1 H1 G1 g1 S1 r1 => ?_)
    cases r1 with
    | lst hl r =>
      refine ⟨_, rfl, ⟨_, .of (S1.ex _ _ hl)⟩, ?_⟩
      rw [hK]
      exact k _ H1 G1 g1 S1 (yld_lst hl r)
  · cases q
    refine .inr (use h1 S fun v1 H1 G1 g1 S1 r1 => ?_)
    cases r1 with
    | tup hl r =>
      refine ⟨_, rfl, ⟨_, by rw [hK]; exact SqT.seen S1 hl⟩, ?_⟩
      rw [hK]
      exact k _ H1 G1 g1 S1 (yld_tup hl r)
  · cases q
theorem ji_rng1 {a : IE} (hg : Gl X "range") (hm : X.mg "range" = none) (ha : JE X b e (sem Φ gv a)) : PI X tg (.Call (.Name "range" p) [e] [] pos) (tI b (semI Φ gv (.rng1 a))) := by
  refine (pi_range1 hg hm (pa_cons ha.ev pa_nil (ha.ns _ _)) (ha.ns _ _)).wk fun σ H R ⟨env, G, ds, env', q, S, k⟩ => ?_
  obtain ⟨⟨o, x, w⟩, h1, q⟩ := Option.bind_eq_some_iff.mp q
  refine use h1 S fun v1 H1 G1 g1 S1 r1 => ?_
  simp only at q
  split at q
  · split at q
    · rename_i n hn
      cases q
      cases r1
      exact ⟨n, rfl, by omega, by omega, k _ H1 G1 g1 S1 yld_rng⟩
    · cases q
  · cases q
theorem ji_rng2 {a c : IE} (hg : Gl X "range") (hm : X.mg "range" = none) (ha : JE X b e1 (sem Φ gv a)) (hc : JE X b e2 (sem Φ gv c)) : PI X tg (.Call (.Name "range" p) [e1, e2] [] pos) (tI b (semI Φ gv (.rng2 a c))) := by
  have s2 : starEach [e2] X.env = [(false, eval e2 X.env)] := hc.ns _ _
  have s1 : starEach [e1, e2] X.env = [(false, eval e1 X.env), (false, eval e2 X.env)] := by
    rw [ha.ns, s2]
  refine (pi_range2 hg hm (pa_cons ha.ev (pa_cons hc.ev pa_nil (hc.ns _ _)) (ha.ns _ _)) s1 s2).wk fun σ H R ⟨env, G, ds, env', q, S, k⟩ => ?_
  obtain ⟨⟨o, x, w⟩, h1, q⟩ := Option.bind_eq_some_iff.mp q
  obtain ⟨⟨o2, x2, w2⟩, h2, q⟩ := Option.bind_eq_some_iff.mp q
  refine use h1 S fun v1 H1 G1 g1 S1 r1 => use h2 S1 fun v2 H2 G2 g2 S2 r2 => ?_
  simp only at q
  split at q
  · split at q
    · rename_i hn
      cases q
      cases r1
      cases r2
      exact ⟨_, _, rfl, ⟨by omega, by omega, by omega, by omega⟩, k _ H2 G2 (g1.trans g2) S2 yld_rng⟩
    · cases q
  · cases q
end
end PD
namespace PD
open PySem L2
theorem _root_.L2.PE.any {ι : Type} {p : ι → Prop} {X : Cx} {e : Expr} {t : ι → TE} (h : ∀ i, p i → PE X e (t i)) : PE X e (fun σ H Q => ∃ i, p i ∧ t i σ H Q) := ⟨fun pins s σ H Q I ⟨i, hi, q⟩ => (h i hi).run pins s σ H Q I q⟩
theorem _root_.L2.PTs.any {ι : Type} {p : ι → Prop} {X : Cx} {e : List Expr} {t : ι → TT} (h : ∀ i, p i → PTs X e (t i)) : PTs X e (fun σ H Q => ∃ i, p i ∧ t i σ H Q) := ⟨fun pins s σ H Q I ⟨i, hi, q⟩ => (h i hi).run pins s σ H Q I q⟩
def tAE (c : Cs) (f : FE) : TE := fun σ H Q => ∃ b : Bs, b.cs = c ∧ tEv b f σ H Q
def tAT (c : Cs) (f : Env → Option (Bool × Env)) : TT := fun σ H Q => ∃ b : Bs, b.cs = c ∧ tTt b f σ H Q
theorem wipe_put {is : List Nat} {σ : L2.St} : ∀ {js : List Nat} {vs : List V}, (∀ j ∈ js, j ∈ is) → wipe ((js.zip vs).foldl (fun s p => s.set p.1 (some p.2)) σ) is = wipe σ is
  | [], vs, _ => rfl
  | j :: js, [], _ => rfl
  | j :: js, v :: vs, h => by
    show wipe ((js.zip vs).foldl (fun s p => s.set p.1 (some p.2)) (σ.set j (some v))) is = wipe σ is
    rw [wipe_put fun k hk => h k (List.mem_cons_of_mem _ hk)]
    have hj := h j List.mem_cons_self
    clear h
    induction is with
    | nil => simp at hj
    | cons i is ih =>
      show (wipe (σ.set j (some v)) is).set i none = (wipe σ is).set i none
      by_cases hji : j ∈ is
      · rw [ih hji]
      · have e : j = i := (List.mem_cons.mp hj).elim id fun q => absurd q hji
        subst e
        have com : ∀ (ks : List Nat) (s : L2.St), j ∉ ks → wipe (s.set j (some v)) ks = (wipe s ks).set j (some v) := by
          intro ks
          induction ks with
          | nil => intro s _; rfl
          | cons k ks ih2 =>
            intro s hk
            show (wipe (s.set j (some v)) ks).set k none = ((wipe s ks).set k none).set j (some v)
            rw [ih2 s fun q => hk (List.mem_cons_of_mem _ q)]
            exact List.set_comm _ _ fun q => hk (by rw [← q]; exact List.mem_cons_self)
        rw [com is σ hji, List.set_set]
theorem wipe_twice {is : List Nat} {σ : L2.St} : wipe (wipe σ is) is = wipe σ is := by
  refine List.ext_getElem? fun j => ?_
  by_cases hj : j ∈ is
  · have key : ∀ (ks : List Nat) (s : L2.St), j ∈ ks → (wipe s ks)[j]? = if j < s.length then some none else none := by
      intro ks
      induction ks with
      | nil => intro s h; simp at h
      | cons k ks ih =>
        intro s h
        show ((wipe s ks).set k none)[j]? = _
        by_cases e : k = j
        · subst e
          by_cases hl : k < s.length
          · rw [List.getElem?_set_self (by rw [wipe_length]; exact hl), if_pos hl]
          · rw [List.getElem?_eq_none (by rw [List.length_set, wipe_length]; omega), if_neg hl]
        · rw [List.getElem?_set_ne e]
          exact ih s ((List.mem_cons.mp h).elim (fun q => absurd q.symm e) id)
    rw [key is _ hj, key is _ hj, wipe_length]
  · rw [wipe_ne hj]
theorem unset_is {env : Env} {is : List Nat} (h : is.all (unset env) = true) : ∀ i ∈ is, ∀ c, env[i]? ≠ some (some c) := by
  intro i hi c e
  have := List.all_eq_true.mp h i hi
  unfold unset at this
  rw [e] at this
  cases this
theorem wipe_none {is : List Nat} {σ : L2.St} (h : ∀ i ∈ is, ∀ v, σ[i]? ≠ some (some v)) : wipe σ is = σ := by
  refine List.ext_getElem? fun j => ?_
  induction is with
  | nil => rfl
  | cons i is ih =>
    show ((wipe σ is).set i none)[j]? = _
    by_cases e : i = j
    · subst e
      by_cases hl : i < σ.length
      · rw [List.getElem?_set_self (by rw [wipe_length]; exact hl)]
        cases q : σ[i]? with
        | none => rw [List.getElem?_eq_none_iff] at q; omega
        | some c =>
          cases c with
          | none => rfl
          | some v => exact absurd q (h i List.mem_cons_self v)
      · rw [List.getElem?_eq_none (by rw [List.length_set, wipe_length]; omega), List.getElem?_eq_none (by omega)]
    · rw [List.getElem?_set_ne e]
      exact ih fun k hk => h k (List.mem_cons_of_mem _ hk)
section
variable {X : Cx} {b : Bs} {elt tg iter : Expr} {ifs : List Expr} {scope : Scope} {own : List (Str × Nat)} {pos : Pos} {Φ : Phi} {gv : Nat → D} {t : TGt} {it : IT} {cs : IEs} {e : IE}
def turnC (Φ : Phi) (gv : Nat → D) (t : TGt) (cs : IEs) (e : IE) : D → Env → Option (Option D × Env) := fun x en => (putT t x en).bind fun e1 => ((sems Φ gv cs).t e1).bind fun b =>
  if b.1 then ((sem Φ gv e).ev b.2).map fun q => (some q.2.1, clearAt t.is q.2.2) else some (none, clearAt t.is b.2)
theorem comp_ok {c : Cs} {σ : L2.St} {H1 G1 : Hp} {env1 env' : Env} {ds ys : List D} {J : It} {Q : VK} (hb : b.cs = c) (S1 : Sat b σ H1 G1 env1) (hy : Yld c J ds G1) (hn : ds.length ≤ 1000000) (hu : t.is.all (unset env1) = true)
    (hq : cloop (turnC Φ gv t cs e) ds env1 = some (ys, env')) (k : Kon b σ env' G1 true (.lst ys) Q) (D : Addr) (hD : H1 D = none) :
    ∃ W : Nat → Nat → Hp → Prop, (∃ m, W 0 m (upd H1 D (.lst []))) ∧ ∀ i m H, W i m H →
      (J.stop i H ∧ Q (.ref D) H) ∨ (J.go i H ∧ ∃ Nx : Hp → Prop, (∀ H', Nx H' → ∃ m', m' < m ∧ W (i + 1) m' H') ∧ ∀ x H', J.yld i H x H' → gT c.K t x (wipe σ t.is) H' fun σ2 H2 => wipe σ2 t.is = wipe σ t.is ∧ tAT c (sems Φ gv cs).t σ2 H2 fun b H3 =>
        if b = true then tAE c (sem Φ gv e).ev σ2 H3 fun y H4 => ∃ acc, H4 D = some (.lst acc) ∧ acc.length < sizeLine ∧ Nx (upd H4 D (.lst (acc ++ [y]))) else Nx H3) := by
  have gD : G1 D = none := S1.ex.free hD
  have g0 : b.G0 D = none := S1.ex0.free gD
  have lD : ∀ q ∈ b.L, q.2 ≠ D := by
    intro q hq' eq
    obtain ⟨o, ho⟩ := S1.lents q hq'
    rw [eq, hD] at ho; cases ho
  obtain ⟨S0, _, h0, n0⟩ := S1.made (o := .lst []) hD
  refine ⟨fun i m H => m = ds.length - i ∧ i ≤ ds.length ∧ ∃ (en : Env) (G : Hp) (acc : List V) (ad os : List PD.D), Same G1 G ∧ Sat b (wipe σ t.is) H G en ∧ H D = some (.lst acc) ∧ Reps c G acc ad ∧ G D = none ∧
    (∀ (i : Nat) (f : Fl) (e : PD.D), en[i]? = some (some (f, e)) → isOwn f = true → (wipe σ t.is)[i]? ≠ some (some (V.ref D))) ∧ acc.length ≤ i ∧ cloop (turnC Φ gv t cs e) (ds.drop i) en = some (os, env') ∧ ad ++ os = ys,
    ⟨ds.length, by simp, Nat.zero_le _, env1, G1, [], [], ys, Same.refl G1, S0.wiped (unset_is hu), upd_same, .nil, gD, fun i f e he hf hs => n0 i f e he hf (wipe_some hs).1, Nat.le_refl _, by simpa using hq, rfl⟩, ?_⟩
  rintro i m H ⟨rfl, hi, en, G, acc, ad, os, g, S, hacc, ra, gD', nD, hla, hcl, hys⟩
  by_cases hlt : i < ds.length
  · have A : Aside b G (wipe σ t.is) en D := ⟨gD', h0, lD⟩
    have dr : ds.drop i = ds[i] :: ds.drop (i + 1) := List.drop_eq_getElem_cons hlt
    rw [dr] at hcl
    unfold cloop at hcl
    have Sb : Sat (b.with D (.lst acc)) (wipe σ t.is) H G en := S.into A nD hacc
    obtain ⟨go, yl⟩ := (hy (b.with D (.lst acc)) hb i _ H G en g Sb).1 hlt
    refine .inr ⟨go, fun H' => ∃ (en : Env) (G : Hp) (acc : List V) (ad os : List PD.D), Same G1 G ∧ Sat b (wipe σ t.is) H' G en ∧ H' D = some (.lst acc) ∧ Reps c G acc ad ∧ G D = none ∧
      (∀ (i : Nat) (f : Fl) (e : PD.D), en[i]? = some (some (f, e)) → isOwn f = true → (wipe σ t.is)[i]? ≠ some (some (V.ref D))) ∧ acc.length ≤ i + 1 ∧ cloop (turnC Φ gv t cs e) (ds.drop (i + 1)) en = some (os, env') ∧ ad ++ os = ys,
      fun H' p => ⟨ds.length - (i + 1), by omega, rfl, hlt, p⟩, fun x H' hx => ?_⟩
    obtain ⟨G2, g2, S2, d, hd, rd⟩ := yl x H' hx
    rw [List.getElem?_eq_getElem hlt] at hd
    cases hd
    cases ht : turnC Φ gv t cs e ds[i] en with
    | none => rw [ht] at hcl; cases hcl
    | some r =>
      obtain ⟨o, en2⟩ := r
      rw [ht] at hcl
      simp only at hcl
      cases hc2 : cloop (turnC Φ gv t cs e) (ds.drop (i + 1)) en2 with
      | none => rw [hc2] at hcl; cases hcl
      | some r2 =>
        obtain ⟨os2, en3⟩ := r2
        rw [hc2] at hcl
        simp only [Option.some.injEq, Prod.mk.injEq] at hcl
        obtain ⟨hos, hen⟩ := hcl
        subst hen
        obtain ⟨e1, hp, ht⟩ := Option.bind_eq_some_iff.mp ht
        obtain ⟨⟨tb, e2⟩, ht1, ht⟩ := Option.bind_eq_some_iff.mp ht
        have rd' : Rep (b.with D (.lst acc)).cs G2 x ds[i] := by
          show Rep b.cs G2 x ds[i]
          rw [hb]; exact rd
        have hbw : (b.with D (.lst acc)).cs = c := hb
        have cK : (b.with D (.lst acc)).cs.K = c.K := by rw [hbw]
        rw [← cK]
        refine put_ok S2 hp rd' fun σ2 S3 ⟨vs, hvs, hσ⟩ => ?_
        have hw2 : wipe σ2 t.is = wipe σ t.is := by
          rw [hσ, wipe_put fun j hj => hj, wipe_twice]
        refine ⟨hw2, b.with D (.lst acc), hbw, useT ht1 S3 fun H3 G3 g3 S4 => ?_⟩
        cases tb with
        | true =>
          rw [if_pos rfl] at ht ⊢
          obtain ⟨⟨o4, y4, e4⟩, he4, ht⟩ := Option.map_eq_some_iff.mp ht
          simp only [Prod.mk.injEq] at ht
          obtain ⟨ht1', ht2'⟩ := ht
          subst ht1'
          subst ht2'
          refine ⟨b.with D (.lst acc), hbw, use he4 S4 fun v5 H5 G5 g5 S5 r5 => ?_⟩
          obtain ⟨S6, hD6, A6, n6⟩ := S5.outof h0 g0 lD
          have S7 := S6.cleared t.is
          rw [hw2] at S7
          have n7 : ∀ (i : Nat) (f : Fl) (e : PD.D), (clearAt t.is e4)[i]? = some (some (f, e)) → isOwn f = true → (wipe σ t.is)[i]? ≠ some (some (V.ref D)) := by
            intro j f e' hj hf hs
            obtain ⟨q1, q2⟩ := clear_at hj
            rw [← hw2, wipe_ne q2] at hs
            exact n6 j f e' q1 hf hs
          have r5' : Rep c G5 v5 y4 := by
            have : Rep (b.with D (.lst acc)).cs G5 v5 y4 := r5
            rw [hbw] at this
            exact this
          have rr : Reps c G5 acc ad := ((ra.mono g2).mono g3).mono g5
          refine ⟨acc, hD6, by rw [sizeLine_eq]; omega, clearAt t.is e4, G5, acc ++ [v5], ad ++ [y4], os2, ((g.trans g2).trans g3).trans g5, S7.poke ⟨A6.g, A6.h, A6.l⟩ n7 _, upd_same, rr.app (.cons r5' .nil), A6.g, n7, ?_, hc2, ?_⟩
          · rw [List.length_append, List.length_cons, List.length_nil]
            omega
          · rw [List.append_assoc, ← hys, ← hos]
            rfl
        | false =>
          rw [if_neg Bool.false_ne_true] at ht ⊢
          simp only [Option.some.injEq, Prod.mk.injEq] at ht
          obtain ⟨ht1', ht2'⟩ := ht
          subst ht1'
          subst ht2'
          obtain ⟨S6, hD6, A6, n6⟩ := S4.outof h0 g0 lD
          have S7 := S6.cleared t.is
          rw [hw2] at S7
          have n7 : ∀ (i : Nat) (f : Fl) (e : PD.D), (clearAt t.is e2)[i]? = some (some (f, e)) → isOwn f = true → (wipe σ t.is)[i]? ≠ some (some (V.ref D)) := by
            intro j f e' hj hf hs
            obtain ⟨q1, q2⟩ := clear_at hj
            rw [← hw2, wipe_ne q2] at hs
            exact n6 j f e' q1 hf hs
          refine ⟨clearAt t.is e2, G3, acc, ad, os2, (g.trans g2).trans g3, S7, hD6, (ra.mono g2).mono g3, A6.g, n7, Nat.le_succ_of_le hla, hc2, ?_⟩
          rw [← hys, ← hos]
  · have e0 : i = ds.length := by omega
    subst e0
    rw [List.drop_length] at hcl
    cases hcl
    rw [List.append_nil] at hys
    subst hys
    have Su := S.unwiped
    refine .inl ⟨?_, ?_⟩
    · exact (hy b hb _ _ H G env' g S).2 (Nat.le_refl _)
    · refine k _ H G g Su ⟨D, rfl, gD', h0, ⟨acc, hacc, by rw [hb]; exact ra⟩, fun i f e he hf hs => ?_⟩
      obtain ⟨v, hv, cc⟩ := S.slot i f e he
      have q := (wipe_some hv).1
      rw [hs] at q
      cases q
      exact nD i f e he hf hv
theorem je_comp {c : Cs} (hK : X.K = c.K) (hb : b.cs = c) (hc : X.calm = true) (hN : X.N.Nodup) (hi : PI X tg iter (tI b (semI Φ gv it))) (ok : BlkOk X.N X.env.scope scope own) (ho : own.map (·.2) = t.is)
    (hg : ∀ (s : Shared) (H : Hp) (C : Addr) (cl : List (Str × Addr)) (fp : List Addr), PG (X.blk s H scope (compEnvC scope cl C X.env) fp) tg (gT c.K t))
    (ht : ∀ (s : Shared) (H : Hp) (C : Addr) (cl : List (Str × Addr)) (fp : List Addr), PTs (X.blk s H scope (compEnvC scope cl C X.env) fp) ifs (tAT c (sems Φ gv cs).t))
    (he : ∀ (s : Shared) (H : Hp) (C : Addr) (cl : List (Str × Addr)) (fp : List Addr), PE (X.blk s H scope (compEnvC scope cl C X.env) fp) elt (tAE c (sem Φ gv e).ev)) (hs : ∀ x, foldedSetIterable iter X.env x = pure x) :
    PE X (.ListComp elt [⟨tg, iter, ifs, 0⟩] scope pos) (tEv b (sem Φ gv (.comp t it cs e)).ev) := by
  refine (pe_lc hc hN hi ok hg ht he hs).wk fun σ H Q ⟨env, G, own', d, env', q, S, k⟩ => ?_
  obtain ⟨⟨ds, env1⟩, h1, q⟩ := Option.bind_eq_some_iff.mp q
  simp only at q
  split at q
  · rename_i hn
    obtain ⟨⟨ys, env2⟩, h2, h3⟩ := Option.map_eq_some_iff.mp q
    cases h3
    refine ⟨env, G, ds, env1, h1, S, fun J H1 G1 g1 S1 hy D hD => ?_⟩
    rw [ho]
    exact comp_ok hb S1 (by rw [← hb]; exact hy) hn.1 hn.2 h2 (k.step g1) D hD
  · cases q
end
/-! ### xs[::-1] -/
section
open PySem.Spec PyProof.Rows HT PySem.MeetsSeq PySem.MeetsSeq2 PySem.MeetsSeq3
section
variable {prog : Program} {w : World} {A : Around} {E : Value → Shared → Prop} {s : Shared}
theorem places_back (n : Nat) : Builtin.Slice.sliceAdjust none none (-1) (n : Int) = ((n : Int) - 1, -1) ∧ Builtin.Slice.slicePlaces ((n : Int) - 1) (-1) (-1) = n := by
  refine ⟨rfl, ?_⟩
  unfold Builtin.Slice.slicePlaces
  have h1 : ¬ ((-1 : Int) > 0) := by omega
  rw [if_neg h1]
  by_cases h : (n : Int) - 1 > -1
  · rw [if_pos h, show (- -1 : Int) = 1 by decide, Int.ediv_one]
    omega
  · rw [if_neg h]
    omega
theorem fm_congr {α β : Type} {f g : α → Option β} : ∀ {l : List α}, (∀ x ∈ l, f x = g x) → l.filterMap f = l.filterMap g
  | [], _ => rfl
  | x :: r, h => by
    rw [List.filterMap_cons, List.filterMap_cons, h x List.mem_cons_self, fm_congr fun y hy => h y (List.mem_cons_of_mem _ hy)]
theorem pick_back (xs : Array Value) : ((List.range xs.size).filterMap fun (m : Nat) => xs[(((xs.size : Int) - 1) + (m : Int) * (-1)).toNat]?).toArray = xs.toList.reverse.toArray := by
  have e : (List.range xs.size).filterMap (fun (m : Nat) => xs[(((xs.size : Int) - 1) + (m : Int) * (-1)).toNat]?) = ((List.range xs.size).map fun k => xs.size - 1 - k).filterMap (xs[·]?) := by
    rw [List.filterMap_map]
    refine fm_congr fun m hm => ?_
    have hm' := List.mem_range.mp hm
    show xs[(((xs.size : Int) - 1) + (m : Int) * (-1)).toNat]? = xs[xs.size - 1 - m]?
    congr 1
    omega
  rw [e, PySem.W.krv_range, List.filterMap_reverse, PySem.W.krv_all]
theorem tuple_back {t sl : Addr} {items : Array Value} {vs : Value} {Q : Value → Shared → Prop} (ht : IsTup s.heap t items) (hs : s.heap.IsSliceOf sl .none .none vs) (ps : IsPart vs (some (-1)))
    (h : Q (.ref s.heap.objs.size) { s with heap := s.heap.push { cls := .type "tuple", data := .seq items.toList.reverse.toArray } }) (hsz : items.size ≤ sizeLine) : wpAny (model prog w) A (getItem (.ref t) (.ref sl)) Q E s := by
  have fits : sizeOk (.seq items.toList.reverse.toArray) := by
    show items.toList.reverse.toArray.size ≤ sizeLine
    rw [List.size_toArray, List.length_reverse, Array.length_toList]
    exact hsz
  obtain ⟨os, hos, hcs, hds⟩ := id hs
  have hTs : s.TypeIs (.ref sl) "slice" := ⟨os, hos, hcs⟩
  unfold getItem
  (try with_reducible refine wpAny_holding ?_)
  (first
    | refine wpAny_bind (wpAny_pure ?_)
    | skip)
  refine wpAny_bind (wpAny_sequenceKey ht.typeIs (by decide) ?_)
  refine wpAny_bind (wpAny_callSpecial?_slot (name := Str.ofString "__getitem__") ht.typeIs PyProof.Rows.slot_tuple_getitem
    (wpAny_call_entry PyProof.Rows.slot_tuple_getitem ht.typeIs PyProof.Rows.entry_tuple_getitem ?_ (PyProof.Rows.args_tuple_getitem _ _)))
  show wpAny _ _ (Builtin.Tuple.tupleItemsOf (.ref t) >>= _) _ _ s
  refine wpAny_bind (PyProof.Rows.tupleItemsOf_ ht ?_)
  refine wpAny_bind (wpAny_typeOf hTs ?_)
  rw [if_pos (by decide)]
  obtain ⟨a1, a2⟩ := places_back items.size
  refine wpAny_bind ?_
  unfold Builtin.Slice.sliceApplied Builtin.Slice.sliceFields
  refine wpAny_bind (wpAny_bind (wpAny_field hos hds (x := .none) rfl (wpAny_bind (wpAny_field hos hds (x := .none) rfl (wpAny_bind (wpAny_field hos hds (x := vs) rfl (wpAny_pure ?_)))))))
  refine wpAny_bind (slicePart_ ps ?_)
  show wpAny _ _ (if ((-1 : Int) == 0) = true then _ else _) _ _ s
  rw [if_neg (by decide)]
  refine wpAny_bind (slicePart_ .none (wpAny_bind (slicePart_ .none (wpAny_bind (wpAny_pure ?_)))))
  show wpAny _ _ (match Builtin.Slice.sliceAdjust none none (-1) (items.size : Int) with | (lo, hi) => pure (lo, (-1 : Int), Builtin.Slice.slicePlaces lo hi (-1))) _ _ s
  rw [a1]
  show wpAny _ _ (pure ((items.size : Int) - 1, (-1 : Int), Builtin.Slice.slicePlaces ((items.size : Int) - 1) (-1) (-1))) _ _ s
  rw [a2]
  refine wpAny_pure ?_
  show wpAny _ _ (if (((items.size : Int) - 1 == 0 && (-1 : Int) == 1 && items.size == items.size) = true) then _ else _) _ _ s
  rw [if_neg (by rw [show ((-1 : Int) == 1) = false by decide, Bool.and_false, Bool.false_and]; exact Bool.false_ne_true), pick_back]
  first
    | exact wpAny_bind (m := Builtin.Tuple.tupleExact _) (wpAny_newObj_type (wpAny_pure ⟨_, rfl, wpAny_pure h⟩) fits)
    | exact wpAny_bind (m := Builtin.Tuple.tupleExact _) (wpAny_newObj_type (wpAny_bind (wpAny_pure (wpAny_pure ⟨_, rfl, wpAny_pure h⟩))) fits)
    | exact wpAny_bind (wpAny_bind (m := Builtin.Tuple.tupleExact _) (wpAny_newObj_type (wpAny_pure (wpAny_pure ⟨_, rfl, wpAny_pure h⟩)) fits))
    | exact wpAny_bind (wpAny_bind (m := Builtin.Tuple.tupleExact _) (wpAny_newObj_type (wpAny_pure ⟨_, rfl, wpAny_pure h⟩) fits))
end
variable {X : Cx} {e : Expr} {te : TE}
def tRevT (K : PySem.W.Frag) (te : TE) : TE := fun σ H Q => te σ H fun x H1 => ∃ a xs, x = .ref a ∧ SqT K H1 a xs ∧ ∀ p, H1 p = none → Q (.ref p) (upd H1 p (.tup xs.reverse))
theorem pe_revT {k : Nat} {p1 p2 p3 pos : Pos} (he : PE X e te) : PE X (.Subscript e (.Slice none none (some (.UnaryOp .USub (.Constant (.int 1) k p1) p2)) p3) pos) (tRevT X.K te) := by
  refine ⟨fun pins s σ H Q I h => Subscript_ (thn (he.run pins s σ H _ I h) fun v s1 ⟨x, H1, I1, r1, a, xs, ex, hx, q⟩ => ?_)⟩
  subst ex
  cases r1
  have stp : PO X (some (.UnaryOp .USub (.Constant (.int 1) k p1) p2)) (tPart (tUn (rU fun i => .int (-i)) (tC (.int 1)))) := po_some (pe_un un_neg pe_int)
  refine wpAny_Slice (thn (po_none.run pins s1 σ H1 (fun o H2 => o = none ∧ H2 = H1) I1 ⟨rfl, rfl⟩) fun vl s2 ⟨l, H2, I2, pl, el, e2⟩ => ?_)
  subst el e2
  refine thn (po_none.run pins s2 σ H2 (fun o H3 => o = none ∧ H3 = H2) I2 ⟨rfl, rfl⟩) fun vu s3 ⟨u, H3, I3, pu, eu, e3⟩ => ?_
  subst eu e3
  refine thn (stp.run pins s3 σ H3 (fun o H4 => o = some (-1) ∧ H4 = H3) I3 ⟨1, rfl, -1, rfl, rfl, rfl⟩) fun vs s4 ⟨o, H4, I4, ps, eo, e4⟩ => ?_
  subst eo e4
  have I5 : Inv X pins σ H4 { s4 with heap := s4.heap.push { cls := .type "slice", data := .fields #[vl, vu, vs] } } := I4.kept (t' := s4.toks) fun b ob q => Heap.get?_push_of_some _ q
  obtain ⟨its, r, ht, hz⟩ := I5.tuple hx
  have hlen := r.length
  cases pl
  cases pu
  show wpAny (model X.prog X.w) X.A (subscriptTail e (.Slice none none (some (.UnaryOp .USub (.Constant (.int 1) k p1) p2)) p3) (.ref a) (.ref s4.heap.objs.size)) (EP X pins σ Q) X.xe { s4 with heap := s4.heap.push { cls := .type "slice", data := .fields #[.none, .none, vs] } }
  refine tail_any (ops := [.ref a, .ref s4.heap.objs.size]) ht.typeIs (PyProof.Rows.slot_tuple_getitem.lookup) ?_ (by with_unfolding_all rfl)
  refine tuple_back ht (Heap.IsSliceOf.new _ .none .none vs) ps ?_ (by rw [List.size_toArray]; omega)
  refine ⟨.ref _, _, I5.laid (t' := s4.toks) (o := .tup xs.reverse) (fun b ob q => Heap.get?_push_of_some _ q) (Nat.le_refl _) ?_, rfl, q _ (I5.hok.fresh (Nat.le_refl _))⟩
  exact ⟨by rw [List.length_reverse]; exact hz, _, r.reverse, IsTup.new _ _⟩
end
section
variable {X : Cx} {b : Bs} {e : Expr} {pos : Pos} {Φ : Phi} {gv : Nat → D}
theorem je_slR {a : IE} {k : Nat} {p1 p2 p3 : Pos} (hK : X.K = b.cs.K) (ha : JE X b e (sem Φ gv a)) : JE X b (.Subscript e (.Slice none none (some (.UnaryOp .USub (.Constant (.int 1) k p1) p2)) p3) pos) (sem Φ gv (.slR a)) := by
  have both : PE X (.Subscript e (.Slice none none (some (.UnaryOp .USub (.Constant (.int 1) k p1) p2)) p3) pos) (fun σ H Q => tRevL X.K (tEv b (sem Φ gv a).ev) σ H Q ∨ tRevT X.K (tEv b (sem Φ gv a).ev) σ H Q) :=
    ⟨fun pins s σ H Q I q => q.elim ((pe_revL ha.ev).run pins s σ H Q I) ((pe_revT ha.ev).run pins s σ H Q I)⟩
  refine JE.of hK (both.wk fun σ H Q ⟨env, G, own, d, env', q, S, kk⟩ => ?_) bare_sub
  obtain ⟨⟨o, x, w⟩, h1, q⟩ := Option.bind_eq_some_iff.mp q
  obtain ⟨d', h2, h3⟩ := Option.map_eq_some_iff.mp q
  cases h3
  unfold revD at h2
  simp only at h2
  split at h2
  · cases h2
    refine .inl (use h1 S fun v1 H1 G1 g1 S1 r1 => ?_)
    cases r1 with
    | lst hl r => exact ⟨_, _, rfl, .of (S1.ex _ _ hl), fun p hp => (kk.step g1).lstN S1 r.rev hp⟩
  · cases h2
    refine .inr (use h1 S fun v1 H1 G1 g1 S1 r1 => ?_)
    cases r1 with
    | tup ht r => exact ⟨_, _, rfl, by rw [hK]; exact SqT.seen S1 ht, fun p hp => (kk.step g1).tupN S1 r.rev hp⟩
  · cases h2
end
end PD
/-! Which syntax an expression of data matches. -/
namespace PD
open PySem L2
def visB (sc : Scope) (x : Str) : Bool := match sc.names.lookup x with
  | some .local => true
  | some .cell => true
  | some .free => true
  | _ => false
def locB (sc : Scope) (x : Str) : Bool := match sc.names.lookup x with
  | some .local => true
  | some .cell => true
  | _ => false
def glB (sc : Scope) (x : Str) : Bool := match sc.names.lookup x with
  | some .globalImplicit => true
  | _ => false
def nmB (N : List Str) (i : Nat) (x : Str) : Bool := decide (N[i]? = some x)
def plainN (x : Str) : Bool := !(x == ("__debug__" : Str)) && !(x == ("__classdict__" : Str))
def varB (N : List Str) (sc : Scope) (i : Nat) : Expr → Bool
  | .Name x _ => nmB N i x && visB sc x && plainN x
  | _ => false
def noSet : Expr → Bool
  | .Set .. => false
  | _ => true
theorem noSet_ok {e : Expr} (h : noSet e = true) (env : PySem.Env) : ∀ x, foldedSetIterable e env x = pure x := by
  intro x
  cases e <;> first | rfl | cases h
def ownOf : TGt → Expr → List (Str × Nat)
  | .one i, .Name x _ => [(x, i)]
  | .two i j, .Tuple [.Name x _, .Name y _] _ _ => [(x, i), (y, j)]
  | _, _ => []
/-- a target of a walk -/
def tgB (N : List Str) (sc : Scope) : TGt → Expr → Bool
  | .one i, .Name x _ => nmB N i x && locB sc x
  | .two i j, .Tuple [.Name x _, .Name y _] _ _ => nmB N i x && locB sc x && nmB N j y && locB sc y
  | _, _ => false
structure CkF where
  e : Expr → Bool
  an : List Expr → Bool
  orr : List Expr → Bool
def CkF.of (f : Expr → Bool) : CkF where
  e := f
  an := fun l => match l with | [x] => f x | _ => false
  orr := fun l => match l with | [x] => f x | _ => false
def opB (a b : Operator) : Bool := match a, b with
  | .Add, .Add => true
  | .Sub, .Sub => true
  | .Mult, .Mult => true
  | .Mod, .Mod => true
  | .FloorDiv, .FloorDiv => true
  | .Pow, .Pow => true
  | _, _ => false
def cmB (a b : CmpOp) : Bool := match a, b with
  | .Eq, .Eq => true
  | .NotEq, .NotEq => true
  | .Lt, .Lt => true
  | .LtE, .LtE => true
  | .Gt, .Gt => true
  | .GtE, .GtE => true
  | .In, .In => true
  | .NotIn, .NotIn => true
  | .Is, .Is => true
  | .IsNot, .IsNot => true
  | _, _ => false
theorem opB_eq {a b : Operator} (h : opB a b = true) : a = b := by
  cases a <;> cases b <;> first | rfl | cases h
theorem cmB_eq {a b : CmpOp} (h : cmB a b = true) : a = b := by
  cases a <;> cases b <;> first | rfl | cases h
def notOdd : Expr → Bool
  | .Starred .. => false
  | .Slice .. => false
  | _ => true
/-- the tables alone -/
structure Tb where
  W : List Str
  fnm : Nat → Option Str
  gnm : Nat → Option Str
  gdm : Nat → Option Str
abbrev Tx.tb (T : Tx) : Tb := ⟨T.W, T.fnm, T.gnm, T.gdm⟩
section
variable (T : Tb) (N : List Str)
mutual
def ck : IE → Scope → CkF
  | .never, sc => CkF.of notOdd
  | .var i, sc => CkF.of (varB N sc i)
  | .cI j, sc => CkF.of fun e => match e with | .Constant (.int k) _ _ => decide (j = k) | _ => false
  | .cB j, sc => CkF.of fun e => match e with | .Constant (.bool k) _ _ => decide (j = k) | _ => false
  | .cN, sc => CkF.of fun e => match e with | .Constant .none _ _ => true | _ => false
  | .cW j, sc => CkF.of fun e => match e with | .Constant (.str k) _ _ => decide (T.W[j]? = some k) | _ => false
  | .gl g, sc => CkF.of fun e => match e with | .Name x _ => decide (T.gnm g = some x) && glB sc x && plainN x | _ => false
  | .bin op a c, sc => CkF.of fun e => match e with | .BinOp x o y _ => opB (pOp op) o && (ck a sc).e x && (ck c sc).e y | _ => false
  | .neg a, sc => CkF.of fun e => match e with | .UnaryOp .USub x _ => (ck a sc).e x | _ => false
  | .cmp op a c, sc => CkF.of fun e => match e with | .Compare x [o] [y] _ => cmB (pCmp op) o && !behindInMarks (pCmp op) y && (ck a sc).e x && (ck c sc).e y | _ => false
  | .ch o1 o2 a c d, sc => CkF.of fun e => match e with
      | .Compare x [p1, p2] [y, z] _ => cmB (pCmp o1) p1 && cmB (pCmp o2) p2 && !lastMarks [pCmp o1, pCmp o2] [y, z] && (ck a sc).e x && (ck c sc).e y && (ck d sc).e z
      | _ => false
  | .and_ a c, sc =>
      let f := fun e => match e with | .BoolOp .And (x :: y :: r) _ => (ck a sc).e x && (ck c sc).an (y :: r) | _ => false
      { CkF.of f with an := fun l => match l with | [x] => f x | x :: y :: r => (ck a sc).e x && (ck c sc).an (y :: r) | _ => false }
  | .or_ a c, sc =>
      let f := fun e => match e with | .BoolOp .Or (x :: y :: r) _ => (ck a sc).e x && (ck c sc).orr (y :: r) | _ => false
      { CkF.of f with orr := fun l => match l with | [x] => f x | x :: y :: r => (ck a sc).e x && (ck c sc).orr (y :: r) | _ => false }
  | .not_ a, sc => CkF.of fun e => match e with | .UnaryOp .Not x _ => (ck a sc).e x | _ => false
  | .ite c a d, sc => CkF.of fun e => match e with | .IfExp x y z _ => (ck c sc).e x && (ck a sc).e y && (ck d sc).e z | _ => false
  | .tup es, sc => CkF.of fun e => match e with | .Tuple xs _ _ => decide (xs.length ≤ 1000) && cks es sc xs | _ => false
  | .lst es, sc => CkF.of fun e => match e with | .List xs _ => decide (xs.length ≤ 1000) && cks es sc xs | _ => false
  | .dnew, sc => CkF.of fun e => match e with | .Dict [] [] _ => true | _ => false
  | .idx a c, sc => CkF.of fun e => match e with | .Subscript x y _ => (ck a sc).e x && (ck c sc).e y | _ => false
  | .idxV i c, sc => CkF.of fun e => match e with | .Subscript x y _ => varB N sc i x && (ck c sc).e y | _ => false
  | .slL a lo, sc => CkF.of fun e => match e with | .Subscript x (.Slice (some y) none none _) _ => (ck a sc).e x && (ck lo sc).e y | _ => false
  | .slU a hi, sc => CkF.of fun e => match e with | .Subscript x (.Slice none (some y) none _) _ => (ck a sc).e x && (ck hi sc).e y | _ => false
  | .slB a lo hi, sc => CkF.of fun e => match e with | .Subscript x (.Slice (some y) (some z) none _) _ => (ck a sc).e x && (ck lo sc).e y && (ck hi sc).e z | _ => false
  | .slR a, sc => CkF.of fun e => match e with | .Subscript x (.Slice none none (some (.UnaryOp .USub (.Constant (.int c) _ _) _)) _) _ => decide (c = 1) && (ck a sc).e x | _ => false
  | .call f es, sc => CkF.of fun e => match e with | .Call (.Name x _) xs [] _ => decide (T.fnm f = some x) && glB sc x && plainN x && cks es sc xs | _ => false
  | .bi i a, sc => CkF.of fun e => match e with | .Call (.Name x _) [y] [] _ => decide (x = biName i) && glB sc x && (ck a sc).e y | _ => false
  | .b2 i a c, sc => CkF.of fun e => match e with | .Call (.Name x _) [y, z] [] _ => decide (x = b2Name i) && glB sc x && (ck a sc).e y && (ck c sc).e z | _ => false
  | .isi t a, sc => CkF.of fun e => match e with | .Call (.Name x _) [y, .Name z _] [] _ => decide (x = ("isinstance" : Str)) && glB sc x && decide (z = tyName t) && glB sc z && (ck a sc).e y | _ => false
  | .tupR a, sc => CkF.of fun e => match e with | .Call (.Name x _) [.Call (.Name z _) [y] [] _] [] _ => decide (x = ("tuple" : Str)) && glB sc x && decide (z = ("range" : Str)) && glB sc z && (ck a sc).e y | _ => false
  | .lstR a, sc => CkF.of fun e => match e with | .Call (.Name x _) [.Call (.Name z _) [y] [] _] [] _ => decide (x = ("list" : Str)) && glB sc x && decide (z = ("range" : Str)) && glB sc z && (ck a sc).e y | _ => false
  | .comp t it cs a, sc => CkF.of fun e => match e with
      | .ListComp el [⟨tg, iter, ifs, z⟩] scope _ => decide (z = 0) && tgB N scope t tg && ckI it sc iter && decide (ifs.length ≤ 1) && cks cs scope ifs &&
          (ck a scope).e el && blkC N sc scope (ownOf t tg) && noSet iter
      | _ => false
  | .dget i k, sc => CkF.of fun e => match e with | .Subscript x y _ => varB N sc i x && (ck k sc).e y | _ => false
  | .gget g k, sc => CkF.of fun e => match e with | .Subscript (.Name x _) y _ => decide (T.gdm g = some x) && glB sc x && plainN x && (ck k sc).e y | _ => false
  | .din neg a i, sc => CkF.of fun e => match e with | .Compare x [o] [y] _ => cmB (if neg then .NotIn else .In) o && !behindInMarks (if neg then .NotIn else .In) y && (ck a sc).e x && varB N sc i y | _ => false
  | .app i a, sc => CkF.of fun e => match e with | .Call (.Attribute x m ap) [y] [] pos => decide (m = ("append" : Str)) && (ap.endLine == pos.line) && varB N sc i x && (ck a sc).e y | _ => false
  | .ext i a, sc => CkF.of fun e => match e with | .Call (.Attribute x m ap) [y] [] pos => decide (m = ("extend" : Str)) && (ap.endLine == pos.line) && varB N sc i x && (ck a sc).e y | _ => false
  | .popAt i a, sc => CkF.of fun e => match e with | .Call (.Attribute x m ap) [y] [] pos => decide (m = ("pop" : Str)) && (ap.endLine == pos.line) && varB N sc i x && (ck a sc).e y | _ => false
  | .pop i, sc => CkF.of fun e => match e with | .Call (.Attribute x m ap) [] [] pos => decide (m = ("pop" : Str)) && (ap.endLine == pos.line) && varB N sc i x | _ => false
  | .clear i, sc => CkF.of fun e => match e with | .Call (.Attribute x m ap) [] [] pos => decide (m = ("clear" : Str)) && (ap.endLine == pos.line) && varB N sc i x | _ => false
def cks : IEs → Scope → List Expr → Bool
  | .nil, sc => fun l => match l with | [] => true | _ => false
  | .cons a r, sc => fun l => match l with | x :: xs => (ck a sc).e x && cks r sc xs | _ => false
def ckI : IT → Scope → Expr → Bool
  | .seq a, sc => fun e => (ck a sc).e e
  | .rng1 a, sc => fun e => match e with | .Call (.Name x _) [y] [] _ => decide (x = ("range" : Str)) && glB sc x && (ck a sc).e y | _ => false
  | .rng2 a c, sc => fun e => match e with | .Call (.Name x _) [y, z] [] _ => decide (x = ("range" : Str)) && glB sc x && (ck a sc).e y && (ck c sc).e z | _ => false
end
end
end PD
namespace PD
open PySem L2
section
variable {T : Tx} {N : List Str} {n : Nat} {Φ : Phi}
structure Snd (T : Tx) (N : List Str) (n : Nat) (Φ : Phi) (a : IE) : Prop where
  e : ∀ (X : Cx) (sc : Scope) (b : Bs), Gx T X N sc n → b.cs = T.cs → ∀ x, (ck T.tb N a sc).e x = true → JE X b x (sem Φ T.gv a)
  an : ∀ (X : Cx) (sc : Scope) (b : Bs), Gx T X N sc n → b.cs = T.cs → ∀ (x : Expr) (r : List Expr) (pos : Pos), (ck T.tb N a sc).an (x :: r) = true → JB X b (.BoolOp .And (x :: r) pos) (sem Φ T.gv a)
  orr : ∀ (X : Cx) (sc : Scope) (b : Bs), Gx T X N sc n → b.cs = T.cs → ∀ (x : Expr) (r : List Expr) (pos : Pos), (ck T.tb N a sc).orr (x :: r) = true → JB X b (.BoolOp .Or (x :: r) pos) (sem Φ T.gv a)
theorem Snd.of {a : IE} (f : Scope → Expr → Bool) (hf : ∀ sc, ck T.tb N a sc = CkF.of (f sc)) (h : ∀ (X : Cx) (sc : Scope) (b : Bs), Gx T X N sc n → b.cs = T.cs → ∀ x, f sc x = true → JE X b x (sem Φ T.gv a)) : Snd T N n Φ a where
  e := fun X sc b g hb x hx => h X sc b g hb x (by rw [hf] at hx; exact hx)
  an := fun X sc b g hb x r pos hx => by
    rw [hf] at hx
    cases r with
    | nil => exact jb_and1 (h X sc b g hb x hx)
    | cons _ _ => cases hx
  orr := fun X sc b g hb x r pos hx => by
    rw [hf] at hx
    cases r with
    | nil => exact jb_or1 (h X sc b g hb x hx)
    | cons _ _ => cases hx
variable {X : Cx} {sc : Scope} {b : Bs} {i : Nat} {x : Expr} {y : Str}
theorem Gx.hK (g : Gx T X N sc n) (hb : b.cs = T.cs) : X.K = b.cs.K := by rw [g.K, hb]
theorem vis_of (g : Gx T X N sc n) (h : visB sc y = true) : Vis X.env.scope y := by
  unfold visB at h
  rcases g.scp y with e | ⟨_, e⟩
  · unfold Vis
    rw [e]
    split at h
    · exact .inl (by assumption)
    · exact .inr (.inl (by assumption))
    · exact .inr (.inr (by assumption))
    · cases h
  · exact .inr (.inl e)
theorem loc_of (h : locB sc y = true) : L2.Loc sc y := by
  unfold locB at h
  split at h
  · exact .inl (by assumption)
  · exact .inr (by assumption)
  · cases h
theorem locX (g : Gx T X N sc n) (h : L2.Loc sc y) : L2.Loc X.env.scope y := by
  unfold L2.Loc at h ⊢
  rcases g.scp y with e | ⟨e, _⟩
  · rw [e]
    exact h
  · rw [e] at h
    rcases h with h | h <;> cases h
theorem gl_of (g : Gx T X N sc n) (h : glB sc y = true) : Gl X y := by
  show X.env.scope.names.lookup y = some .globalImplicit
  unfold glB at h
  split at h
  · rename_i e
    rcases g.scp y with q | ⟨q, _⟩
    · rw [q]; exact e
    · rw [e] at q; cases q
  · cases h
theorem plain_of (h : plainN y = true) : (y == ("__debug__" : Str)) = false ∧ (y == ("__classdict__" : Str)) = false := by
  unfold plainN at h
  rw [Bool.and_eq_true] at h
  exact ⟨by simpa using h.1, by simpa using h.2⟩
theorem nm_of (g : Gx T X N sc n) (h : nmB N i y = true) : X.N[i]? = some y := by
  rw [g.ns]
  exact of_decide_eq_true h
theorem var_of (g : Gx T X N sc n) (h : varB N sc i x = true) : PE X x (tVar i) ∧ Bare X x ∧ ∃ y p, x = .Name y p := by
  unfold varB at h
  split at h
  · rename_i y p
    rw [Bool.and_eq_true, Bool.and_eq_true] at h
    obtain ⟨⟨h1, h2⟩, h3⟩ := h
    obtain ⟨p1, p2⟩ := plain_of h3
    exact ⟨pe_var (nm_of g h1) (vis_of g h2) p1 p2, bare_name, y, p, rfl⟩
  · cases h
theorem mg_of' (ok : TOk T) (g : Gx T X N sc n) (h : y ∈ bltNames) : X.mg y = none := by
  rw [g.mg]
  exact ok.blt y h
theorem tg_of (g : Gx T X N sc n) {t : TGt} (h : tgB N sc t x = true) : PG X x (gT T.K t) := by
  unfold tgB at h
  split at h
  · rw [Bool.and_eq_true] at h
    have l := loc_of h.2
    exact pg_name (by rw [g.ns]; exact g.nd) (nm_of g h.1) (locX g l) (g.fnok _ l)
  · rw [Bool.and_eq_true, Bool.and_eq_true, Bool.and_eq_true] at h
    obtain ⟨⟨⟨h1, h2⟩, h3⟩, h4⟩ := h
    have l1 := loc_of h2
    have l2 := loc_of h4
    have hN : X.N.Nodup := by rw [g.ns]; exact g.nd
    show PG X _ (gTup T.K 2 (gCons (gName _) (gCons (gName _) gNil)))
    rw [← g.K]
    exact pg_tup g.calm (pgs_cons (pg_name hN (nm_of g h1) (locX g l1) (g.fnok _ l1)) (pgs_cons (pg_name hN (nm_of g h3) (locX g l2) (g.fnok _ l2)) pgs_nil)) rfl rfl
  · cases h
theorem relabel_at {env : PySem.Env} : ∀ (l : List (Str × NameKind)) (x : Str), (l.map fun (n, k) => if (k == NameKind.free && env.scope.kind == .function && env.kindOf n == some .cell) then (n, NameKind.cell) else (n, k)).lookup x = l.lookup x ∨
    (l.lookup x = some .free ∧ (l.map fun (n, k) => if (k == NameKind.free && env.scope.kind == .function && env.kindOf n == some .cell) then (n, NameKind.cell) else (n, k)).lookup x = some .cell)
  | [], _ => .inl rfl
  | (m, k) :: r, x => by
    have ih := relabel_at (env := env) r x
    rw [List.map_cons]
    by_cases e : x = m
    · subst e
      by_cases c : (k == NameKind.free && env.scope.kind == .function && env.kindOf x == some .cell) = true
      · refine .inr ⟨?_, ?_⟩
        · rw [List.lookup_cons_self]
          rw [Bool.and_eq_true, Bool.and_eq_true] at c
          rw [eq_of_beq c.1.1]
        · simp only [c, if_true]
          exact List.lookup_cons_self
      · refine .inl ?_
        simp only [c, if_neg Bool.false_ne_true]
        exact (List.lookup_cons_self (k := x) (b := k)).trans (List.lookup_cons_self (k := x) (b := k)).symm
    · have ne : (x == m) = false := beq_eq_false_iff_ne.mpr e
      have h1 : ∀ k' : NameKind, List.lookup x ((m, k') :: r) = r.lookup x := fun k' => by
        rw [List.lookup_cons, ne]
      have h2 : ∀ (k' : NameKind) (l : List (Str × NameKind)), List.lookup x ((m, k') :: l) = l.lookup x := fun k' l => by
        rw [List.lookup_cons, ne]
      rw [h1]
      by_cases c : (k == NameKind.free && env.scope.kind == .function && env.kindOf m == some .cell) = true
      · simp only [c, if_true]
        rw [h2]
        exact ih
      · simp only [c, if_neg Bool.false_ne_true]
        rw [h2]
        exact ih
theorem Gx.blk (g : Gx T X N sc n) (s : Shared) (H : Hp) (scope : Scope) (C : Addr) (cl : List (Str × Addr)) (fp : List Addr) : Gx T (X.blk s H scope (compEnvC scope cl C X.env) fp) N scope n where
  prog := g.prog
  wld := g.wld
  K := g.K
  mg := g.mg
  base := g.base
  ns := g.ns
  scp := fun x => relabel_at scope.names x
  nd := g.nd
  calm := g.calm
  guards := g.guards
  room := g.room
  never := rfl
  fnok := fun x hx => by
    rcases hx with h | h
    · refine .inr ?_
      rcases relabel_at (env := X.env) scope.names x with q | ⟨q, _⟩
      · exact q.trans h
      · rw [h] at q; cases q
    · refine .inl ?_
      show (scope.names.lookup x == some .cell) = true
      rw [h]
      rfl

/-! ### every expression that matches -/
theorem je_never {x : Expr} (h : notOdd x = true) : JE X b x (sem Φ T.gv .never) where
  ev := ⟨fun pins s σ H Q I ⟨env, G, own, d, env', q, S, k⟩ => nomatch q⟩
  lk := ⟨fun pins s σ H Q I ⟨env, G, d, env', q, S, k⟩ => nomatch q⟩
  t := ⟨fun pins s σ H Q I ⟨env, G, d, env', q, S, k⟩ => nomatch q⟩
  ar := ⟨fun pins s σ H Q I ⟨env, G, d, env', q, S, k⟩ => nomatch q⟩
  ns := fun es env => by cases x <;> first | rfl | cases h
  ix := fun o i => by cases x <;> first | rfl | cases h
theorem blk_ok {scope : Scope} {own : List (Str × Nat)} (g : Gx T X N sc n) (h : blkC N sc scope own = true) : BlkOk X.N X.env.scope scope own := by
  obtain ⟨h1, h2, h3, h4, h5⟩ := blkOk_by h
  rw [g.ns]
  refine ⟨h1, h2, h3, fun y hy e => ?_, h5⟩
  rcases g.scp y.1 with q | ⟨_, q⟩
  · rw [q]; exact h4 y hy e
  · exact .inl q
abbrev Cal (T : Tx) (n : Nat) (Φ : Phi) : Prop := ∀ f x, T.fnm f = some x → FnG T n x (Φ f)
mutual
theorem snd (ok : TOk T) (F : Cal T n Φ) : ∀ a : IE, Snd T N n Φ a
  | .never => Snd.of (fun _ => notOdd) (fun _ => rfl) fun X sc b g hb x h => je_never h
  | .var i => Snd.of (fun sc => varB N sc i) (fun _ => rfl) fun X sc b g hb x h => by
    obtain ⟨h1, h2, _⟩ := var_of g h
    exact JE.va (g.hK hb) h1 h2
  | .cI j => Snd.of _ (fun _ => rfl) fun X sc b g hb x h => by
    try dsimp only at h
    split at h
    · have e := of_decide_eq_true h
      subst e
      exact JE.co (g.hK hb) pe_int bare_const fun G => .int _
    · cases h
  | .cB j => Snd.of _ (fun _ => rfl) fun X sc b g hb x h => by
    try dsimp only at h
    split at h
    · have e := of_decide_eq_true h
      subst e
      exact JE.co (g.hK hb) pe_bl bare_const fun G => .bl _
    · cases h
  | .cN => Snd.of _ (fun _ => rfl) fun X sc b g hb x h => by
    try dsimp only at h
    split at h
    · exact JE.co (g.hK hb) pe_non bare_const fun G => .non
    · cases h
  | .cW j => Snd.of _ (fun _ => rfl) fun X sc b g hb x h => by
    try dsimp only at h
    split at h
    · have e := of_decide_eq_true h
      exact JE.co (g.hK hb) pe_str bare_const fun G => .w (by rw [hb]; exact e)
    · cases h
  | .gl k => Snd.of _ (fun _ => rfl) fun X sc b g hb x h => by
    try dsimp only at h
    split at h
    · simp only [Bool.and_eq_true] at h
      obtain ⟨⟨h1, h2⟩, h3⟩ := h
      obtain ⟨v, u, m, r, q⟩ := ok.glob k _ (of_decide_eq_true h1)
      exact JE.co (g.hK hb) (pe_glob (gl_of g h2) (by rw [g.mg]; exact m) r (plain_of h3).1) bare_name fun G => by rw [hb]; exact q G
    · cases h
  | .bin op a c => Snd.of _ (fun _ => rfl) fun X sc b g hb x h => by
    try dsimp only at h
    split at h
    · simp only [Bool.and_eq_true] at h
      obtain ⟨⟨h1, h2⟩, h3⟩ := h
      rw [← opB_eq h1]
      exact je_bin (g.hK hb) ((snd ok F a).e X sc b g hb _ h2) ((snd ok F c).e X sc b g hb _ h3)
    · cases h
  | .neg a => Snd.of _ (fun _ => rfl) fun X sc b g hb x h => by
    try dsimp only at h
    split at h
    · exact je_neg (g.hK hb) ((snd ok F a).e X sc b g hb _ h)
    · cases h
  | .cmp op a c => Snd.of _ (fun _ => rfl) fun X sc b g hb x h => by
    try dsimp only at h
    split at h
    · simp only [Bool.and_eq_true] at h
      obtain ⟨⟨⟨h1, h2⟩, h3⟩, h4⟩ := h
      rw [← cmB_eq h1]
      exact je_cmp (g.hK hb) (by rw [hb]; exact ok.wok) g.units (by simpa using h2) ((snd ok F a).e X sc b g hb _ h3) ((snd ok F c).e X sc b g hb _ h4)
    · cases h
  | .ch o1 o2 a c d => Snd.of _ (fun _ => rfl) fun X sc b g hb x h => by
    try dsimp only at h
    split at h
    · simp only [Bool.and_eq_true] at h
      obtain ⟨⟨⟨⟨⟨h1, h2⟩, h3⟩, h4⟩, h5⟩, h6⟩ := h
      rw [← cmB_eq h1, ← cmB_eq h2]
      exact je_ch (g.hK hb) (by rw [hb]; exact ok.wok) g.units (by simpa using h3) ((snd ok F a).e X sc b g hb _ h4) ((snd ok F c).e X sc b g hb _ h5) ((snd ok F d).e X sc b g hb _ h6)
    · cases h
  | .and_ a c => by
    have tail : ∀ (X : Cx) (sc : Scope) (b : Bs), Gx T X N sc n → b.cs = T.cs → ∀ (x y : Expr) (r : List Expr) (pos : Pos), (ck T.tb N a sc).e x = true → (ck T.tb N c sc).an (y :: r) = true → JB X b (.BoolOp .And (x :: y :: r) pos) (sem Φ T.gv (.and_ a c)) :=
      fun X sc b g hb x y r pos h1 h2 => jb_and ((snd ok F a).e X sc b g hb x h1) ((snd ok F c).an X sc b g hb y r pos h2)
    have one : ∀ (X : Cx) (sc : Scope) (b : Bs), Gx T X N sc n → b.cs = T.cs → ∀ x, (ck T.tb N (.and_ a c) sc).e x = true → JE X b x (sem Φ T.gv (.and_ a c)) := by
      intro X sc b g hb x h
      simp only [ck, CkF.of] at h
      split at h
      · simp only [Bool.and_eq_true] at h
        exact je_and (tail X sc b g hb _ _ _ _ h.1 h.2)
      · cases h
    refine ⟨one, fun X sc b g hb x r pos h => ?_, fun X sc b g hb x r pos h => ?_⟩
    · cases r with
      | nil => exact jb_and1 (one X sc b g hb x h)
      | cons y r =>
        have h : ((ck T.tb N a sc).e x && (ck T.tb N c sc).an (y :: r)) = true := h
        simp only [Bool.and_eq_true] at h
        exact tail X sc b g hb _ _ _ _ h.1 h.2
    · cases r with
      | nil => exact jb_or1 (one X sc b g hb x h)
      | cons y r => cases h
  | .or_ a c => by
    have tail : ∀ (X : Cx) (sc : Scope) (b : Bs), Gx T X N sc n → b.cs = T.cs → ∀ (x y : Expr) (r : List Expr) (pos : Pos), (ck T.tb N a sc).e x = true → (ck T.tb N c sc).orr (y :: r) = true → JB X b (.BoolOp .Or (x :: y :: r) pos) (sem Φ T.gv (.or_ a c)) :=
      fun X sc b g hb x y r pos h1 h2 => jb_or ((snd ok F a).e X sc b g hb x h1) ((snd ok F c).orr X sc b g hb y r pos h2)
    have one : ∀ (X : Cx) (sc : Scope) (b : Bs), Gx T X N sc n → b.cs = T.cs → ∀ x, (ck T.tb N (.or_ a c) sc).e x = true → JE X b x (sem Φ T.gv (.or_ a c)) := by
      intro X sc b g hb x h
      simp only [ck, CkF.of] at h
      split at h
      · simp only [Bool.and_eq_true] at h
        exact je_or (tail X sc b g hb _ _ _ _ h.1 h.2)
      · cases h
    refine ⟨one, fun X sc b g hb x r pos h => ?_, fun X sc b g hb x r pos h => ?_⟩
    · cases r with
      | nil => exact jb_and1 (one X sc b g hb x h)
      | cons y r => cases h
    · cases r with
      | nil => exact jb_or1 (one X sc b g hb x h)
      | cons y r =>
        have h : ((ck T.tb N a sc).e x && (ck T.tb N c sc).orr (y :: r)) = true := h
        simp only [Bool.and_eq_true] at h
        exact tail X sc b g hb _ _ _ _ h.1 h.2
  | .not_ a => Snd.of _ (fun _ => rfl) fun X sc b g hb x h => by
    try dsimp only at h
    split at h
    · exact je_not ((snd ok F a).e X sc b g hb _ h)
    · cases h
  | .ite c a d => Snd.of _ (fun _ => rfl) fun X sc b g hb x h => by
    try dsimp only at h
    split at h
    · simp only [Bool.and_eq_true] at h
      obtain ⟨⟨h1, h2⟩, h3⟩ := h
      exact je_ite ((snd ok F c).e X sc b g hb _ h1) ((snd ok F a).e X sc b g hb _ h2) ((snd ok F d).e X sc b g hb _ h3)
    · cases h
  | .tup es => Snd.of _ (fun _ => rfl) fun X sc b g hb x h => by
    try dsimp only at h
    split at h
    · simp only [Bool.and_eq_true] at h
      exact je_tup (g.hK hb) (of_decide_eq_true h.1) (snds ok F es X sc b g hb _ h.2)
    · cases h
  | .lst es => Snd.of _ (fun _ => rfl) fun X sc b g hb x h => by
    try dsimp only at h
    split at h
    · simp only [Bool.and_eq_true] at h
      exact je_lst (g.hK hb) (of_decide_eq_true h.1) (snds ok F es X sc b g hb _ h.2)
    · cases h
  | .dnew => Snd.of _ (fun _ => rfl) fun X sc b g hb x h => by
    try dsimp only at h
    split at h
    · exact je_dnew (g.hK hb)
    · cases h
  | .idx a c => Snd.of _ (fun _ => rfl) fun X sc b g hb x h => by
    try dsimp only at h
    split at h
    · simp only [Bool.and_eq_true] at h
      exact je_idx (g.hK hb) ((snd ok F a).e X sc b g hb _ h.1) ((snd ok F c).e X sc b g hb _ h.2)
    · cases h
  | .idxV i c => Snd.of _ (fun _ => rfl) fun X sc b g hb x h => by
    try dsimp only at h
    split at h
    · simp only [Bool.and_eq_true] at h
      exact je_idxV (g.hK hb) (var_of g h.1).1 ((snd ok F c).e X sc b g hb _ h.2)
    · cases h
  | .slL a c => Snd.of _ (fun _ => rfl) fun X sc b g hb x h => by
    try dsimp only at h
    split at h
    · simp only [Bool.and_eq_true] at h
      exact je_slL (g.hK hb) ((snd ok F a).e X sc b g hb _ h.1) ((snd ok F c).e X sc b g hb _ h.2)
    · cases h
  | .slU a c => Snd.of _ (fun _ => rfl) fun X sc b g hb x h => by
    try dsimp only at h
    split at h
    · simp only [Bool.and_eq_true] at h
      exact je_slU (g.hK hb) ((snd ok F a).e X sc b g hb _ h.1) ((snd ok F c).e X sc b g hb _ h.2)
    · cases h
  | .slB a c d => Snd.of _ (fun _ => rfl) fun X sc b g hb x h => by
    try dsimp only at h
    split at h
    · simp only [Bool.and_eq_true] at h
      exact je_slB (g.hK hb) ((snd ok F a).e X sc b g hb _ h.1.1) ((snd ok F c).e X sc b g hb _ h.1.2) ((snd ok F d).e X sc b g hb _ h.2)
    · cases h
  | .slR a => Snd.of _ (fun _ => rfl) fun X sc b g hb x h => by
    try dsimp only at h
    split at h
    · simp only [Bool.and_eq_true] at h
      have e := of_decide_eq_true h.1
      subst e
      exact je_slR (g.hK hb) ((snd ok F a).e X sc b g hb _ h.2)
    · cases h
  | .call f es => Snd.of _ (fun _ => rfl) fun X sc b g hb x h => by
    try dsimp only at h
    split at h
    · simp only [Bool.and_eq_true] at h
      obtain ⟨⟨⟨h1, h2⟩, h3⟩, h4⟩ := h
      have Ff := F f _ (of_decide_eq_true h1)
      have ja := snds ok F es X sc b g hb _ h4
      rename_i xs pos
      cases xs with
      | nil =>
        cases es with
        | nil => exact je_call0 g hb Ff (gl_of g h2) (plain_of h3).1
        | cons _ _ => cases h4
      | cons y ys =>
        cases es with
        | nil => cases h4
        | cons a r =>
          have hh : ((ck T.tb N a sc).e y && cks T.tb N r sc ys) = true := h4
          simp only [Bool.and_eq_true] at hh
          exact je_call g hb Ff (gl_of g h2) (plain_of h3).1 (((snd ok F a).e X sc b g hb _ hh.1).ns _ _) ja
    · cases h
  | .bi i a => Snd.of _ (fun _ => rfl) fun X sc b g hb x h => by
    try dsimp only at h
    split at h
    · simp only [Bool.and_eq_true] at h
      obtain ⟨⟨h1, h2⟩, h3⟩ := h
      have e := of_decide_eq_true h1
      subst e
      exact je_bi (g.hK hb) (by rw [hb]; exact ok.wok) (cr_bi g.calm g.units g.guards cr_sortT i) (gl_of g h2) (mg_of' ok g (bi_mem i)) ((snd ok F a).e X sc b g hb _ h3)
    · cases h
  | .b2 i a c => Snd.of _ (fun _ => rfl) fun X sc b g hb x h => by
    try dsimp only at h
    split at h
    · simp only [Bool.and_eq_true] at h
      obtain ⟨⟨⟨h1, h2⟩, h3⟩, h4⟩ := h
      have e := of_decide_eq_true h1
      subst e
      exact je_b2 (g.hK hb) g.calm (gl_of g h2) (mg_of' ok g (by cases i <;> decide +kernel)) ((snd ok F a).e X sc b g hb _ h3) ((snd ok F c).e X sc b g hb _ h4)
    · cases h
  | .isi t a => Snd.of _ (fun _ => rfl) fun X sc b g hb x h => by
    try dsimp only at h
    split at h
    · simp only [Bool.and_eq_true] at h
      obtain ⟨⟨⟨⟨h1, h2⟩, h3⟩, h4⟩, h5⟩ := h
      have e := of_decide_eq_true h1
      subst e
      have e := of_decide_eq_true h3
      subst e
      exact je_isi (g.hK hb) (gl_of g h2) (mg_of' ok g (by decide +kernel)) (gl_of g h4) (mg_of' ok g (by cases t <;> decide +kernel)) ((snd ok F a).e X sc b g hb _ h5)
    · cases h
  | .tupR a => Snd.of _ (fun _ => rfl) fun X sc b g hb x h => by
    try dsimp only at h
    split at h
    · simp only [Bool.and_eq_true] at h
      obtain ⟨⟨⟨⟨h1, h2⟩, h3⟩, h4⟩, h5⟩ := h
      have e := of_decide_eq_true h1
      subst e
      have e := of_decide_eq_true h3
      subst e
      exact je_tupR (g.hK hb) g.calm (gl_of g h2) (mg_of' ok g (by decide +kernel)) (gl_of g h4) (mg_of' ok g (by decide +kernel)) ((snd ok F a).e X sc b g hb _ h5)
    · cases h
  | .lstR a => Snd.of _ (fun _ => rfl) fun X sc b g hb x h => by
    try dsimp only at h
    split at h
    · simp only [Bool.and_eq_true] at h
      obtain ⟨⟨⟨⟨h1, h2⟩, h3⟩, h4⟩, h5⟩ := h
      have e := of_decide_eq_true h1
      subst e
      have e := of_decide_eq_true h3
      subst e
      exact je_lstR (g.hK hb) g.calm (gl_of g h2) (mg_of' ok g (by decide +kernel)) (gl_of g h4) (mg_of' ok g (by decide +kernel)) ((snd ok F a).e X sc b g hb _ h5)
    · cases h
  | .comp t it cs a => Snd.of _ (fun _ => rfl) fun X sc b g hb x h => by
    try dsimp only at h
    split at h
    · rename_i el tg iter ifs z scope pos
      simp only [Bool.and_eq_true] at h
      obtain ⟨⟨⟨⟨⟨⟨⟨h1, h2⟩, h3⟩, h0⟩, h4⟩, h5⟩, h6⟩, h7⟩ := h
      have e := of_decide_eq_true h1
      subst e
      refine JE.of (g.hK hb) ?_ bare_comp
      refine je_comp g.K hb g.calm (by rw [g.ns]; exact g.nd) (sndI ok F it X sc b g hb tg iter h3) (blk_ok g h6) ?_ ?_ ?_ ?_ (noSet_ok h7 _)
      · cases t with
        | one i =>
          unfold tgB at h2
          split at h2 <;> first | rfl | (rename_i q; cases q; done) | skip
          all_goals first | rfl | cases h2
        | two i j =>
          unfold tgB at h2
          split at h2 <;> first | rfl | (rename_i q; cases q; done) | skip
          all_goals first | rfl | cases h2
      · intro s H C cl fp
        exact tg_of (g.blk s H scope C cl fp) h2
      · intro s H C cl fp
        refine PTs.any fun b' hb' => ?_
        have gb := g.blk s H scope C cl fp
        have hl := of_decide_eq_true h0
        cases cs with
        | nil =>
          cases ifs with
          | nil => exact jt_nil
          | cons _ _ => cases h4
        | cons c r =>
          cases ifs with
          | nil => cases h4
          | cons y ys =>
            cases ys with
            | cons _ _ => simp at hl
            | nil =>
              cases r with
              | cons _ _ =>
                have hh : ((ck T.tb N c scope).e y && false) = true := h4
                simp at hh
              | nil =>
                have hh : ((ck T.tb N c scope).e y && true) = true := h4
                rw [Bool.and_true] at hh
                exact jt_one ((snd ok F c).e _ scope b' gb hb' _ hh)
      · intro s H C cl fp
        exact PE.any fun b' hb' => ((snd ok F a).e _ scope b' (g.blk s H scope C cl fp) hb' _ h5).ev
    · cases h
  | .dget i a => Snd.of _ (fun _ => rfl) fun X sc b g hb x h => by
    try dsimp only at h
    split at h
    · simp only [Bool.and_eq_true] at h
      exact je_dget (g.hK hb) (by rw [hb]; exact ok.wok) g.units (var_of g h.1).1 ((snd ok F a).e X sc b g hb _ h.2)
    · cases h
  | .gget k a => Snd.of _ (fun _ => rfl) fun X sc b g hb x h => by
    try dsimp only at h
    split at h
    · simp only [Bool.and_eq_true] at h
      obtain ⟨⟨⟨h1, h2⟩, h3⟩, h4⟩ := h
      obtain ⟨pa, ks, vs, e, m, q⟩ := ok.gdic k _ (of_decide_eq_true h1)
      exact je_gget (g.hK hb) (by rw [g.wld, hb]) e (pe_glob (gl_of g h2) (by rw [g.mg]; exact m) rfl (plain_of h3).1) (by rw [hb]; exact q) ((snd ok F a).e X sc b g hb _ h4)
    · cases h
  | .din neg a i => Snd.of _ (fun _ => rfl) fun X sc b g hb x h => by
    try dsimp only at h
    split at h
    · simp only [Bool.and_eq_true] at h
      obtain ⟨⟨⟨h1, h2⟩, h3⟩, h4⟩ := h
      rw [← cmB_eq h1]
      exact je_din (g.hK hb) (by rw [hb]; exact ok.wok) g.units (by simpa using h2) ((snd ok F a).e X sc b g hb _ h3) (var_of g h4).1
    · cases h
  | .app i a => Snd.of _ (fun _ => rfl) fun X sc b g hb x h => by
    try dsimp only at h
    split at h
    · simp only [Bool.and_eq_true] at h
      obtain ⟨⟨⟨h1, h2⟩, h3⟩, h4⟩ := h
      have e := of_decide_eq_true h1
      subst e
      obtain ⟨v1, _, y, p, rfl⟩ := var_of g h3
      exact je_app (g.hK hb) h2 v1 ((snd ok F a).e X sc b g hb _ h4)
    · cases h
  | .ext i a => Snd.of _ (fun _ => rfl) fun X sc b g hb x h => by
    try dsimp only at h
    split at h
    · simp only [Bool.and_eq_true] at h
      obtain ⟨⟨⟨h1, h2⟩, h3⟩, h4⟩ := h
      have e := of_decide_eq_true h1
      subst e
      obtain ⟨v1, _, y, p, rfl⟩ := var_of g h3
      exact je_ext (g.hK hb) h2 v1 ((snd ok F a).e X sc b g hb _ h4)
    · cases h
  | .popAt i a => Snd.of _ (fun _ => rfl) fun X sc b g hb x h => by
    try dsimp only at h
    split at h
    · simp only [Bool.and_eq_true] at h
      obtain ⟨⟨⟨h1, h2⟩, h3⟩, h4⟩ := h
      have e := of_decide_eq_true h1
      subst e
      obtain ⟨v1, _, y, p, rfl⟩ := var_of g h3
      exact je_popAt (g.hK hb) h2 v1 ((snd ok F a).e X sc b g hb _ h4)
    · cases h
  | .pop i => Snd.of _ (fun _ => rfl) fun X sc b g hb x h => by
    try dsimp only at h
    split at h
    · simp only [Bool.and_eq_true] at h
      obtain ⟨⟨h1, h2⟩, h3⟩ := h
      have e := of_decide_eq_true h1
      subst e
      obtain ⟨v1, _, y, p, rfl⟩ := var_of g h3
      exact je_pop (g.hK hb) h2 v1
    · cases h
  | .clear i => Snd.of _ (fun _ => rfl) fun X sc b g hb x h => by
    try dsimp only at h
    split at h
    · simp only [Bool.and_eq_true] at h
      obtain ⟨⟨h1, h2⟩, h3⟩ := h
      have e := of_decide_eq_true h1
      subst e
      obtain ⟨v1, _, y, p, rfl⟩ := var_of g h3
      exact je_clear (g.hK hb) h2 v1
    · cases h
theorem snds (ok : TOk T) (F : Cal T n Φ) : ∀ (a : IEs) (X : Cx) (sc : Scope) (b : Bs), Gx T X N sc n → b.cs = T.cs → ∀ xs, cks T.tb N a sc xs = true → JEs X b xs (sems Φ T.gv a)
  | .nil, X, sc, b, g, hb, xs, h => by
    cases xs with
    | nil => exact jes_nil
    | cons _ _ => cases h
  | .cons a r, X, sc, b, g, hb, xs, h => by
    cases xs with
    | nil => cases h
    | cons y ys =>
      have hh : ((ck T.tb N a sc).e y && cks T.tb N r sc ys) = true := h
      simp only [Bool.and_eq_true] at hh
      exact jes_cons ((snd ok F a).e X sc b g hb _ hh.1) (snds ok F r X sc b g hb ys hh.2)
theorem sndI (ok : TOk T) (F : Cal T n Φ) : ∀ (a : IT) (X : Cx) (sc : Scope) (b : Bs), Gx T X N sc n → b.cs = T.cs → ∀ tg x, ckI T.tb N a sc x = true → PI X tg x (tI b (semI Φ T.gv a))
  | .seq a, X, sc, b, g, hb, tg, x, h => ji_seq (g.hK hb) ((snd ok F a).e X sc b g hb x h)
  | .rng1 a, X, sc, b, g, hb, tg, x, h => by
    unfold ckI at h
    split at h
    · simp only [Bool.and_eq_true] at h
      obtain ⟨⟨h1, h2⟩, h3⟩ := h
      have e := of_decide_eq_true h1
      subst e
      exact ji_rng1 (gl_of g h2) (mg_of' ok g (by decide +kernel)) ((snd ok F a).e X sc b g hb _ h3)
    · cases h
  | .rng2 a c, X, sc, b, g, hb, tg, x, h => by
    unfold ckI at h
    split at h
    · simp only [Bool.and_eq_true] at h
      obtain ⟨⟨⟨h1, h2⟩, h3⟩, h4⟩ := h
      have e := of_decide_eq_true h1
      subst e
      exact ji_rng2 (gl_of g h2) (mg_of' ok g (by decide +kernel)) ((snd ok F a).e X sc b g hb _ h3) ((snd ok F c).e X sc b g hb _ h4)
    · cases h
end
end
end PD
/-! Statements. -/
namespace PD
open PySem L2
/-- what follows takes the way that is gone -/
def Goes (b : Bs) (D : Ends) (G : Hp) (env' : Env) : Flow → Prop
  | .nx => ∀ σ' H' G', Same G G' → Sat b σ' H' G' env' → D.nx σ' H'
  | .bk => ∀ σ' H' G', Same G G' → Sat b σ' H' G' env' → D.bk σ' H'
  | .ct => ∀ σ' H' G', Same G G' → Sat b σ' H' G' env' → D.ct σ' H'
  | .rt own d => ∀ σ' v H' G', Same G G' → Sat b σ' H' G' env' → ResAt b σ' H' G' env' v d own → D.rt v H'
theorem Goes.step {b : Bs} {D : Ends} {G G1 : Hp} {env' : Env} {fl : Flow} (k : Goes b D G env' fl) (g : Same G G1) : Goes b D G1 env' fl := by
  cases fl with
  | nx => exact fun σ' H' G' g' S => k σ' H' G' (g.trans g') S
  | bk => exact fun σ' H' G' g' S => k σ' H' G' (g.trans g') S
  | ct => exact fun σ' H' G' g' S => k σ' H' G' (g.trans g') S
  | rt own d => exact fun σ' v H' G' g' S r => k σ' v H' G' (g.trans g') S r
def tSt (b : Bs) (f : Env → Option (Env × Flow)) : TS := fun D σ H => ∃ env G env' fl, f env = some (env', fl) ∧ Sat b σ H G env ∧ Goes b D G env' fl
theorem _root_.L2.PS.wk {X : Cx} {st : Stmt} {t t' : TS} (h : PS X st t) (k : ∀ D σ H, t' D σ H → t D σ H) : PS X st t' := ⟨fun pins s σ H D I q => h.run pins s σ H D I (k D σ H q)⟩
theorem _root_.L2.PSs.wk {X : Cx} {st : List Stmt} {t t' : TS} (h : PSs X st t) (k : ∀ D σ H, t' D σ H → t D σ H) : PSs X st t' := ⟨fun pins s σ H D I q => h.run pins s σ H D I (k D σ H q)⟩
/-- a def's own frame -/
structure Gs (T : Tx) (X : Cx) (N : List Str) (sc : Scope) (n : Nat) : Prop where
  g : Gx T X N sc n
  scope : X.env.scope = sc
  kind : sc.kind = .function
theorem Gs.block {T : Tx} {X : Cx} {N : List Str} {sc : Scope} {n : Nat} (g : Gs T X N sc n) : X.env.blockKind = .function := by
  unfold Env.blockKind
  rw [g.scope, g.kind]
  rfl
section
variable {T : Tx} {X : Cx} {N : List Str} {sc : Scope} {n : Nat} {b : Bs} {e x : Expr} {pos : Pos} {Φ : Phi} {a : IE} {wf : Nat}
/-- whether a store comes ahead of a comprehension's end -/
def swapB (sc : Scope) (y : Str) (py : Pos) : Expr → Bool
  | .ListComp _ _ s p => (match sc.names.lookup y with | some .local => true | _ => false) && py.line == p.line && !(s.names.any fun (n, k) => n == y && (k == .local || k == .cell))
  | _ => false
def compE : Expr → Bool
  | .ListComp .. => true
  | .SetComp .. => true
  | .DictComp .. => true
  | _ => false
theorem swap_plain {t : Option Expr} {l : Nat} {env : PySem.Env} (h : compE e = false) : swapsWith e t l env = pure false := by
  cases e <;> first | rfl | cases h
theorem js_set {i : Nat} {y : Str} {py : Pos} (g : Gs T X N sc n) (hi : nmB N i y = true) (hl : locB sc y = true) (hc : compE e = false) (ha : JE X b e (sem Φ T.gv a)) : PS X (.Assign [.Name y py] e pos) (tSt b (ex Φ T.gv wf (.asg i a))) := by
  have l := loc_of hl
  refine (ps_set (by rw [g.g.ns]; exact g.g.nd) (nm_of g.g hi) (locX g.g l) ha.ev (swap_plain hc) (g.g.fnok _ l)).wk fun D σ H ⟨env, G, env', fl, q, S, k⟩ => ?_
  obtain ⟨p, h1, q⟩ := Option.bind_eq_some_iff.mp q
  obtain ⟨e1, h2, h3⟩ := Option.map_eq_some_iff.mp q
  cases h3
  exact ⟨env, G, p.1, p.2.1, p.2.2, h1, S, fun v H1 G1 g1 S1 r1 => k _ H1 G1 g1 (S1.put h2 r1)⟩
theorem js_setC {i : Nat} {y : Str} {py p2 : Pos} {el tg iter : Expr} {ifs : List Expr} {scope : Scope} {own : List (Str × Nat)} {t : TGt} {it : IT} {cs : IEs} {a : IE} (hb : b.cs = T.cs) (g : Gs T X N sc n) (hi : nmB N i y = true) (hsw : swapB sc y py (.ListComp el [⟨tg, iter, ifs, 0⟩] scope p2) = true)
    (hI : PI X tg iter (tI b (semI Φ T.gv it))) (ok : BlkOk X.N X.env.scope scope own) (ho : own.map (·.2) = t.is)
    (hg : ∀ (s : Shared) (H : Hp) (C : Addr) (cl : List (Str × Addr)) (fp : List Addr), PG (X.blk s H scope (compEnvC scope cl C X.env) fp) tg (gT T.cs.K t))
    (ht : ∀ (s : Shared) (H : Hp) (C : Addr) (cl : List (Str × Addr)) (fp : List Addr), PTs (X.blk s H scope (compEnvC scope cl C X.env) fp) ifs (tAT T.cs (sems Φ T.gv cs).t))
    (he : ∀ (s : Shared) (H : Hp) (C : Addr) (cl : List (Str × Addr)) (fp : List Addr), PE (X.blk s H scope (compEnvC scope cl C X.env) fp) el (tAE T.cs (sem Φ T.gv a).ev)) (hs : ∀ x, foldedSetIterable iter X.env x = pure x) :
    PS X (.Assign [.Name y py] (.ListComp el [⟨tg, iter, ifs, 0⟩] scope p2) pos) (tSt b (ex Φ T.gv wf (.asg i (.comp t it cs a)))) := by
  unfold swapB at hsw
  simp only [Bool.and_eq_true] at hsw
  obtain ⟨⟨s1, s2⟩, s3⟩ := hsw
  have hy : X.env.scope.names.lookup y = some .local := by
    rw [g.scope]
    split at s1
    · assumption
    · cases s1
  have sw : swapsWith (.ListComp el [⟨tg, iter, ifs, 0⟩] scope p2) (some (.Name y py)) pos.line X.env = pure true :=
    sw_true (by rw [g.scope]; exact g.kind) hy s2 (by simpa using s3)
  refine (ps_setLc g.g.calm (by rw [g.g.ns]; exact g.g.nd) (nm_of g.g hi) hy sw hI ok hg ht he hs).wk fun D σ H ⟨env, G, env', fl, q, S, k⟩ => ?_
  obtain ⟨p, h1, q⟩ := Option.bind_eq_some_iff.mp q
  obtain ⟨e1, h2, h3⟩ := Option.map_eq_some_iff.mp q
  cases h3
  obtain ⟨⟨ds, env1⟩, h6, q⟩ := Option.bind_eq_some_iff.mp h1
  simp only at q
  split at q
  · rename_i hn
    obtain ⟨⟨ys, env2⟩, h4, h5⟩ := Option.map_eq_some_iff.mp q
    cases h5
    refine ⟨env, G, ds, env1, h6, S, fun J H1 G1 g1 S1 hy D' hD => ?_⟩
    rw [ho]
    refine comp_ok (Q := fun v H => gName i v σ H D.nx) hb S1 (by rw [← hb]; exact hy) hn.1 hn.2 h4 (fun v H' G' g' S' r' => ?_) D' hD
    exact k _ H' G' (g1.trans g') (S'.put h2 r')
  · cases q
/-- several names -/
def nmsB (N : List Str) (sc : Scope) : List Nat → List Expr → Bool
  | [], [] => true
  | i :: is, .Name y _ :: r => nmB N i y && locB sc y && nmsB N sc is r
  | _, _ => false
def gTs : List Nat → TGs
  | [] => gNil
  | i :: is => gCons (gName i) (gTs is)
theorem pgs_names (g : Gx T X N sc n) : ∀ {is : List Nat} {es : List Expr}, nmsB N sc is es = true → PGs X es (gTs is) ∧ (assignEach es X.env).length = is.length ∧ (assignEach es X.env).findIdx? (·.1) = none ∧ es.length = is.length
  | [], [], _ => ⟨pgs_nil, rfl, rfl, rfl⟩
  | i :: is, .Name y p :: r, h => by
    unfold nmsB at h
    simp only [Bool.and_eq_true] at h
    obtain ⟨⟨h1, h2⟩, h3⟩ := h
    obtain ⟨q1, q2, q3, q4⟩ := pgs_names g h3
    have l := loc_of h2
    refine ⟨pgs_cons (pg_name (by rw [g.ns]; exact g.nd) (nm_of g h1) (locX g l) (g.fnok _ l)) q1, ?_, ?_, ?_⟩
    · show (assignEach r X.env).length + 1 = _
      rw [q2]
      rfl
    · show List.findIdx? (·.1) ((false, _) :: assignEach r X.env) = none
      rw [List.findIdx?_cons, q3]
      rfl
    · rw [List.length_cons, List.length_cons, q4]
theorem puts_ok {H G : Hp} : ∀ {is : List Nat} {ds : List D} {vs : List V} {env env' : Env} {σ : L2.St} {Q : L2.St → Hp → Prop}, Sat b σ H G env → putTs is ds env = some env' → Reps b.cs G vs ds → (∀ σ', Sat b σ' H G env' → Q σ' H) → gTs is vs σ H Q
  | [], [], _, env, env', σ, Q, S, h, .nil, k => by
    cases h
    exact ⟨rfl, k σ S⟩
  | i :: is, d :: ds, _, env, env', σ, Q, S, h, .cons r0 r, k => by
    obtain ⟨e1, h1, h2⟩ := Option.bind_eq_some_iff.mp h
    exact ⟨_, _, rfl, puts_ok (S.put (own := false) h1 r0) h2 r k⟩
  | [], _ :: _, _, _, _, _, _, _, h, _, _ => by cases h
  | _ :: _, [], _, _, _, _, _, _, h, _, _ => by cases h
theorem puts_len : ∀ {is : List Nat} {ds : List D} {env env' : Env}, putTs is ds env = some env' → ds.length = is.length
  | [], [], _, _, _ => rfl
  | i :: is, d :: ds, env, env', h => by
    obtain ⟨e1, h1, h2⟩ := Option.bind_eq_some_iff.mp h
    rw [List.length_cons, List.length_cons, puts_len h2]
  | [], _ :: _, _, _, h => by cases h
  | _ :: _, [], _, _, h => by cases h
theorem _root_.L2.PG.or {X : Cx} {e : Expr} {t t' : TG} (h : PG X e t) (h' : PG X e t') : PG X e (fun v σ H Q => t v σ H Q ∨ t' v σ H Q) := ⟨fun pins s σ H v u Q I r q => q.elim (h.run pins s σ H v u Q I r) (h'.run pins s σ H v u Q I r)⟩
theorem js_setT {is : List Nat} {es : List Expr} {k0 : Nat} {pt : Pos} (g : Gs T X N sc n) (hb : b.cs = T.cs) (hn : nmsB N sc is es = true) (hc : compE e = false) (hs : swappedStores [.Tuple es k0 pt] e X.env = pure none) (ha : JE X b e (sem Φ T.gv a)) :
    PS X (.Assign [.Tuple es k0 pt] e pos) (tSt b (ex Φ T.gv wf (.asgT is a))) := by
  obtain ⟨q1, q2, q3, _⟩ := pgs_names g.g hn
  refine (ps_asg ha.ev ((pg_tup g.g.calm q1 q2 q3).or (pg_unl g.g.calm q1 q2 q3)) (by show swapsWith e (some (.Tuple es k0 pt)) pos.line X.env = pure false; exact swap_plain hc) hs rfl).wk fun D σ H ⟨env, G, env', fl, q, S, k⟩ => ?_
  obtain ⟨⟨o, y, w⟩, h1, q⟩ := Option.bind_eq_some_iff.mp q
  refine use h1 S fun v1 H1 G1 g1 S1 r1 => ?_
  simp only at q
  split at q
  · obtain ⟨e1, h2, h3⟩ := Option.map_eq_some_iff.mp q
    cases h3
    cases r1 with
    | tup ht r =>
      refine .inl ⟨_, _, rfl, by rw [g.g.hK hb]; exact SqT.seen S1 ht, ?_, ?_⟩
      · rw [r.length, puts_len h2]
      · exact puts_ok S1 h2 r fun σ' S' => k σ' H1 G1 g1 S'
  · obtain ⟨e1, h2, h3⟩ := Option.map_eq_some_iff.mp q
    cases h3
    cases r1 with
    | lst ht r =>
      refine .inr ⟨_, _, rfl, .of (S1.ex _ _ ht), ?_, ?_⟩
      · rw [r.length, puts_len h2]
      · exact puts_ok S1 h2 r fun σ' S' => k σ' H1 G1 g1 S'
  · cases q
theorem js_par {i j : Nat} {y z : Str} {py pz pt : Pos} {k1 k2 : Nat} {e1 e2 : Expr} {pt2 : Pos} {c : IE} (g : Gs T X N sc n) (hi : nmB N i y = true) (hj : nmB N j z = true) (hij : i ≠ j) (hy : sc.names.lookup y = some .local) (hz : sc.names.lookup z = some .local)
    (hw : swappedStores [.Tuple [.Name y py, .Name z pz] k1 pt] (.Tuple [e1, e2] k2 pt2) X.env = pure (some [y, z])) (ha : JE X b e1 (sem Φ T.gv a)) (hc : JE X b e2 (sem Φ T.gv c)) :
    PS X (.Assign [.Tuple [.Name y py, .Name z pz] k1 pt] (.Tuple [e1, e2] k2 pt2) pos) (tSt b (ex Φ T.gv wf (.asgP i j a c))) := by
  refine (ps_par g.g.calm (by rw [g.g.ns]; exact g.g.nd) (nm_of g.g hi) (nm_of g.g hj) hij (by rw [g.scope]; exact hy) (by rw [g.scope]; exact hz) (pa_cons ha.ev (pa_cons hc.ev pa_nil (hc.ns _ _)) (ha.ns _ _)) hw rfl).wk fun D σ H ⟨env, G, env', fl, q, S, k⟩ => ?_
  obtain ⟨⟨o, x1, w⟩, h1, q⟩ := Option.bind_eq_some_iff.mp q
  obtain ⟨⟨o2, x2, w2⟩, h2, q⟩ := Option.bind_eq_some_iff.mp q
  obtain ⟨en1, h3, q⟩ := Option.bind_eq_some_iff.mp q
  obtain ⟨en2, h4, h5⟩ := Option.map_eq_some_iff.mp q
  cases h5
  refine use h1 S fun v1 H1 G1 g1 S1 r1 => use h2 S1 fun v2 H2 G2 g2 S2 r2 => ?_
  exact ⟨v1, v2, rfl, k _ H2 G2 (g1.trans g2) ((S2.put (own := false) h3 (r1.mono g2)).put (own := false) h4 r2)⟩
theorem ixN_in {n : Int} {l : Nat} (h0 : 0 ≤ n) (h1 : n < l) : ixN l n = some n.toNat := by
  unfold ixN
  rw [if_pos h0, if_pos h1]
theorem js_setI {i : Nat} {y : Str} {p p2 : Pos} {e2 : Expr} {c : IE} (g : Gs T X N sc n) (hb : b.cs = T.cs) (hv : varB N sc i (.Name y p) = true) (hc : compE e = false) (ha : JE X b e (sem Φ T.gv a)) (hk : JE X b e2 (sem Φ T.gv c)) (hni : notOdd e2 = true) :
    PS X (.Assign [.Subscript (.Name y p) e2 p2] e pos) (tSt b (ex Φ T.gv wf (.setI i c a))) := by
  have hw : swappedStores [.Subscript (.Name y p) e2 p2] e X.env = pure none := by cases e <;> rfl
  refine (ps_asg ha.ev (pg_sub (var_of g.g hv).1 hk.ev set_list (fun v => by cases e2 <;> first | exact (Bool.false_ne_true hni).elim | rfl)) (by show swapsWith e (some (.Subscript (.Name y p) e2 p2)) pos.line X.env = pure false; exact swap_plain hc) hw rfl).wk fun D σ H ⟨env, G, env', fl, q, S, k⟩ => ?_
  · obtain ⟨⟨o, x1, w⟩, h1, q⟩ := Option.bind_eq_some_iff.mp q
    obtain ⟨z, h0, q⟩ := Option.bind_eq_some_iff.mp q
    obtain ⟨⟨o2, x2, w2⟩, h2, q⟩ := Option.bind_eq_some_iff.mp q
    refine use h1 S fun v1 H1 G1 g1 S1 r1 => ?_
    obtain ⟨v, hv', _⟩ := S1.look h0
    refine ⟨v, hv', use h2 S1 fun v2 H2 G2 g2 S2 r2 => ?_⟩
    simp only at q
    split at q
    · rename_i f xs ho
      split at q
      · rename_i m
        split at q
        · rename_i hm
          cases q
          cases r2
          obtain ⟨l, hl, ⟨vs, e', r⟩, wr⟩ := S2.own ho
          rw [hv'] at hl
          cases hl
          refine ⟨l, vs, m, m.toNat, rfl, rfl, e', ?_, ?_⟩
          · rw [r.length]
            exact ixN_in hm.1 hm.2
          · exact k _ _ G2 (g1.trans g2) (wr _ _ ⟨_, upd_same, r.set (r1.mono g2) _⟩)
        · cases q
      · cases q
    · cases q
end
end PD
/-! Statements, more; blocks. -/
namespace PD
open PySem L2
section
variable {T : Tx} {X : Cx} {N : List Str} {sc : Scope} {n : Nat} {b : Bs} {e x : Expr} {pos : Pos} {Φ : Phi} {a : IE} {wf : Nat}
theorem Keys.len {c : Cs} : ∀ {kvs : List (Key × V)} {ks : List DK}, Keys c kvs ks → kvs.length = ks.length
  | _, _, .nil => rfl
  | _, _, .cons _ r => congrArg (· + 1) r.len
theorem repl_ok (ok : WOk b.cs.W) {G : Hp} {q : DK} {k : Key} {v : V} {d : D} (hq : b.cs.key q = some k) (r : Rep b.cs G v d) : ∀ {kvs : List (Key × V)} {ks : List DK} {ds : List D}, Keys b.cs kvs ks → Reps b.cs G (kvs.map (·.2)) ds →
    Keys b.cs (kvs.map fun kv => if kv.1 = k then (kv.1, v) else kv) ks ∧ Reps b.cs G ((kvs.map fun kv => if kv.1 = k then (kv.1, v) else kv).map (·.2)) (replD ks ds q d)
  | _, _, _, .nil, .nil => ⟨.nil, .nil⟩
  | _, _, _, .cons (k := k0) (v := v0) (kvs := kvs) (q := q0) (qs := qs) h0 hr, .cons (ds := ds) (d := d0) r0 rr => by
    obtain ⟨hk, hv⟩ := repl_ok ok hq r hr rr
    by_cases e : q0 = q
    · have ek : k0 = k := Option.some.inj (h0.symm.trans (e ▸ hq))
      refine ⟨?_, ?_⟩
      · rw [List.map_cons, if_pos ek]
        exact .cons h0 hk
      · rw [List.map_cons, List.map_cons, if_pos ek]
        show Reps b.cs G (v :: _) ((if q0 = q then d else d0) :: _)
        rw [if_pos e]
        exact .cons r hv
    · have ne : ¬ k0 = k := fun ek => e (key_inj ok h0 (ek ▸ hq))
      refine ⟨?_, ?_⟩
      · rw [List.map_cons, if_neg ne]
        exact .cons h0 hk
      · rw [List.map_cons, List.map_cons, if_neg ne]
        show Reps b.cs G (v0 :: _) ((if q0 = q then d else d0) :: _)
        rw [if_neg e]
        exact .cons r0 hv
theorem Keys.app {c : Cs} : ∀ {kvs kvs' : List (Key × V)} {ks ks' : List DK}, Keys c kvs ks → Keys c kvs' ks' → Keys c (kvs ++ kvs') (ks ++ ks')
  | _, _, _, _, .nil, s => s
  | _, _, _, _, .cons h r, s => .cons h (r.app s)
theorem putD_ok (ok : WOk b.cs.W) {G : Hp} {q : DK} {k : Key} {v : V} {d : D} (hq : b.cs.key q = some k) (r : Rep b.cs G v d) {kvs : List (Key × V)} {ks : List DK} {ds : List D} (hk : Keys b.cs kvs ks) (hr : Reps b.cs G (kvs.map (·.2)) ds) :
    Keys b.cs (putK kvs k v) (putD ks ds q d).1 ∧ Reps b.cs G ((putK kvs k v).map (·.2)) (putD ks ds q d).2 := by
  unfold putK putD
  rw [valV_any, (find_ok ok hq hk hr).2]
  by_cases h : (valV kvs k).isSome = true
  · rw [if_pos h, if_pos h]
    exact repl_ok ok hq r hk hr
  · rw [if_neg h, if_neg h]
    refine ⟨hk.app (.cons hq .nil), ?_⟩
    rw [List.map_append]
    exact hr.app (.cons r .nil)
theorem js_dput {i : Nat} {y : Str} {p p2 : Pos} {e2 : Expr} {c : IE} (ok : TOk T) (g : Gs T X N sc n) (hb : b.cs = T.cs) (hv : varB N sc i (.Name y p) = true) (hc : compE e = false) (ha : JE X b e (sem Φ T.gv a)) (hk : JE X b e2 (sem Φ T.gv c)) :
    PS X (.Assign [.Subscript (.Name y p) e2 p2] e pos) (tSt b (ex Φ T.gv wf (.dput i c a))) := by
  have wok : WOk b.cs.W := by rw [hb]; exact ok.wok
  refine (ps_dput (by have := g.g.units; omega) (var_of g.g hv).1 hk.ev ha.ev (swap_plain hc)).wk fun D σ H ⟨env, G, env', fl, q, S, k⟩ => ?_
  obtain ⟨⟨o, x1, w⟩, h1, q⟩ := Option.bind_eq_some_iff.mp q
  obtain ⟨z, h0, q⟩ := Option.bind_eq_some_iff.mp q
  obtain ⟨⟨o2, x2, w2⟩, h2, q⟩ := Option.bind_eq_some_iff.mp q
  refine use h1 S fun v1 H1 G1 g1 S1 r1 => ?_
  obtain ⟨v, hv', _⟩ := S1.look h0
  refine ⟨v, hv', use h2 S1 fun v2 H2 G2 g2 S2 r2 => ?_⟩
  simp only at q
  split at q
  · rename_i f ks vs ho
    obtain ⟨kk, h5, q⟩ := Option.bind_eq_some_iff.mp q
    split at q
    · rename_i hl
      cases q
      obtain ⟨key, hq, rfl⟩ := key_rep h5 r2
      obtain ⟨l, hl', ⟨kvs, e', hkk, r⟩, wr⟩ := S2.own ho
      rw [hv'] at hl'
      cases hl'
      obtain ⟨n1, n2⟩ := putD_ok wok hq (r1.mono g2) hkk r
      refine ⟨l, _, rfl, DPut.k e' ?_, k _ _ G2 (g1.trans g2) (wr _ _ ⟨_, upd_same, n1, n2⟩)⟩
      rw [hkk.len]
      unfold sizeLine
      omega
    · cases q
  · cases q
theorem js_expr (hc : compE e = false) (ha : JE X b e (sem Φ T.gv a)) : PS X (.Expr e pos) (tSt b (ex Φ T.gv wf (.expr a))) := by
  refine (ps_expr ha.ev (swap_plain hc)).wk fun D σ H ⟨env, G, env', fl, q, S, k⟩ => ?_
  obtain ⟨⟨o, y, w⟩, h1, h2⟩ := Option.map_eq_some_iff.mp q
  cases h2
  exact use h1 S fun v1 H1 G1 g1 S1 _ => k σ H1 G1 g1 S1
theorem js_ret (ha : JE X b e (sem Φ T.gv a)) : PS X (.Return (some e) pos) (tSt b (ex Φ T.gv wf (.ret a))) := by
  refine (ps_ret ha.ev).wk fun D σ H ⟨env, G, env', fl, q, S, k⟩ => ?_
  obtain ⟨p, h1, h2⟩ := Option.map_eq_some_iff.mp q
  cases h2
  exact ⟨env, G, p.1, p.2.1, p.2.2, h1, S, fun v H1 G1 g1 S1 r1 => k σ v H1 G1 g1 S1 r1⟩
theorem Sat.gone {σ : L2.St} {H G : Hp} {env : Env} (S : Sat b σ H G env) {i : Nat} {d : D} (h : getC env i = some (.own, d)) : ∃ v, σ[i]? = some (some v) ∧ Sat b σ H G (env.set i none) ∧ ResAt b σ H G (env.set i none) v d true := by
  have he := getC_some h
  obtain ⟨v, hv, a, ea, ga, ha, ow⟩ := S.slot i _ _ he
  subst ea
  have up : ∀ {j : Nat} {c : Fl × D}, (env.set i none)[j]? = some (some c) → env[j]? = some (some c) ∧ j ≠ i := by
    intro j c hj
    by_cases hji : j = i
    · subst hji
      rw [List.getElem?_set_self (List.getElem?_eq_some_iff.mp he).1] at hj
      cases hj
    · rw [List.getElem?_set_ne (Ne.symm hji)] at hj
      exact ⟨hj, hji⟩
  refine ⟨_, hv, ⟨by rw [List.length_set]; exact S.len, S.ex, S.ex0, S.keep, S.new, S.lents, fun j f e hj => S.slot j f e (up hj).1, fun j l f g d e x hj hl => S.apart j l f g d e x (up hj).1 (up hl).1⟩, a, rfl, ga, ha, ow, fun j f e hj hf hs => ?_⟩
  exact (up hj).2 (S.apart j i f _ e _ a (up hj).1 he hf rfl hs hv)
theorem js_retV {i : Nat} {y : Str} {p : Pos} (g : Gs T X N sc n) (hv : varB N sc i (.Name y p) = true) : PS X (.Return (some (.Name y p)) pos) (tSt b (ex Φ T.gv wf (.retV i))) := by
  refine (ps_ret (var_of g.g hv).1).wk fun D σ H ⟨env, G, env', fl, q, S, k⟩ => ?_
  have q : (match getC env i with
      | some (.own, d) => some (env.set i none, Flow.rt true d)
      | _ => (readV env i).map fun p => (p.2, Flow.rt false p.1)) = some (env', fl) := q
  split at q
  · rename_i d hd
    cases q
    obtain ⟨v, hv', S', r⟩ := S.gone hd
    exact ⟨v, hv', k σ v H G (Same.refl G) S' r⟩
  · obtain ⟨p, h1, h2⟩ := Option.map_eq_some_iff.mp q
    cases h2
    obtain ⟨G', v, g', S', hv', r⟩ := S.read h1
    exact ⟨v, hv', k σ v H G' g' S' r⟩
theorem js_retN : PS X (.Return none pos) (tSt b (ex Φ T.gv wf .retN)) := ps_retN.wk fun D σ H ⟨env, G, env', fl, q, S, k⟩ => by
  cases q
  exact k σ _ H G (Same.refl G) S .non
theorem js_pass : PS X (.Pass pos) (tSt b (ex Φ T.gv wf .pass)) := ps_pass.wk fun D σ H ⟨env, G, env', fl, q, S, k⟩ => by
  cases q
  exact k σ H G (Same.refl G) S
theorem js_doc {z : Str} {j : Nat} {p : Pos} : PS X (.Expr (.Constant (.str z) j p) pos) (tSt b (ex Φ T.gv wf .pass)) := ps_doc.wk fun D σ H ⟨env, G, env', fl, q, S, k⟩ => by
  cases q
  exact k σ H G (Same.refl G) S
theorem js_brk : PS X (.Break pos) (tSt b (ex Φ T.gv wf .brk)) := ps_break.wk fun D σ H ⟨env, G, env', fl, q, S, k⟩ => by
  cases q
  exact k σ H G (Same.refl G) S
theorem js_cont : PS X (.Continue pos) (tSt b (ex Φ T.gv wf .cont)) := ps_continue.wk fun D σ H ⟨env, G, env', fl, q, S, k⟩ => by
  cases q
  exact k σ H G (Same.refl G) S
theorem js_never {st : Stmt} : PS X st (tSt b (ex Φ T.gv wf .never)) := ps_never.wk fun D σ H ⟨env, G, env', fl, q, S, k⟩ => by cases q
theorem js_ite {p q : List Stmt} {s t : ISs} {c : IE} {e : Expr} (hc : JE X b e (sem Φ T.gv c)) (h1 : PSs X p (tSt b (exs Φ T.gv wf s))) (h2 : PSs X q (tSt b (exs Φ T.gv wf t))) : PS X (.If e p q pos) (tSt b (ex Φ T.gv wf (.ite c s t))) := by
  refine (ps_if hc.t h1 h2).wk fun D σ H ⟨env, G, env', fl, q, S, k⟩ => ?_
  obtain ⟨⟨r, w⟩, h1, q⟩ := Option.bind_eq_some_iff.mp q
  refine useT h1 S fun H1 G1 g1 S1 => ?_
  cases r with
  | true =>
    rw [if_pos rfl]
    exact ⟨w, G1, env', fl, q, S1, k.step g1⟩
  | false =>
    rw [if_neg Bool.false_ne_true]
    exact ⟨w, G1, env', fl, q, S1, k.step g1⟩
theorem jss_nil : PSs X [] (tSt b (exs Φ T.gv wf .nil)) := pss_nil.wk fun D σ H ⟨env, G, env', fl, q, S, k⟩ => by
  cases q
  exact k σ H G (Same.refl G) S
theorem jss_cons {st : Stmt} {r : List Stmt} {i : IS} {is : ISs} (h1 : PS X st (tSt b (ex Φ T.gv wf i))) (h2 : PSs X r (tSt b (exs Φ T.gv wf is))) : PSs X (st :: r) (tSt b (exs Φ T.gv wf (.cons i is))) := by
  refine (pss_cons h1 h2).wk fun D σ H ⟨env, G, env', fl, q, S, k⟩ => ?_
  obtain ⟨⟨w, f⟩, h1, q⟩ := Option.bind_eq_some_iff.mp q
  refine ⟨env, G, w, f, h1, S, ?_⟩
  cases f with
  | nx => exact fun σ' H' G' g' S' => ⟨w, G', env', fl, q, S', k.step g'⟩
  | bk => cases q; exact k
  | ct => cases q; exact k
  | rt o d => cases q; exact k
theorem _root_.List.drop_cons_get {α : Type} {l : List α} {i : Nat} {x : α} (h : l[i]? = some x) : l.drop i = x :: l.drop (i + 1) := by
  obtain ⟨hi, e⟩ := List.getElem?_eq_some_iff.mp h
  rw [List.drop_eq_getElem_cons hi, e]
theorem js_for {tg iter : Expr} {t : TGt} {it : IT} {body : List Stmt} {is : ISs} (g : Gs T X N sc n) (hb : b.cs = T.cs) (ht : tgB N sc t tg = true) (hi : PI X tg iter (tI b (semI Φ T.gv it))) (hs : noSet iter = true) (hbd : PSs X body (tSt b (exs Φ T.gv wf is))) :
    PS X (.For tg iter body [] pos) (tSt b (ex Φ T.gv wf (.for_ t it is))) := by
  refine (ps_for (by rw [g.g.never]; exact PassesOwn.never) g.g.calm hi (tg_of g.g ht) hbd (noSet_ok hs _)).wk fun D σ H ⟨env, G, env', fl, q, S, k⟩ => ?_
  obtain ⟨⟨ds, w⟩, h1, q⟩ := Option.bind_eq_some_iff.mp q
  refine ⟨env, G, ds, w, h1, S, fun J H1 G1 g1 S1 hy => ?_⟩
  refine ⟨fun i m σ' H' => i ≤ ds.length ∧ m = ds.length - i ∧ ∃ G' en, Same G1 G' ∧ Sat b σ' H' G' en ∧ floop (fun x en => (putT t x en).bind fun e1 => exs Φ T.gv wf is e1) (ds.drop i) en = some (env', fl), ⟨ds.length, Nat.zero_le _, rfl, G1, w, Same.refl G1, S1, q⟩, ?_⟩
  rintro i m σ' H' ⟨il, em, G', en, g', S', q⟩
  have y := hy b rfl i σ' H' G' en g' S'
  by_cases hil : i < ds.length
  · obtain ⟨go, st⟩ := y.1 hil
    refine .inr ⟨go, fun σ2 H2 => ∃ G2 en2, Same G1 G2 ∧ Sat b σ2 H2 G2 en2 ∧ floop (fun x en => (putT t x en).bind fun e1 => exs Φ T.gv wf is e1) (ds.drop (i + 1)) en2 = some (env', fl), ?_, ?_⟩
    · rintro σ2 H2 ⟨G2, en2, g2, S2, q2⟩
      exact ⟨ds.length - (i + 1), by omega, hil, rfl, G2, en2, g2, S2, q2⟩
    · intro x H2 hx
      obtain ⟨G2, g2, S2, d, hd, r⟩ := st x H2 hx
      rw [List.drop_cons_get hd] at q
      have q : (match ((putT t d en).bind fun e1 => exs Φ T.gv wf is e1) with
        | none => none
        | some (env1, .nx) => floop (fun x en => (putT t x en).bind fun e1 => exs Φ T.gv wf is e1) (ds.drop (i + 1)) env1
        | some (env1, .ct) => floop (fun x en => (putT t x en).bind fun e1 => exs Φ T.gv wf is e1) (ds.drop (i + 1)) env1
        | some (env1, .bk) => some (env1, Flow.nx)
        | some (env1, .rt o d) => some (env1, Flow.rt o d)) = some (env', fl) := q
      cases hp : putT t d en with
      | none =>
        rw [hp] at q
        cases q
      | some e1 =>
        rw [hp, Option.bind_some] at q
        rw [show T.K = b.cs.K by rw [hb]]
        refine put_ok S2 hp r fun σ3 S3 _ => ?_
        cases hq : exs Φ T.gv wf is e1 with
        | none =>
          rw [hq] at q
          cases q
        | some pf =>
          obtain ⟨e2, f⟩ := pf
          rw [hq] at q
          refine ⟨e1, G2, e2, f, hq, S3, ?_⟩
          have g12 : Same G1 G2 := g'.trans g2
          cases f with
          | nx => exact fun σ4 H4 G4 g4 S4 => ⟨G4, e2, g12.trans g4, S4, q⟩
          | ct => exact fun σ4 H4 G4 g4 S4 => ⟨G4, e2, g12.trans g4, S4, q⟩
          | bk =>
            cases q
            exact fun σ4 H4 G4 g4 S4 => k σ4 H4 G4 (g1.trans (g12.trans g4)) S4
          | rt o d =>
            cases q
            exact fun σ4 v H4 G4 g4 S4 r4 => k σ4 v H4 G4 (g1.trans (g12.trans g4)) S4 r4
  · refine .inl ⟨y.2 (by omega), ?_⟩
    rw [List.drop_eq_nil_of_le (by omega)] at q
    cases q
    exact k σ' H' G' (g1.trans g') S'
theorem js_whl {c : IE} {body : List Stmt} {is : ISs} {e : Expr} (g : Gs T X N sc n) (hc : JE X b e (sem Φ T.gv c)) (hbd : PSs X body (tSt b (exs Φ T.gv wf is))) : PS X (.While e body [] pos) (tSt b (ex Φ T.gv wf (.whl c is))) := by
  refine (ps_while (by rw [g.g.never]; exact PassesOwn.never) hc.t hbd).wk fun D σ H ⟨env, G, env', fl, q, S, k⟩ => ?_
  refine ⟨fun m σ' H' => ∃ G' en, Same G G' ∧ Sat b σ' H' G' en ∧ wloop (fun en => (sem Φ T.gv c).t en) (fun en => exs Φ T.gv wf is en) m en = some (env', fl), ⟨wf, G, env, Same.refl G, S, q⟩, ?_⟩
  rintro m σ' H' ⟨G', en, g', S', q⟩
  cases m with
  | zero => cases q
  | succ m =>
    have q : (match (sem Φ T.gv c).t en with
      | none => none
      | some (false, env1) => some (env1, Flow.nx)
      | some (true, env1) => match exs Φ T.gv wf is env1 with
        | none => none
        | some (env2, .nx) => wloop (fun en => (sem Φ T.gv c).t en) (fun en => exs Φ T.gv wf is en) m env2
        | some (env2, .ct) => wloop (fun en => (sem Φ T.gv c).t en) (fun en => exs Φ T.gv wf is en) m env2
        | some (env2, .bk) => some (env2, Flow.nx)
        | some (env2, .rt o d) => some (env2, Flow.rt o d)) = some (env', fl) := q
    cases ht : (sem Φ T.gv c).t en with
    | none => rw [ht] at q; cases q
    | some pr =>
      obtain ⟨r, e1⟩ := pr
      rw [ht] at q
      refine useT ht S' fun H1 G1 g1 S1 => ?_
      cases r with
      | false =>
        rw [if_neg Bool.false_ne_true]
        cases q
        exact k σ' H1 G1 (g'.trans g1) S1
      | true =>
        rw [if_pos rfl]
        have q : (match exs Φ T.gv wf is e1 with
          | none => none
          | some (env2, .nx) => wloop (fun en => (sem Φ T.gv c).t en) (fun en => exs Φ T.gv wf is en) m env2
          | some (env2, .ct) => wloop (fun en => (sem Φ T.gv c).t en) (fun en => exs Φ T.gv wf is en) m env2
          | some (env2, .bk) => some (env2, Flow.nx)
          | some (env2, .rt o d) => some (env2, Flow.rt o d)) = some (env', fl) := q
        refine ⟨fun σ2 H2 => ∃ G2 en2, Same G G2 ∧ Sat b σ2 H2 G2 en2 ∧ wloop (fun en => (sem Φ T.gv c).t en) (fun en => exs Φ T.gv wf is en) m en2 = some (env', fl), ?_, ?_⟩
        · rintro σ2 H2 ⟨G2, en2, g2, S2, q2⟩
          exact ⟨m, by omega, G2, en2, g2, S2, q2⟩
        · cases hq : exs Φ T.gv wf is e1 with
          | none => rw [hq] at q; cases q
          | some pf =>
            obtain ⟨e2, f⟩ := pf
            rw [hq] at q
            refine ⟨e1, G1, e2, f, hq, S1, ?_⟩
            have g12 : Same G G1 := g'.trans g1
            cases f with
            | nx => exact fun σ4 H4 G4 g4 S4 => ⟨G4, e2, g12.trans g4, S4, q⟩
            | ct => exact fun σ4 H4 G4 g4 S4 => ⟨G4, e2, g12.trans g4, S4, q⟩
            | bk =>
              cases q
              exact fun σ4 H4 G4 g4 S4 => k σ4 H4 G4 (g12.trans g4) S4
            | rt o d =>
              cases q
              exact fun σ4 v H4 G4 g4 S4 r4 => k σ4 v H4 G4 (g12.trans g4) S4 r4
end
end PD
/-! Which syntax a statement of data matches. -/
namespace PD
open PySem L2
/-- is a pair of stores turned: as the model asks it -/
def parB (sc : Scope) (y z : Str) (py pz : Pos) (e1 e2 : Expr) : Bool :=
  !(match e1 with | .Starred .. => true | _ => false) && !(match e2 with | .Starred .. => true | _ => false) && (match sc.names.lookup y with | some .local => true | _ => false) && (match sc.names.lookup z with | some .local => true | _ => false) &&
    py.line == pz.line && !(y == z) && !([e1, e2].all (foldedForSure 8)) && !([e1, e2].all (constantsAlone 8))
section
variable (T : Tb) (N : List Str) (sc : Scope)
/-- what is stored, and how -/
def asgB (i : Nat) (a : IE) (y : Str) (py : Pos) (e : Expr) : Bool := nmB N i y && locB sc y && (ck T N a sc).e e && (match a with
  | .comp .. => swapB sc y py e
  | _ => !compE e)
/-- the targets are no plain locals, or more than three: stored from the left -/
def leftB (es : List Expr) : Expr → Bool
  | .Tuple vs _ _ => !(es.length == 2 || es.length == 3) || vs.length != es.length
  | _ => true
mutual
def ckS : IS → Stmt → Bool
  | .asg i a => fun s => match s with | .Assign [.Name y py] e _ => asgB T N sc i a y py e | _ => false
  | .asgT is a => fun s => match s with | .Assign [.Tuple es _ _] e _ => nmsB N sc is es && !compE e && leftB es e && (ck T N a sc).e e | _ => false
  | .asgP i j a c => fun s => match s with | .Assign [.Tuple [.Name y py, .Name z pz] _ _] (.Tuple [e1, e2] _ _) _ => nmB N i y && nmB N j z && !(i == j) && parB sc y z py pz e1 e2 && (ck T N a sc).e e1 && (ck T N c sc).e e2 | _ => false
  | .setI i k a => fun s => match s with | .Assign [.Subscript (.Name y p) e2 _] e _ => varB N sc i (.Name y p) && !compE e && (ck T N a sc).e e && (ck T N k sc).e e2 && notOdd e2 | _ => false
  | .dput i k a => fun s => match s with | .Assign [.Subscript (.Name y p) e2 _] e _ => varB N sc i (.Name y p) && !compE e && (ck T N a sc).e e && (ck T N k sc).e e2 | _ => false
  | .expr a => fun s => match s with | .Expr e _ => !compE e && (ck T N a sc).e e | _ => false
  | .ret a => fun s => match s with | .Return (some e) _ => (ck T N a sc).e e | _ => false
  | .retV i => fun s => match s with | .Return (some (.Name y p)) _ => varB N sc i (.Name y p) | _ => false
  | .retN => fun s => match s with | .Return none _ => true | _ => false
  | .pass => fun s => match s with | .Pass _ => true | .Expr (.Constant (.str _) _ _) _ => true | _ => false
  | .never => fun _ => true
  | .brk => fun s => match s with | .Break _ => true | _ => false
  | .cont => fun s => match s with | .Continue _ => true | _ => false
  | .ite c t f => fun s => match s with | .If e p q _ => (ck T N c sc).e e && ckSs t p && ckSs f q | _ => false
  | .for_ t it b => fun s => match s with | .For tg iter body [] _ => tgB N sc t tg && ckI T N it sc iter && noSet iter && ckSs b body | _ => false
  | .whl c b => fun s => match s with | .While e body [] _ => (ck T N c sc).e e && ckSs b body | _ => false
def ckSs : ISs → List Stmt → Bool
  | .nil => fun l => match l with | [] => true | _ => false
  | .cons s r => fun l => match l with | x :: xs => ckS s x && ckSs r xs | _ => false
end
end
section
variable {T : Tx} {X : Cx} {N : List Str} {sc : Scope} {n : Nat} {b : Bs} {Φ : Phi} {wf : Nat}
theorem nbool {b : Bool} (h : (!b) = true) : b = false := by
  cases b
  · rfl
  · cases h
theorem par_sw {y z : Str} {py pz pt pt2 : Pos} {k1 k2 : Nat} {e1 e2 : Expr} (g : Gs T X N sc n) (h : parB sc y z py pz e1 e2 = true) : sc.names.lookup y = some .local ∧ sc.names.lookup z = some .local ∧
    swappedStores [.Tuple [.Name y py, .Name z pz] k1 pt] (.Tuple [e1, e2] k2 pt2) X.env = pure (some [y, z]) := by
  unfold parB at h
  simp only [Bool.and_eq_true] at h
  obtain ⟨⟨⟨⟨⟨⟨⟨s1, s2⟩, hy⟩, hz⟩, hl⟩, hne⟩, hf⟩, hc⟩ := h
  have ly : sc.names.lookup y = some .local := by
    split at hy
    · assumption
    · cases hy
  have lz : sc.names.lookup z = some .local := by
    split at hz
    · assumption
    · cases hz
  refine ⟨ly, lz, ?_⟩
  have ky : X.env.kindOf y = some .local := by
    show X.env.scope.names.lookup y = _
    rw [g.scope]; exact ly
  have kz : X.env.kindOf z = some .local := by
    show X.env.scope.names.lookup z = _
    rw [g.scope]; exact lz
  have hne' : (z == y) = false := by
    have : (y == z) = false := by simpa using hne
    rw [beq_eq_false_iff_ne] at this ⊢
    exact fun e => this e.symm
  have st : ([e1, e2].any fun | .Starred .. => true | _ => false) = false := by
    have a1 : (match e1 with | .Starred .. => true | _ => false) = false := by simpa using s1
    have a2 : (match e2 with | .Starred .. => true | _ => false) = false := by simpa using s2
    rw [List.any_cons, List.any_cons, List.any_nil, Bool.or_false]
    cases e1 <;> cases e2 <;> first | rfl | (cases a1; done) | (cases a2; done)
  have hln : (pz.line == py.line) = true := by
    have := eq_of_beq hl
    rw [this]; exact beq_self_eq_true _
  have hf' : [e1, e2].all (foldedForSure 8) = false := nbool hf
  have hc' : [e1, e2].all (constantsAlone 8) = false := nbool hc
  unfold swappedStores
  simp only [pure_bind, g.block]
  have d1 : ¬ ((!(([Expr.Name y py, Expr.Name z pz]).length == 2 || ([Expr.Name y py, Expr.Name z pz]).length == 3) || ([e1, e2]).length != ([Expr.Name y py, Expr.Name z pz]).length || ScopeKind.function != ScopeKind.function) = true) := (show ¬ ((!((2 : Nat) == 2 || (2 : Nat) == 3) || (2 : Nat) != 2 || ScopeKind.function != ScopeKind.function) = true) by decide)
  rw [if_neg d1, if_neg (by rw [Bool.not_eq_true]; exact st)]
  simp only [List.length_cons, List.length_nil, hf', hc', List.head?_cons, Option.map_some, Option.getD_some, Expr.pos, List.filterMap_cons, List.filterMap_nil, ky, kz, hln, beq_self_eq_true, Bool.and_self, if_true, List.eraseDups_cons, List.filter_cons, List.filter_nil, hne', Bool.not_false, List.eraseDups_nil]
  rfl
theorem left_sw {es : List Expr} {k : Nat} {pt : Pos} {e : Expr} {env : PySem.Env} (h : leftB es e = true) : swappedStores [.Tuple es k pt] e env = pure none := by
  unfold leftB at h
  split at h
  · unfold swappedStores
    have h' : (!(es.length == 2 || es.length == 3) || _) = true := h
    rw [Bool.or_eq_true] at h'
    simp only [pure_bind]
    rw [if_pos]
    rw [Bool.or_eq_true, Bool.or_eq_true]
    exact .inl h'
  · unfold swappedStores
    rename_i h2
    split
    · rename_i h3
      split at h3
      · rename_i h4
        cases h4
        exact (h2 _ _ _ rfl).elim
      · rename_i h4
        cases h4
      · cases h3
    · rfl
theorem asg_ok (ok : TOk T) (F : Cal T n Φ) (g : Gs T X N sc n) (hb : b.cs = T.cs) {i : Nat} {a : IE} {y : Str} {py pos : Pos} {e : Expr} (h : asgB T.tb N sc i a y py e = true) : PS X (.Assign [.Name y py] e pos) (tSt b (ex Φ T.gv wf (.asg i a))) := by
  unfold asgB at h
  simp only [Bool.and_eq_true] at h
  obtain ⟨⟨⟨h1, h2⟩, h3⟩, h4⟩ := h
  split at h4
  · rename_i t it cs a
    cases e with
    | ListComp el gens scope p2 =>
      have hh : (match Expr.ListComp el gens scope p2 with
        | .ListComp el [⟨tg, iter, ifs, z⟩] scope _ => decide (z = 0) && tgB N scope t tg && ckI T.tb N it sc iter && decide (ifs.length ≤ 1) && cks T.tb N cs scope ifs &&
          (ck T.tb N a scope).e el && blkC N sc scope (ownOf t tg) && noSet iter
        | _ => false) = true := h3
      split at hh
      · rename_i el' tg iter ifs z scope' p2' heq
        cases heq
        simp only [Bool.and_eq_true] at hh
        obtain ⟨⟨⟨⟨⟨⟨⟨k1, k2⟩, k3⟩, k0⟩, k4⟩, k5⟩, k6⟩, k7⟩ := hh
        have e0 := of_decide_eq_true k1
        subst e0
        refine js_setC (own := ownOf t tg) hb g h1 h4 (sndI ok F it X sc b g.g hb tg iter k3) (blk_ok g.g k6) ?_ ?_ ?_ ?_ (noSet_ok k7 _)
        · cases t with
          | one i =>
            unfold tgB at k2
            split at k2 <;> first | rfl | (rename_i q; cases q; done) | skip
            all_goals first | rfl | cases k2
          | two i j =>
            unfold tgB at k2
            split at k2 <;> first | rfl | (rename_i q; cases q; done) | skip
            all_goals first | rfl | cases k2
        · intro s H C cl fp
          exact tg_of (g.g.blk s H _ C cl fp) k2
        · intro s H C cl fp
          refine PTs.any fun b' hb' => ?_
          have gb := g.g.blk s H scope C cl fp
          have hl := of_decide_eq_true k0
          cases cs with
          | nil =>
            cases ifs with
            | nil => exact jt_nil
            | cons _ _ => cases k4
          | cons c r =>
            cases ifs with
            | nil => cases k4
            | cons y ys =>
              cases ys with
              | cons _ _ => simp at hl
              | nil =>
                cases r with
                | cons _ _ =>
                  have hh : ((ck T.tb N c scope).e y && false) = true := k4
                  simp at hh
                | nil =>
                  have hh : ((ck T.tb N c scope).e y && true) = true := k4
                  rw [Bool.and_true] at hh
                  exact jt_one ((snd ok F c).e _ scope b' gb hb' _ hh)
        · intro s H C cl fp
          exact PE.any fun b' hb' => ((snd ok F a).e _ _ b' (g.g.blk s H _ C cl fp) hb' _ k5).ev
      · cases hh
    | _ => cases h4
  · exact js_set g h1 h2 (by simpa using h4) ((snd ok F a).e X sc b g.g hb _ h3)
mutual
theorem sndS (ok : TOk T) (F : Cal T n Φ) : ∀ (s : IS) (X : Cx) (b : Bs), Gs T X N sc n → b.cs = T.cs → ∀ st, ckS T.tb N sc s st = true → PS X st (tSt b (ex Φ T.gv wf s))
  | .asg i a, X, b, g, hb, st, h => by
    unfold ckS at h
    split at h
    · exact asg_ok ok F g hb h
    · cases h
  | .asgT is a, X, b, g, hb, st, h => by
    unfold ckS at h
    split at h
    · simp only [Bool.and_eq_true] at h
      obtain ⟨⟨⟨h1, h2⟩, h3⟩, h4⟩ := h
      exact js_setT g hb h1 (by simpa using h2) (left_sw h3) ((snd ok F a).e X sc b g.g hb _ h4)
    · cases h
  | .asgP i j a c, X, b, g, hb, st, h => by
    unfold ckS at h
    split at h
    · simp only [Bool.and_eq_true] at h
      obtain ⟨⟨⟨⟨⟨h1, h2⟩, h3⟩, h4⟩, h5⟩, h6⟩ := h
      obtain ⟨ly, lz, hw⟩ := par_sw g h4
      exact js_par g h1 h2 (by simpa using h3) ly lz hw ((snd ok F a).e X sc b g.g hb _ h5) ((snd ok F c).e X sc b g.g hb _ h6)
    · cases h
  | .setI i k a, X, b, g, hb, st, h => by
    unfold ckS at h
    split at h
    · simp only [Bool.and_eq_true] at h
      obtain ⟨⟨⟨⟨h1, h2⟩, h3⟩, h4⟩, h5⟩ := h
      exact js_setI g hb h1 (by simpa using h2) ((snd ok F a).e X sc b g.g hb _ h3) ((snd ok F k).e X sc b g.g hb _ h4) h5
    · cases h
  | .dput i k a, X, b, g, hb, st, h => by
    unfold ckS at h
    split at h
    · simp only [Bool.and_eq_true] at h
      obtain ⟨⟨⟨h1, h2⟩, h3⟩, h4⟩ := h
      exact js_dput ok g hb h1 (by simpa using h2) ((snd ok F a).e X sc b g.g hb _ h3) ((snd ok F k).e X sc b g.g hb _ h4)
    · cases h
  | .expr a, X, b, g, hb, st, h => by
    unfold ckS at h
    split at h
    · simp only [Bool.and_eq_true] at h
      exact js_expr (by simpa using h.1) ((snd ok F a).e X sc b g.g hb _ h.2)
    · cases h
  | .ret a, X, b, g, hb, st, h => by
    unfold ckS at h
    split at h
    · exact js_ret ((snd ok F a).e X sc b g.g hb _ h)
    · cases h
  | .retV i, X, b, g, hb, st, h => by
    unfold ckS at h
    split at h
    · exact js_retV g h
    · cases h
  | .retN, X, b, g, hb, st, h => by
    unfold ckS at h
    split at h
    · exact js_retN
    · cases h
  | .pass, X, b, g, hb, st, h => by
    unfold ckS at h
    split at h
    · exact js_pass
    · exact js_doc
    · cases h
  | .never, X, b, g, hb, st, h => js_never
  | .brk, X, b, g, hb, st, h => by
    unfold ckS at h
    split at h
    · exact js_brk
    · cases h
  | .cont, X, b, g, hb, st, h => by
    unfold ckS at h
    split at h
    · exact js_cont
    · cases h
  | .ite c t f, X, b, g, hb, st, h => by
    unfold ckS at h
    split at h
    · simp only [Bool.and_eq_true] at h
      exact js_ite ((snd ok F c).e X sc b g.g hb _ h.1.1) (sndSs ok F t X b g hb _ h.1.2) (sndSs ok F f X b g hb _ h.2)
    · cases h
  | .for_ t it bd, X, b, g, hb, st, h => by
    unfold ckS at h
    split at h
    · simp only [Bool.and_eq_true] at h
      exact js_for g hb h.1.1.1 (sndI ok F it X sc b g.g hb _ _ h.1.1.2) h.1.2 (sndSs ok F bd X b g hb _ h.2)
    · cases h
  | .whl c bd, X, b, g, hb, st, h => by
    unfold ckS at h
    split at h
    · simp only [Bool.and_eq_true] at h
      exact js_whl g ((snd ok F c).e X sc b g.g hb _ h.1) (sndSs ok F bd X b g hb _ h.2)
    · cases h
theorem sndSs (ok : TOk T) (F : Cal T n Φ) : ∀ (s : ISs) (X : Cx) (b : Bs), Gs T X N sc n → b.cs = T.cs → ∀ st, ckSs T.tb N sc s st = true → PSs X st (tSt b (exs Φ T.gv wf s))
  | .nil, X, b, g, hb, st, h => by
    cases st with
    | nil => exact jss_nil
    | cons _ _ => cases h
  | .cons s r, X, b, g, hb, st, h => by
    cases st with
    | nil => cases h
    | cons y ys =>
      have hh : (ckS T.tb N sc s y && ckSs T.tb N sc r ys) = true := h
      simp only [Bool.and_eq_true] at hh
      exact jss_cons (sndS ok F s X b g hb y hh.1) (sndSs ok F r X b g hb ys hh.2)
end
end
end PD
/-! A def keeps its promise; all of them. -/
namespace PD
open PySem L2
/-- the lent arguments -/
def lentsOf (as : List (Bool × D)) (vs : List V) : List (Nat × Addr) := (List.range as.length).filterMap fun i => match as[i]?, vs[i]? with
  | some (true, _), some (V.ref a) => some (i, a)
  | _, _ => none
theorem mem_lents {as : List (Bool × D)} {vs : List V} {i : Nat} {a : Addr} : (i, a) ∈ lentsOf as vs ↔ ∃ d, as[i]? = some (true, d) ∧ vs[i]? = some (V.ref a) := by
  unfold lentsOf
  rw [List.mem_filterMap]
  constructor
  · rintro ⟨j, _, h⟩
    split at h
    · rename_i d b h1 h2
      cases h
      exact ⟨d, h1, h2⟩
    · cases h
  · rintro ⟨d, h1, h2⟩
    refine ⟨i, List.mem_range.mpr (List.getElem?_eq_some_iff.mp h1).1, ?_⟩
    rw [h1, h2]
theorem start_at {as : List (Bool × D)} {fn : Fn} {i : Nat} {f : Fl} {d : D} (h : (startEnv fn as)[i]? = some (some (f, d))) : ∃ b, as[i]? = some (b, d) ∧ f = if b then .lent else .fro := by
  unfold startEnv at h
  by_cases hi : i < as.length
  · rw [List.getElem?_append_left (by simpa using hi), List.getElem?_map] at h
    obtain ⟨p, h1, h2⟩ := Option.map_eq_some_iff.mp h
    cases h2
    exact ⟨p.1, h1, rfl⟩
  · rw [List.getElem?_append_right (by simpa using hi), List.getElem?_replicate] at h
    split at h <;> cases h
theorem post_at {env : Env} : ∀ {as ps : List (Bool × D)} {k : Nat}, postOf env as k = some ps → ps.length = as.length ∧ ∀ (i : Nat) (d : D) (b : Bool) (d' : D), as[i]? = some (true, d) → ps[i]? = some (b, d') → env[k + i]? = some (some (if b then Fl.lent else Fl.lfro, d'))
  | [], ps, k, h => by
    cases h
    exact ⟨rfl, fun i d b d' h => by simp at h⟩
  | (false, x) :: r, ps, k, h => by
    obtain ⟨qs, h1, h2⟩ := Option.map_eq_some_iff.mp h
    subst h2
    obtain ⟨l, ih⟩ := post_at h1
    refine ⟨congrArg (· + 1) l, fun i d b d' ha hp => ?_⟩
    cases i with
    | zero => simp at ha
    | succ i =>
      have := ih i d b d' (by simpa using ha) (by simpa using hp)
      rw [show k + (i + 1) = k + 1 + i by omega]
      exact this
  | (true, x) :: r, ps, k, h => by
    have h : (match getC env k with
      | some (.lent, d) => (postOf env r (k + 1)).map ((true, d) :: ·)
      | some (.lfro, d) => (postOf env r (k + 1)).map ((false, d) :: ·)
      | _ => none) = some ps := h
    have step : ∀ (b0 : Bool) (d0 : D), getC env k = some (if b0 then Fl.lent else Fl.lfro, d0) → (postOf env r (k + 1)).map ((b0, d0) :: ·) = some ps → ps.length = ((true, x) :: r).length ∧ ∀ (i : Nat) (d : D) (b : Bool) (d' : D), ((true, x) :: r)[i]? = some (true, d) → ps[i]? = some (b, d') → env[k + i]? = some (some (if b then Fl.lent else Fl.lfro, d')) := by
      intro b0 d0 hg hm
      obtain ⟨qs, h1, h2⟩ := Option.map_eq_some_iff.mp hm
      subst h2
      obtain ⟨l, ih⟩ := post_at h1
      refine ⟨congrArg (· + 1) l, fun i d b d' ha hp => ?_⟩
      cases i with
      | zero =>
        simp only [List.getElem?_cons_zero, Option.some.injEq, Prod.mk.injEq] at hp
        obtain ⟨rfl, rfl⟩ := hp
        exact getC_some hg
      | succ i =>
        have := ih i d b d' (by simpa using ha) (by simpa using hp)
        rw [show k + (i + 1) = k + 1 + i by omega]
        exact this
    split at h
    · rename_i d0 hg
      exact step true d0 hg h
    · rename_i d0 hg
      exact step false d0 hg h
    · cases h
section
variable {T : Tx} {n : Nat} {Φ : Phi} {wf : Nat}
theorem sat_start {H G : Hp} {as : List (Bool × D)} {vs : List V} {fn : Fn} {N : List Str} (A : ArgsOk T.cs H G as vs) (hN : N.length = fn.ns) (hl : as.length = fn.np) (hp : fn.np ≤ fn.ns) :
    Sat ⟨T.cs, H, G, lentsOf as vs⟩ (L2.start N vs) H G (startEnv fn as) := by
  refine ⟨?_, A.ex, Same.refl G, fun p o e _ => e, fun p o e => .inl e, fun q hq => ?_, fun i f d h => ?_, fun i j f g d e a hi hj hf hg h1 h2 => ?_⟩
  · unfold startEnv L2.start
    rw [List.length_append, List.length_append, List.length_map, List.length_map, List.length_replicate, List.length_replicate, hN, A.len]
  · obtain ⟨i, a⟩ := q
    obtain ⟨d, h1, h2⟩ := mem_lents.mp hq
    obtain ⟨a', e', _, ow⟩ := A.lent i d h1
    rw [h2] at e'
    cases e'
    exact ow.some
  · obtain ⟨b, h1, rfl⟩ := start_at h
    have hi : i < vs.length := by rw [A.len]; exact (List.getElem?_eq_some_iff.mp h1).1
    have at' : ∀ v, vs[i]? = some v → (L2.start N vs)[i]? = some (some v) := fun v hv => by
      unfold L2.start
      rw [List.getElem?_append_left (by simpa using hi), List.getElem?_map, hv]
      rfl
    cases b with
    | false =>
      obtain ⟨v, hv, r⟩ := A.fro i d h1
      exact ⟨v, at' v hv, r⟩
    | true =>
      obtain ⟨a, hv, ga, ow⟩ := A.lent i d h1
      exact ⟨_, at' _ hv, a, rfl, ga, mem_lents.mpr ⟨d, h1, hv⟩, ow⟩
  · obtain ⟨b, q1, rfl⟩ := start_at hi
    obtain ⟨c, q2, rfl⟩ := start_at hj
    have e1 : b = true := by cases b <;> first | rfl | cases hf
    have e2 : c = true := by cases c <;> first | rfl | cases hg
    subst e1 e2
    have gt : ∀ (k : Nat) (z : D), as[k]? = some (true, z) → (L2.start N vs)[k]? = some (some (V.ref a)) → vs[k]? = some (V.ref a) := fun k z hz hs => by
      have hk : k < vs.length := by rw [A.len]; exact (List.getElem?_eq_some_iff.mp hz).1
      unfold L2.start at hs
      rw [List.getElem?_append_left (by simpa using hk), List.getElem?_map] at hs
      obtain ⟨v, h3, h4⟩ := Option.map_eq_some_iff.mp hs
      cases h4
      exact h3
    exact A.apart i j d e a q1 q2 (gt i d q1 h1) (gt j e q2 h2)
theorem post_ok {H G : Hp} {as : List (Bool × D)} {vs : List V} {σ' : L2.St} {H' G' : Hp} {env' : Env} {v : V} {r : Bool × D} {ps : List (Bool × D)} (A : ArgsOk T.cs H G as vs) (hp : postOf env' as 0 = some ps) (g : Same G G')
    (S : Sat ⟨T.cs, H, G, lentsOf as vs⟩ σ' H' G' env') (q : ResAt ⟨T.cs, H, G, lentsOf as vs⟩ σ' H' G' env' v r.2 r.1) : PostOk T.cs H G as vs (r, ps) v H' G' := by
  obtain ⟨hl, hat⟩ := post_at hp
  refine ⟨g, S.ex, fun p o e hn => S.keep p o e fun q hq eq => ?_, fun p o e => ?_, fun p hn => ?_, fun e => ?_, fun e => ?_, hl, fun i d d' a ha hr hv => ?_, fun i d d' a ha hr hv => ?_⟩
  · obtain ⟨i, a⟩ := q
    obtain ⟨d, h1, h2⟩ := mem_lents.mp hq
    subst eq
    exact hn ⟨i, d, h1, h2⟩
  · rcases S.new p o e with h | h | ⟨⟨i, a⟩, hq, eq⟩
    · exact .inl h
    · exact .inr (.inl h)
    · obtain ⟨d, h1, h2⟩ := mem_lents.mp hq
      subst eq
      exact .inr (.inr ⟨i, d, h1, h2⟩)
  · obtain ⟨i, d, h1, h2⟩ := hn
    exact S.lents (i, p) (mem_lents.mpr ⟨d, h1, h2⟩)
  · obtain ⟨o, d⟩ := r
    cases e
    exact q
  · obtain ⟨o, d⟩ := r
    cases e
    obtain ⟨a, ea, ga, ha, ow, _⟩ := q
    exact ⟨a, ea, ga, ha, ow⟩
  · have he := hat i d false d' ha hr
    rw [Nat.zero_add] at he
    obtain ⟨u, hu, rp, a', ea, hm⟩ := S.slot i _ _ he
    obtain ⟨z, h1, h2⟩ := mem_lents.mp hm
    rw [hv] at h2
    cases h2
    rw [ea] at rp
    exact rp
  · have he := hat i d true d' ha hr
    rw [Nat.zero_add] at he
    obtain ⟨u, hu, a', ea, ga, hm, ow⟩ := S.slot i _ _ he
    obtain ⟨z, h1, h2⟩ := mem_lents.mp hm
    rw [hv] at h2
    cases h2
    exact ⟨ga, ow⟩
/-- what one def of the text must show -/
structure DefIs (T : Tx) (y : Str) (fn : Fn) : Prop where
  ex : ∃ (x qual : Str) (st : Stmt) (f : Addr) (fd : FuncData) (N ps : List Str), L2.Fun T.K x qual st f fd ∧ T.mg y = some (.ref f) ∧ Binds T.K fd ps [] ∧ FnScope N ps (defScope st) ∧
    ps.length = fn.np ∧ N.length = fn.ns ∧ ckSs T.tb N (defScope st) fn.body (defBody st) = true
theorem runG_of {qual x : Str} {st : Stmt} {f : Addr} {fd : FuncData} {N ps : List Str} {fn : Fn} (ok : TOk T) (F : Cal T n Φ) (U : L2.Fun T.K x qual st f fd) (bd : Binds T.K fd ps []) (S : FnScope N ps (defScope st))
    (hp : ps.length = fn.np) (hN : N.length = fn.ns) (hc : ckSs T.tb N (defScope st) fn.body (defBody st) = true) : RunG T (n + 1) f fd ps (SpD T.cs (runF Φ T.gv wf fn)) := by
  have hpl : fn.np ≤ fn.ns := by
    have := congrArg List.length S.pre
    rw [List.length_take] at this
    omega
  have lenq : ∀ as r, runF Φ T.gv wf fn as = some r → as.length = fn.np := by
    intro as r h
    unfold runF at h
    split at h
    · assumption
    · cases h
  have len : ∀ vs H Q E, SpD T.cs (runF Φ T.gv wf fn) vs H Q E → vs.length = ps.length := by
    rintro vs H Q E ⟨G, as, r, h, A, _⟩
    rw [A.len, lenq as r h, hp]
  refine ⟨len, fun A outer s H args us vs Q E hr hgd e0 hb rv hsp => ?_⟩
  obtain ⟨oc, od, kV, doc, pm, an, cdv, ct, osl, rfl, lk, hcd⟩ := U.ex
  have hvl := len _ _ _ _ hsp
  obtain ⟨G, as, r, hrun, Ar, k⟩ := hsp
  have kin : T.K.In s.heap := e0.mod.kin.keeps fun b o e => (e0.bs b o e).1
  have nolim : s.heap.NoLimit := e0.mod.nolimit.keeps fun b o e => (e0.bs b o e).1
  have kinds : ∀ y ∈ ps.zip us, (defScope st).names.lookup y.1 = some .local ∨ ((defScope st).names.lookup y.1 = some .cell ∧ ((cellsFrom (s.heap.objs.size + 1) (defScope st).names []).lookup y.1).isSome = true) := by
    rintro ⟨m, z⟩ hy
    rcases S.par m (List.of_mem_zip hy).1 with q | q
    · exact .inl q
    · exact .inr ⟨q, PySem.W.cellsFrom_some _ _ _ (.inl q)⟩
  refine codeAny_call_function (Room.depth hr) (kin _ _ lk) rfl S.co S.gen rfl (PySem.W.codeRec_of kin hcd) (hb _ _ _ _ ?_)
  refine wpAny_newFunctionEnv_cells S.kind kinds fun env he s1 x => ?_
  subst he
  refine ⟨nolim.keeps x.toInCall.keep, codeAny_func ?_⟩
  have I0 := inv_start (CX := CX0) (E := E) S hr.hd e0 hvl rv x
  have I := I0.wish fun _ _ => False
  have gs : Gs T (cxOf CX0 T.P T.w T.K T.mg T.base N qual (defScope st) f cdv A outer s H E).nox N (defScope st) n := by
    refine ⟨⟨rfl, rfl, rfl, rfl, rfl, rfl, fun _ => .inl rfl, S.nd, rfl, ?_, ?_, rfl, fun _ _ => .inl rfl⟩, rfl, S.kind⟩
    · exact hgd
    · exact Room.deeper (k := n + 64) (show Room (n + 64 + 1) A from hr.mono (by omega)) _
  have hal := lenq _ _ hrun
  have S0 := sat_start (fn := fn) (N := N) Ar hN hal hpl
  unfold runF at hrun
  rw [if_pos hal] at hrun
  have body := sndSs (wf := wf) ok F fn.body _ ⟨T.cs, H, G, lentsOf as vs⟩ gs rfl (defBody st) hc
  have goal : tSt ⟨T.cs, H, G, lentsOf as vs⟩ (exs Φ T.gv wf fn.body) { nx := fun _ H' => Q .non H', rt := Q } (L2.start N vs) H := by
    cases he : exs Φ T.gv wf fn.body (startEnv fn as) with
    | none =>
      rw [he] at hrun
      cases hrun
    | some p =>
      obtain ⟨env', fl⟩ := p
      rw [he] at hrun
      refine ⟨startEnv fn as, G, env', fl, he, S0, ?_⟩
      cases fl with
      | nx =>
        obtain ⟨pp, h1, h2⟩ := Option.map_eq_some_iff.mp hrun
        subst h2
        intro σ' H' G' g' S'
        exact k _ H' G' (post_ok (r := (false, .non)) Ar h1 g' S' .non)
      | rt o d =>
        obtain ⟨pp, h1, h2⟩ := Option.map_eq_some_iff.mp hrun
        subst h2
        intro σ' v H' G' g' S' q
        exact k v H' G' (post_ok (r := (o, d)) Ar h1 g' S' q)
      | bk => cases hrun
      | ct => cases hrun
  refine wpAny_mono (body.run [] s1 (L2.start N vs) H _ I goal) (fun fl s' hs => ?_) fun e s' hs => False.elim hs
  have fin : ∀ {σ' : L2.St} {H' : Hp} {v : V} {u : Value}, Inv (cxOf CX0 T.P T.w T.K T.mg T.base N qual (defScope st) f cdv A outer s H E) [] σ' H' s' → RelV v u → Q v H' → CE outer T.P T.w H s Q u s' := by
    intro σ' H' v u J rr q
    exact ⟨v, H', J.os, J.bare, J.base, J.hok, rr, q⟩
  cases fl with
  | ret u =>
    obtain ⟨v, σ', H', J, rr, q⟩ := hs
    exact fin J.unwish rr q
  | next =>
    obtain ⟨σ', H', J, q⟩ := hs
    exact fin (v := V.non) (u := Value.none) J.unwish rfl q
  | brk =>
    obtain ⟨_, _, _, q⟩ := hs
    exact False.elim q
  | cont =>
    obtain ⟨_, _, _, q⟩ := hs
    exact False.elim q
/-- all the defs -/
theorem all_defs (ok : TOk T) {fns : Nat → Option Fn} (D : ∀ f y, T.fnm f = some y → ∃ fn, fns f = some fn ∧ DefIs T y fn) : ∀ n, Cal T n (callF fns T.gv wf n)
  | 0, f, y, hy => by
    obtain ⟨fn, _, x, qual, st, a, fd, N, ps, U, m, bd, S, hp, hN, hc⟩ := D f y hy
    refine ⟨a, fd, ps, m, U.kp, bd, ?_, ?_⟩
    · rintro vs H Q E ⟨G, as, r, h, _⟩
      cases h
    · rintro A outer s H args us vs Q E _ _ _ _ _ ⟨G, as, r, h, _⟩
      cases h
  | n + 1, f, y, hy => by
    obtain ⟨fn, hf, x, qual, st, a, fd, N, ps, U, m, bd, S, hp, hN, hc⟩ := D f y hy
    have e : callF fns T.gv wf (n + 1) f = runF (callF fns T.gv wf n) T.gv wf fn := by
      funext as
      show (match fns f with | some fn => runF (callF fns T.gv wf n) T.gv wf fn as | none => none) = _
      rw [hf]
    rw [e]
    exact ⟨a, fd, ps, m, U.kp, bd, runG_of ok (all_defs ok D n) U bd S hp hN hc⟩
end
end PD
/-! The head of a law whose def keeps the evaluator's promise. -/
namespace PD
open PySem L2 PySem.Spec PyProof.Rows
/-- the law's def at the script's address, in a state whose tracked part is H -/
theorem headAt {T : Tx} {n : Nat} {fa a : Addr} {fd : FuncData} {x : Str} {φ : List (Bool × D) → Option ((Bool × D) × List (Bool × D))} {ps : List (Bool × D)} {st : Shared} {ns : List Int} {H : Hp}
    (F : RunG T n fa fd [x] (SpD T.cs φ)) (e0 : Env0 T.P T.w T.K T.mg T.base callerA [] st H) (room : Room (n + 64) callerA) (bd : BindsTo st fd ⟨[.ref a], []⟩ [(x, .ref a)])
    (hS : SqL T.K H a (ns.map V.int)) (law : φ [(false, .scr ns)] = some ((false, .bl true), ps)) (only : ∀ b o, H b = some o → ∃ ob xs, o = .frz ob (.lst xs)) :
    codeAny (model T.P T.w) callerA (.call (.ref fa) ⟨[.ref a], []⟩) (fun r s' => r = .ok (.ret (.bool true)) ∧ OldK st.heap s'.heap ∧ s'.os = st.os ∧ AllBare s'.gens) st := by
  have sp : SpD T.cs φ [.ref a] H (fun v _ => v = .bl true) fun _ _ _ => False := by
    refine ⟨H, [(false, .scr ns)], _, law, ⟨rfl, Same.refl H, fun i d h => ?_, fun i d h => ?_, fun i j d e b h => ?_⟩, fun v H' G' q => ?_⟩
    · cases i with
      | zero =>
        cases h
        exact ⟨_, rfl, .scr hS⟩
      | succ i => cases h
    · cases i with
      | zero => cases h
      | succ i => cases h
    · cases i with
      | zero => cases h
      | succ i => cases h
    · have r := q.resF rfl
      cases r
      rfl
  refine codeAny_mono (F.run callerA [] st H ⟨[.ref a], []⟩ [.ref a] [.ref a] _ _ room rfl e0 bd (.cons rfl .nil) sp) fun r s' h => ?_
  cases r with
  | error e => exact False.elim h
  | ok fl =>
    cases fl with
    | ret u =>
      obtain ⟨v, H', os, bare, un, ok', rv, q⟩ := h
      have q' : v = .bl true := q
      subst q'
      obtain rfl : u = Value.bool true := rv
      refine ⟨rfl, OldK.of_keep fun b o e => ?_, os, bare⟩
      cases hb : H b with
      | none => exact un.keep b o e hb (fun z => nomatch z) (fun z => nomatch z)
      | some u =>
        obtain ⟨ob, xs, rfl⟩ := only b u hb
        obtain ⟨e1, _⟩ := e0.hok b _ hb
        obtain ⟨e2, _⟩ := ok' b _ (un.frzs b ob _ hb)
        rw [e] at e1
        cases e1
        exact e2
    | next => exact False.elim h
    | brk => exact False.elim h
    | cont => exact False.elim h
/-- what is tracked at the start: nothing, or the script -/
theorem env_of {P : Program} {w : World} {K : PySem.W.Frag} {mg mb : Str → Option Value} {st : Shared} {a : Addr} {vs : List Value} {H : Hp} (kin : K.In st.heap) (gn : st.heap.Ns mainGlobals mg) (bn : st.heap.Ns builtinsNs mb) (bb : ∀ x : Str, x ≠ "__name__" → mb x = bootBuiltins x)
    (nl : st.heap.NoLimit) (gs : st.gens = #[]) (ha : st.heap.get? a = some { cls := .type "list", data := .seq vs.toArray }) (only : ∀ b, H b ≠ none → b = a) (out : H a ≠ none → K.lookup a = none) (hok : HOk P w H st.heap) :
    Env0 P w K mg (hidT st.heap H) callerA [] st H ∧ K.In (hidT st.heap H) ∧ (hidT st.heap H).Ns mainGlobals mg := by
  have away : ∀ {b : Addr} {o : Obj} {es : Array DictEntry} {ep : Nat}, st.heap.get? b = some o → o.data = .dict es ep → H b = none := by
    intro b o es ep e d
    by_cases hb : H b = none
    · exact hb
    · have := only b hb
      subst this
      rw [ha] at e
      cases e
      cases d
  have nsH : ∀ {b : Addr} {m : Str → Option Value}, st.heap.Ns b m → (hidT st.heap H).Ns b m := by
    rintro b m ⟨o, es, ep, e, d, r⟩
    exact ⟨o, es, ep, hidT_get e (away e d), d, r⟩
  have kinH : K.In (hidT st.heap H) := by
    intro b o e
    refine hidT_get (kin b o e) ?_
    by_cases hb : H b = none
    · exact hb
    · have := only b hb
      subst this
      rw [out hb] at e
      cases e
  obtain ⟨mc, m1, m2⟩ := nl
  exact ⟨⟨rfl, ⟨kinH, nsH gn, ⟨mb, nsH bn, bb⟩, ⟨mc, nsH m1, m2⟩⟩, fun b o e => of_hidT e, Nat.le_of_eq (hidT_size _ _), trivial, fun b z => (nomatch z), hok, .of_eq gs⟩, kinH, nsH gn⟩
theorem walkD {l : PySem.W.OpenLaw} {m n : Nat} {q : Program} {loose : List Str} {XP : (Str → Option Value) → Heap → Prop} {YP : World → Heap → Prop} {d : DefRec} {K : Params → PySem.W.Frag} {W : List Str} {fnm gnm gdm : Nat → Option Str} {gv : Nat → D}
    {φ : List (Bool × D) → Option ((Bool × D) × List (Bool × D))} (hm : l.most = some m) (hm2 : m ≤ sizeLine) (hdf : d.params.defaults = []) (room : Room (n + 64) callerA) (hY : ∀ (w : World) (h : Heap), YP w h → (K w.params).In h)
    (F : ∀ (w : World) (mg : Str → Option Value) (fa : Addr) (h : Heap), (K w.params).In h → h.Ns mainGlobals mg → mg d.name = some (.ref fa) →
      ∃ (fd : FuncData) (x : Str), (∀ (s : Shared) (u : Value), BindsTo s fd ⟨[u], []⟩ [(x, u)]) ∧
        ∀ base : Heap, RunG ⟨l.prog, w, K w.params, mg, base, W, fnm, gnm, gdm, gv⟩ n fa fd [x] (SpD ⟨K w.params, W, w⟩ φ))
    (law : ∀ ns : List Int, ns.length ≤ m → ∃ ps, φ [(false, .scr ns)] = some ((false, .bl true), ps)) :
    PySem.W.WalkO q loose XP YP l.row.toRowW d [] (fun f vs => PySem.call f vs) := by
  refine Att.attach_call hm hdf fun w s₀ st mg mb fa o pm cd doc a vs ns G Y ho hd hcd hmg ha hints hlen hg => ?_
  have kin := hY w _ Y
  obtain ⟨fd, x, bd, hF⟩ := F w mg fa _ kin G.T.g hmg
  obtain ⟨ps, hl⟩ := law ns hlen
  have rv := vals_ints hints
  have lv := hints.length
  have big : ns.length ≤ sizeLine := Nat.le_trans hlen hm2
  have fin : ∀ H : Hp, SqL (K w.params) H a (ns.map V.int) → (∀ b, H b ≠ none → b = a) → (H a ≠ none → (K w.params).lookup a = none) → HOk l.prog w H st.heap → (∀ b o, H b = some o → ∃ ob xs, o = .frz ob (.lst xs)) →
      codeAny (model l.prog w) callerA (.call (.ref fa) ⟨[.ref a], []⟩) (fun r s' => r = .ok (.ret (.bool true)) ∧ OldK st.heap s'.heap ∧ s'.os = st.os ∧ AllBare s'.gens) st := by
    intro H hS h1 h2 h3 h4
    obtain ⟨e0, kb, nb⟩ := env_of kin G.T.g G.T.b G.T.builtins G.T.nolimit hg ha h1 h2 h3
    exact headAt (T := ⟨l.prog, w, K w.params, mg, hidT st.heap H, W, fnm, gnm, gdm, gv⟩) (hF _) e0 room (bd _ _) hS hl h4
  cases hk : (K w.params).lookup a with
  | some ob =>
    have e := kin a ob hk
    rw [ha] at e
    cases e
    exact fin (fun _ => none) (.inr ⟨_, vs.toArray, _, hk, rfl, rfl, rfl, by rw [List.size_toArray, lv]; exact big, by simpa using rv⟩) (fun b z => absurd rfl z) (fun z => absurd rfl z) (fun b u z => nomatch (show (none : Option HO) = some u from z)) fun b u z => nomatch (show (none : Option HO) = some u from z)
  | none =>
    have at' : ∀ {b : Addr} {u : HO}, (if b = a then some (HO.frz { cls := .type "list", data := .seq vs.toArray } (.lst (ns.map V.int))) else none) = some u → b = a ∧ u = .frz { cls := .type "list", data := .seq vs.toArray } (.lst (ns.map V.int)) := by
      intro b u z
      by_cases hb : b = a
      · rw [if_pos hb] at z
        cases z
        exact ⟨hb, rfl⟩
      · rw [if_neg hb] at z
        cases z
    refine fin (fun b => if b = a then some (.frz { cls := .type "list", data := .seq vs.toArray } (.lst (ns.map V.int))) else none) (.inl (.inr ⟨{ cls := .type "list", data := .seq vs.toArray }, if_pos rfl⟩)) (fun b z => ?_) (fun _ => hk) (fun b u z => ?_) fun b u z => ⟨_, _, (at' z).2⟩
    · by_cases hb : b = a
      · exact hb
      · exact absurd (if_neg hb) z
    · obtain ⟨rfl, rfl⟩ := at' z
      exact ⟨ha, by rw [List.length_map]; exact big, vs, _, rv, ha⟩
end PD
/-! What the written part shows of the defs and constants. -/
namespace PD
open PySem L2
section
variable {K : PySem.W.Frag} {W : List Str} {w : World}
def RepK (K : PySem.W.Frag) (W : List Str) (w : World) (u : Value) (d : D) : Prop := ∃ v, RelV v u ∧ ∀ G, Rep ⟨K, W, w⟩ G v d
def RepsK (K : PySem.W.Frag) (W : List Str) (w : World) (us : List Value) (ds : List D) : Prop := ∃ vs, Vals vs us ∧ ∀ G, Reps ⟨K, W, w⟩ G vs ds
theorem repsK_nil : RepsK K W w [] [] := ⟨[], .nil, fun _ => .nil⟩
theorem repsK_cons {u : Value} {us : List Value} {d : D} {ds : List D} (h : RepK K W w u d) (r : RepsK K W w us ds) : RepsK K W w (u :: us) (d :: ds) := by
  obtain ⟨v, h1, h2⟩ := h
  obtain ⟨vs, r1, r2⟩ := r
  exact ⟨v :: vs, .cons h1 r1, fun G => .cons (h2 G) (r2 G)⟩
theorem repK_non : RepK K W w .none .non := ⟨.non, rfl, fun _ => .non⟩
theorem repK_bl {b : Bool} : RepK K W w (.bool b) (.bl b) := ⟨.bl b, rfl, fun _ => .bl b⟩
theorem repK_int {i : Int} {t : Tok} : RepK K W w (.int i t) (.int i) := ⟨.int i, ⟨t, rfl⟩, fun _ => .int i⟩
theorem repK_w {x : Str} {t : Tok} {k : Nat} (h : W[k]? = some x) : RepK K W w (.str x t) (.w k) := ⟨.str x, ⟨t, rfl⟩, fun _ => .w h⟩
theorem repK_tup {a : Addr} {od : Option Addr} {its : Array Value} {n : Nat} {osl : Array (Option Value)} {ds : List D} (l : K.lookup a = some ⟨.type "tuple", od, .seq its n, osl⟩) (hs : its.size ≤ 1000) (h : RepsK K W w its.toList ds) : RepK K W w (.ref a) (.tup ds) := by
  obtain ⟨vs, h1, h2⟩ := h
  refine ⟨.ref a, rfl, fun G => .tup (.inr ⟨_, its, n, l, rfl, rfl, ?_, h1⟩) (h2 G)⟩
  unfold sizeLine
  omega
inductive EntK (K : PySem.W.Frag) (W : List Str) (w : World) (a : Addr) : List DK → List D → Prop where
  | nil : EntK K W w a [] []
  | cons {k : Nat} {x : Str} {u : Value} {d : D} {ks : List DK} {ds : List D} : W[k]? = some x → PySem.W.nsIn K a x = some (some u) → RepK K W w u d → EntK K W w a ks ds → EntK K W w a (.w k :: ks) (d :: ds)
def GlK (K : PySem.W.Frag) (W : List Str) (w : World) (x : Str) (d : D) : Prop := ∃ u, PySem.W.nsIn K mainGlobals x = some (some u) ∧ RepK K W w u d
theorem glK_mk {x : Str} {d : D} {u : Value} (h : PySem.W.nsIn K mainGlobals x = some (some u)) (r : RepK K W w u d) : GlK K W w x d := ⟨u, h, r⟩
def DcK (K : PySem.W.Frag) (W : List Str) (w : World) (x : Str) (d : D) : Prop := ∃ a es n ks vs, d = .dic ks vs ∧ PySem.W.nsIn K mainGlobals x = some (some (.ref a)) ∧ K.lookup a = some ⟨.type "dict", none, .dict es n, #[]⟩ ∧ PySem.W.KeysLit w.params es.toList ∧ EntK K W w a ks vs
theorem dcK_mk {x : Str} {a : Addr} {es : Array DictEntry} {n : Nat} {ks : List DK} {vs : List D} (h : PySem.W.nsIn K mainGlobals x = some (some (.ref a))) (l : K.lookup a = some ⟨.type "dict", none, .dict es n, #[]⟩) (lit : PySem.W.KeysLit w.params es.toList) (e : EntK K W w a ks vs) : DcK K W w x (.dic ks vs) := ⟨a, es, n, ks, vs, rfl, h, l, lit, e⟩
theorem EntK.find {a : Addr} : ∀ {ks : List DK} {vs : List D}, EntK K W w a ks vs → ∀ q d, findD ks vs q = some d → ∃ k x u, q = .w k ∧ W[k]? = some x ∧ PySem.W.nsIn K a x = some (some u) ∧ RepK K W w u d
  | _, _, .nil, q, d, h => nomatch h
  | _, _, .cons (k := k) (x := x) (u := u) (d := d0) h1 h2 h3 r, q, d, h => by
    by_cases e : DK.w k = q
    · have h : (if DK.w k = q then some d0 else findD _ _ q) = some d := h
      rw [if_pos e] at h
      cases h
      exact ⟨k, x, u, e.symm, h1, h2, h3⟩
    · have h : (if DK.w k = q then some d0 else findD _ _ q) = some d := h
      rw [if_neg e] at h
      exact EntK.find r q d h
def BltK (K : PySem.W.Frag) (xs : List Str) : Prop := ∀ x ∈ xs, PySem.W.nsIn K mainGlobals x = some none
theorem bltK_nil : BltK K [] := fun _ h => nomatch h
theorem bltK_cons {x : Str} {xs : List Str} (h : PySem.W.nsIn K mainGlobals x = some none) (r : BltK K xs) : BltK K (x :: xs) := fun y hy => (List.mem_cons.mp hy).elim (fun e => by rw [e]; exact h) (r y)
/-- a def behind the top, under the name y -/
def DefK (K : PySem.W.Frag) (y x : Str) (st : Stmt) : Prop := ∃ (f : Addr) (oc : Value) (od an : Option Addr) (osl : Array (Option Value)) (kV doc pm cdv ct : Value),
  PySem.W.nsIn K mainGlobals y = some (some (.ref f)) ∧ K.lookup f = some ⟨oc, od, .func (PySem.W.fnOf x x (defArgs st) (defBody st) (defScope st) .none kV doc pm an cdv ct), osl⟩ ∧ PySem.W.codeIn K cdv x = true ∧ PySem.W.keepIn K (.ref f) = true
theorem defK_mk {y x : Str} {st : Stmt} {f : Addr} {oc : Value} {od an : Option Addr} {osl : Array (Option Value)} {kV doc pm cdv ct : Value} (a : PySem.W.nsIn K mainGlobals y = some (some (.ref f)))
    (l : K.lookup f = some ⟨oc, od, .func (PySem.W.fnOf x x (defArgs st) (defBody st) (defScope st) .none kV doc pm an cdv ct), osl⟩) (c : PySem.W.codeIn K cdv x = true) (k : PySem.W.keepIn K (.ref f) = true) : DefK K y x st := ⟨f, oc, od, an, osl, kV, doc, pm, cdv, ct, a, l, c, k⟩
/-- its text, known without the top -/
structure DefT (t : Tb) (x : Str) (st : Stmt) (ps N : List Str) (fn : Fn) : Prop where
  bd : ∀ (kV doc pm : Value) (an : Option Addr) (cdv ct : Value) (us : List Value), us.length = ps.length → bindArgs (PySem.W.fnOf x x (defArgs st) (defBody st) (defScope st) .none kV doc pm an cdv ct) ⟨us, []⟩ = pure (ps.zip us)
  sc : FnScope N ps (defScope st)
  np : ps.length = fn.np
  ns : N.length = fn.ns
  ck : ckSs t N (defScope st) fn.body (defBody st) = true
inductive DefsK (K : PySem.W.Frag) (t : Tb) : List Str → List Fn → Prop where
  | nil : DefsK K t [] []
  | cons {y x : Str} {st : Stmt} {ps N : List Str} {fn : Fn} {ys : List Str} {fns : List Fn} : DefK K y x st → DefT t x st ps N fn → DefsK K t ys fns → DefsK K t (y :: ys) (fn :: fns)
theorem DefsK.get {t : Tb} : ∀ {ys : List Str} {fns : List Fn}, DefsK K t ys fns → ∀ (f : Nat) (y : Str), ys[f]? = some y → ∃ fn x st ps N, fns[f]? = some fn ∧ DefK K y x st ∧ DefT t x st ps N fn
  | _, _, .nil, f, y, h => by simp at h
  | _, _, .cons h1 h2 r, 0, y, h => by
    cases h
    exact ⟨_, _, _, _, _, rfl, h1, h2⟩
  | _, _, .cons h1 h2 r, f + 1, y, h => by
    obtain ⟨fn, x, st, ps, N, e, q⟩ := r.get f y (by simpa using h)
    exact ⟨fn, x, st, ps, N, by simpa using e, q⟩
inductive GlsK (K : PySem.W.Frag) (W : List Str) (w : World) : List Str → List D → Prop where
  | nil : GlsK K W w [] []
  | cons {x : Str} {d : D} {xs : List Str} {ds : List D} : GlK K W w x d → GlsK K W w xs ds → GlsK K W w (x :: xs) (d :: ds)
theorem GlsK.get : ∀ {xs : List Str} {ds : List D}, GlsK K W w xs ds → ∀ (g : Nat) (x : Str), xs[g]? = some x → GlK K W w x (ds.getD g .non)
  | _, _, .nil, g, x, h => by simp at h
  | _, _, .cons h1 r, 0, x, h => by
    cases h
    exact h1
  | _, _, .cons h1 r, g + 1, x, h => r.get g x (by simpa using h)
inductive DcsK (K : PySem.W.Frag) (W : List Str) (w : World) : List Str → List D → Prop where
  | nil : DcsK K W w [] []
  | cons {x : Str} {d : D} {xs : List Str} {ds : List D} : DcK K W w x d → DcsK K W w xs ds → DcsK K W w (x :: xs) (d :: ds)
theorem DcsK.get : ∀ {xs : List Str} {ds : List D}, DcsK K W w xs ds → ∀ (g : Nat) (x : Str), xs[g]? = some x → DcK K W w x (ds.getD g .non)
  | _, _, .nil, g, x, h => by simp at h
  | _, _, .cons h1 r, 0, x, h => by
    cases h
    exact h1
  | _, _, .cons h1 r, g + 1, x, h => r.get g x (by simpa using h)
end
/-- the tables of a law: constants, dicts, defs -/
structure Lw where
  W : List Str
  gn : List Str
  gd : List D
  dn : List Str
  dd : List D
  fn : List Str
  ff : List Fn
namespace Lw
def gnm (l : Lw) (g : Nat) : Option Str := l.gn[g]?
def gdm (l : Lw) (g : Nat) : Option Str := if g < l.gn.length then none else l.dn[g - l.gn.length]?
def fnm (l : Lw) (f : Nat) : Option Str := l.fn[f]?
def fns (l : Lw) (f : Nat) : Option Fn := l.ff[f]?
def gv (l : Lw) (g : Nat) : D := if g < l.gn.length then l.gd.getD g .non else l.dd.getD (g - l.gn.length) .non
def tb (l : Lw) : Tb := ⟨l.W, l.fnm, l.gnm, l.gdm⟩
def tx (l : Lw) (P : Program) (w : World) (K : PySem.W.Frag) (mg : Str → Option Value) (base : Heap) : Tx := ⟨P, w, K, mg, base, l.W, l.fnm, l.gnm, l.gdm, l.gv⟩
end Lw
/-- all that the top shows -/
structure TopK (l : Lw) (K : PySem.W.Frag) (w : World) : Prop where
  blt : BltK K bltNames
  gls : GlsK K l.W w l.gn l.gd
  dcs : DcsK K l.W w l.dn l.dd
  defs : DefsK K l.tb l.fn l.ff
theorem top_ok {l : Lw} {P : Program} {w : World} {K : PySem.W.Frag} {h base : Heap} {mg : Str → Option Value} (X : K.In h) (G : h.Ns mainGlobals mg) (wok : WOk l.W) (T : TopK l K w) : TOk (l.tx P w K mg base) where
  wok := wok
  glob := fun g x e => by
    have e : l.gn[g]? = some x := e
    obtain ⟨u, h1, v, h2, h3⟩ := T.gls.get g x e
    refine ⟨v, u, PySem.W.mg_of X G h1, h2, fun G' => ?_⟩
    show Rep _ G' v (if g < l.gn.length then l.gd.getD g .non else l.dd.getD (g - l.gn.length) .non)
    rw [if_pos (List.getElem?_eq_some_iff.mp e).1]
    exact h3 G'
  gdic := fun g x e => by
    have e : (if g < l.gn.length then none else l.dn[g - l.gn.length]?) = some x := e
    split at e
    · cases e
    · rename_i hg
      obtain ⟨a, es, n, ks, vs, h1, h2, h3, h4, h5⟩ := T.dcs.get _ x e
      refine ⟨a, ks, vs, ?_, PySem.W.mg_of X G h2, fun q d hd => ?_⟩
      · show (if g < l.gn.length then l.gd.getD g .non else l.dd.getD (g - l.gn.length) .non) = _
        rw [if_neg hg]
        exact h1
      · obtain ⟨k, z, u, rfl, hk, hn, v, hr, hG⟩ := h5.find q d hd
        refine ⟨z, v, ?_, ⟨es, n, u, h3, h4, hn, hr⟩, hG⟩
        show (l.W[k]?).map Sum.inr = _
        rw [hk]
        rfl
  blt := fun x hx => PySem.W.mg_none_of X G (T.blt x hx)
theorem top_defs {l : Lw} {P : Program} {w : World} {K : PySem.W.Frag} {h base : Heap} {mg : Str → Option Value} (X : K.In h) (G : h.Ns mainGlobals mg) (wok : WOk l.W) (T : TopK l K w) (wf n : Nat) : Cal (l.tx P w K mg base) n (callF l.fns l.gv wf n) := by
  refine all_defs (T := l.tx P w K mg base) (top_ok X G wok T) (fun f y hy => ?_) n
  obtain ⟨fn, x, st, ps, N, h1, ⟨a, oc, od, an, osl, kV, doc, pm, cdv, ct, q1, q2, q3, q4⟩, D⟩ := T.defs.get f y hy
  have U := fun_mk (st := st) q2 q3 q4
  exact ⟨fn, h1, x, x, st, a, _, N, ps, U, PySem.W.mg_of X G q1, U.binds D.bd, D.sc, D.np, D.ns, D.ck⟩
/-- THE END of a law row, from the evaluator's answer -/
theorem walkL {l : PySem.W.OpenLaw} {m wf k fi : Nat} {q : Program} {loose : List Str} {XP : (Str → Option Value) → Heap → Prop} {YP : World → Heap → Prop} {d : DefRec} {K : Params → PySem.W.Frag} (L : Lw) (hm : l.most = some m) (hm2 : m ≤ sizeLine) (hdf : d.params.defaults = [])
    (room : Room (k + 1 + 64) callerA) (hY : ∀ (w : World) (h : Heap), YP w h → (K w.params).In h) (wok : WOk L.W) (hfi : L.fnm fi = some d.name) (T : ∀ w : World, TopK L (K w.params) w)
    (law : ∀ ns : List Int, ns.length ≤ m → ∃ ps, callF L.fns L.gv wf (k + 1) fi [(false, .scr ns)] = some ((false, .bl true), ps)) :
    PySem.W.WalkO q loose XP YP l.row.toRowW d [] (fun f vs => PySem.call f vs) := by
  refine walkD (n := k + 1) (W := L.W) (fnm := L.fnm) (gnm := L.gnm) (gdm := L.gdm) (gv := L.gv) hm hm2 hdf room hY (fun w mg fa h X G hmg => ?_) law
  obtain ⟨fn, x, st, ps, N, h1, ⟨a, oc, od, an, osl, kV, doc, pm, cdv, ct, q1, q2, q3, q4⟩, D⟩ := (T w).defs.get fi d.name hfi
  have e := (PySem.W.mg_of X G q1).symm.trans hmg
  cases e
  have np1 : ps.length = 1 := by
    rw [D.np]
    obtain ⟨r, hr⟩ := law [] (Nat.zero_le _)
    have e : callF L.fns L.gv wf (k + 1) fi = runF (callF L.fns L.gv wf k) L.gv wf fn := by
      funext as
      show (match L.fns fi with | some fn => runF (callF L.fns L.gv wf k) L.gv wf fn as | none => none) = _
      rw [show L.fns fi = some fn from h1]
    rw [e] at hr
    unfold runF at hr
    split at hr
    · rename_i hl
      exact hl.symm
    · cases hr
  match ps, np1, D with
  | [p], _, D =>
    have U := fun_mk (st := st) q2 q3 q4
    refine ⟨_, p, fun s u => .of_eq (D.bd kV doc pm an cdv ct [u] rfl), fun base => ?_⟩
    have e : callF L.fns L.gv wf (k + 1) fi = runF (callF L.fns L.gv wf k) L.gv wf fn := by
      funext as
      show (match L.fns fi with | some fn => runF (callF L.fns L.gv wf k) L.gv wf fn as | none => none) = _
      rw [show L.fns fi = some fn from h1]
    rw [e]
    exact runG_of (T := L.tx l.prog w (K w.params) mg base) (n := k) (top_ok X G wok (T w)) (top_defs X G wok (T w) wf k) U (U.binds D.bd) D.sc D.np D.ns D.ck
end PD
/-! Reading a body: what must hold so that the evaluator answers so. -/
namespace PD
def getK : Env → Nat → (Fl → D → Prop) → Prop
  | some (f, d) :: _, 0, k => k f d
  | _ :: r, n + 1, k => getK r n k
  | _, _, _ => False
def setK : Env → Nat → Cell → (Env → Prop) → Prop
  | _ :: r, 0, c, k => k (c :: r)
  | x :: r, n + 1, c, k => setK r n c fun r' => k (x :: r')
  | [], _, _, _ => False
def readK (e : Env) (i : Nat) (P : D → Env → Prop) : Prop := getK e i fun f d => match f with
  | .fro => P d e
  | .lfro => P d e
  | .own => setK e i (some (.fro, d)) (P d)
  | .lent => setK e i (some (.lfro, d)) (P d)
def ownK (e : Env) (i : Nat) (P : Fl → D → Prop) : Prop := getK e i fun f d => match f with
  | .own => P .own d
  | .lent => P .lent d
  | _ => False
def freeK : Env → Nat → Prop → Prop
  | none :: _, 0, P => P
  | some (.fro, _) :: _, 0, P => P
  | some (.own, _) :: _, 0, P => P
  | _ :: r, n + 1, P => freeK r n P
  | _, _, _ => False
def putK (e : Env) (i : Nat) (o : Bool) (d : D) (P : Env → Prop) : Prop := freeK e i (match o with
  | true => setK e i (some (.own, d)) P
  | false => setK e i (some (.fro, d)) P)
def argsK (e : Env) : List Arg → (List (Bool × D) → Prop) → Prop
  | [], k => k []
  | .v d :: r, k => argsK e r fun l => k ((false, d) :: l)
  | .s i :: r, k => getK e i fun f d => match f with
    | .own => argsK e r fun l => k ((true, d) :: l)
    | .lent => argsK e r fun l => k ((true, d) :: l)
    | .fro => argsK e r fun l => k ((false, d) :: l)
    | .lfro => argsK e r fun l => k ((false, d) :: l)
def postsK : List Arg → List (Bool × D) → Env → (Env → Prop) → Prop
  | [], _, e, k => k e
  | .v _ :: r, _ :: ps, e, k => postsK r ps e k
  | .s i :: r, p :: ps, e, k => getK e i fun f _ => match f with
    | .own => (match p with
      | (true, d) => setK e i (some (.own, d)) fun e' => postsK r ps e' k
      | (false, d) => setK e i (some (.fro, d)) fun e' => postsK r ps e' k)
    | .lent => (match p with
      | (true, d) => setK e i (some (.lent, d)) fun e' => postsK r ps e' k
      | (false, d) => setK e i (some (.lfro, d)) fun e' => postsK r ps e' k)
    | .fro => postsK r ps e k
    | .lfro => postsK r ps e k
  | _ :: _, [], e, k => False
def clearK : List Nat → Env → (Env → Prop) → Prop
  | [], e, k => k e
  | i :: is, e, k => setK e i none fun e' => clearK is e' k
def putTK : TGt → D → Env → (Env → Prop) → Prop
  | .one i, d, e, k => putK e i false d k
  | .two i j, .tup [a, b], e, k => putK e i false a fun e1 => putK e1 j false b k
  | _, _, _, _ => False
def putTsK : List Nat → List D → Env → (Env → Prop) → Prop
  | [], [], e, k => k e
  | i :: is, d :: ds, e, k => putK e i false d fun e1 => putTsK is ds e1 k
  | _, _, _, _ => False
def postK (e : Env) : List (Bool × D) → Nat → (List (Bool × D) → Prop) → Prop
  | [], _, k => k []
  | (false, d) :: r, i, k => postK e r (i + 1) fun l => k ((false, d) :: l)
  | (true, _) :: r, i, k => getK e i fun f d => match f with
    | .lent => postK e r (i + 1) fun l => k ((true, d) :: l)
    | .lfro => postK e r (i + 1) fun l => k ((false, d) :: l)
    | _ => False
abbrev PE3 := Bool → D → Env → Prop
/-- an answer that is looked at by hand -/
@[irreducible] def Ask {α : Type} (x : Option α) (P : α → Prop) : Prop := ∃ a, x = some a ∧ P a
theorem ask {α : Type} {x : Option α} {P : α → Prop} {a : α} (h : x = some a) (k : P a) : Ask x P := by
  unfold Ask
  exact ⟨a, h, k⟩
theorem ask_ok {α : Type} {x : Option α} {P : α → Prop} (h : Ask x P) : ∃ a, x = some a ∧ P a := by
  unfold Ask at h
  exact h
structure Wm where
  ev : PE3 → Env → Prop
  lk : (D → Env → Prop) → Env → Prop
  t : (Bool → Env → Prop) → Env → Prop
  ar : (Arg → Env → Prop) → Env → Prop
def Wm.of (f : PE3 → Env → Prop) : Wm where
  ev := f
  lk := fun P => f fun _ d e => P d e
  t := fun P => f fun _ d e => ∃ b, trD d = some b ∧ P b e
  ar := fun P => f fun _ d e => P (.v d) e
structure Wms where
  ev : (List D → Env → Prop) → Env → Prop
  ar : (List Arg → Env → Prop) → Env → Prop
  t : (Bool → Env → Prop) → Env → Prop
def wcomp (f : D → (Option D → Env → Prop) → Env → Prop) : List D → (List D → Env → Prop) → Env → Prop
  | [], P, e => P [] e
  | x :: r, P, e => f x (fun o e1 => wcomp f r (fun ys e2 => P (match o with | some y => y :: ys | none => ys) e2) e1) e
def wfor0 (f : D → (Env → Flow → Prop) → Env → Prop) : List D → (Env → Flow → Prop) → Env → Prop
  | [], P, e => P e .nx
  | x :: r, P, e => f x (fun e1 fl => match fl with
    | .nx => wfor0 f r P e1
    | .ct => wfor0 f r P e1
    | .bk => P e1 .nx
    | .rt o d => P e1 (.rt o d)) e
def wwhl0 (c : (Bool → Env → Prop) → Env → Prop) (f : (Env → Flow → Prop) → Env → Prop) : Nat → (Env → Flow → Prop) → Env → Prop
  | 0, _, _ => False
  | n + 1, P, e => c (fun b e1 => match b with
    | false => P e1 .nx
    | true => f (fun e2 fl => match fl with
      | .nx => wwhl0 c f n P e2
      | .ct => wwhl0 c f n P e2
      | .bk => P e2 .nx
      | .rt o d => P e2 (.rt o d)) e1) e
@[irreducible] def wfor (f : D → (Env → Flow → Prop) → Env → Prop) (ds : List D) (P : Env → Flow → Prop) (e : Env) : Prop := wfor0 f ds P e
@[irreducible] def wwhl (c : (Bool → Env → Prop) → Env → Prop) (f : (Env → Flow → Prop) → Env → Prop) (n : Nat) (P : Env → Flow → Prop) (e : Env) : Prop := wwhl0 c f n P e
theorem wwhl_s {c : (Bool → Env → Prop) → Env → Prop} {f : (Env → Flow → Prop) → Env → Prop} {n : Nat} {P : Env → Flow → Prop} {e : Env} : wwhl c f (n + 1) P e = c (fun b e1 => match b with
    | false => P e1 .nx
    | true => f (fun e2 fl => match fl with
      | .nx => wwhl c f n P e2
      | .ct => wwhl c f n P e2
      | .bk => P e2 .nx
      | .rt o d => P e2 (.rt o d)) e1) e := by
  unfold wwhl
  rfl
theorem wwhl_0 {c : (Bool → Env → Prop) → Env → Prop} {f : (Env → Flow → Prop) → Env → Prop} {P : Env → Flow → Prop} {e : Env} : wwhl c f 0 P e = False := by
  unfold wwhl
  rfl
theorem wfor_n {f : D → (Env → Flow → Prop) → Env → Prop} {P : Env → Flow → Prop} {e : Env} : wfor f [] P e = P e .nx := by
  unfold wfor
  rfl
theorem wfor_c {f : D → (Env → Flow → Prop) → Env → Prop} {x : D} {r : List D} {P : Env → Flow → Prop} {e : Env} : wfor f (x :: r) P e = f x (fun e1 fl => match fl with
    | .nx => wfor f r P e1
    | .ct => wfor f r P e1
    | .bk => P e1 .nx
    | .rt o d => P e1 (.rt o d)) e := by
  unfold wfor
  rfl
theorem wcomp_n {f : D → (Option D → Env → Prop) → Env → Prop} {P : List D → Env → Prop} {e : Env} : wcomp f [] P e = P [] e := rfl
theorem wcomp_c {f : D → (Option D → Env → Prop) → Env → Prop} {x : D} {r : List D} {P : List D → Env → Prop} {e : Env} : wcomp f (x :: r) P e = f x (fun o e1 => wcomp f r (fun ys e2 => P (match o with | some y => y :: ys | none => ys) e2) e1) e := rfl
section
variable (Φ : Phi) (gv : Nat → D) (wf : Nat)
mutual
def wm : IE → Wm
  | .var i => { ev := fun P e => readK e i fun d e' => P false d e', lk := fun P e => getK e i fun _ d => P d e, t := fun P e => getK e i fun _ d => ∃ b, trD d = some b ∧ P b e, ar := fun P e => getK e i fun _ _ => P (.s i) e }
  | .never => Wm.of fun _ _ => False
  | .cI i => Wm.of fun P e => P false (.int i) e
  | .cB b => Wm.of fun P e => P false (.bl b) e
  | .cN => Wm.of fun P e => P false .non e
  | .cW k => Wm.of fun P e => P false (.w k) e
  | .gl g => Wm.of fun P e => P false (gv g) e
  | .bin op a b => Wm.of fun P e => (wm a).ev (fun _ x e1 => (wm b).ev (fun _ y e2 => ∃ d, binD op x y = some d ∧ P (isL d) d e2) e1) e
  | .neg a => Wm.of fun P e => (wm a).ev (fun _ x e1 => match x with | .int i => P false (.int (-i)) e1 | _ => False) e
  | .cmp op a b => Wm.of fun P e => (wm a).ev (fun _ x e1 => (wm b).lk (fun y e2 => ∃ r, cmpD op x y = some r ∧ P false (.bl r) e2) e1) e
  | .ch o1 o2 a b c => Wm.of fun P e => (wm a).ev (fun _ x e1 => (wm b).ev (fun _ y e2 => ∃ r, cmpD o1 x y = some r ∧ (match r with
      | true => (wm c).ev (fun _ z e3 => ∃ s, cmpD o2 y z = some s ∧ P false (.bl s) e3) e2
      | false => P false (.bl false) e2)) e1) e
  | .and_ a b => { Wm.of (fun P e => (wm a).ev (fun _ x e1 => match x with
      | .bl c => (match c with
        | true => (wm b).ev (fun _ y e2 => match y with | .bl c => P false (.bl c) e2 | _ => False) e1
        | false => P false (.bl false) e1)
      | _ => False) e) with t := fun P e => (wm a).t (fun c e1 => match c with | true => (wm b).t P e1 | false => P false e1) e }
  | .or_ a b => { Wm.of (fun P e => (wm a).ev (fun _ x e1 => match x with
      | .bl c => (match c with
        | false => (wm b).ev (fun _ y e2 => match y with | .bl c => P false (.bl c) e2 | _ => False) e1
        | true => P false (.bl true) e1)
      | _ => False) e) with t := fun P e => (wm a).t (fun c e1 => match c with | true => P true e1 | false => (wm b).t P e1) e }
  | .not_ a => { Wm.of (fun P e => (wm a).ev (fun _ x e1 => match x with | .bl c => P false (.bl (!c)) e1 | _ => False) e) with t := fun P e => (wm a).t (fun c e1 => P (!c) e1) e }
  | .ite c a b => { Wm.of (fun P e => (wm c).t (fun r e1 => match r with | true => (wm a).ev P e1 | false => (wm b).ev P e1) e) with t := fun _ _ => False }
  | .tup es => Wm.of fun P e => (wms es).ev (fun ds e1 => P false (.tup ds) e1) e
  | .lst es => Wm.of fun P e => (wms es).ev (fun ds e1 => P true (.lst ds) e1) e
  | .dnew => Wm.of fun P e => P true (.dic [] []) e
  | .idx a b => Wm.of fun P e => (wm a).ev (fun _ x e1 => (wm b).ev (fun _ y e2 => ∃ d, idxD x y = some d ∧ P false d e2) e1) e
  | .idxV i b => Wm.of fun P e => getK e i fun _ _ => (wm b).ev (fun _ y e1 => getK e1 i fun _ x => ∃ d, idxD x y = some d ∧ P false d e1) e
  | .slL a lo => Wm.of fun P e => (wm a).ev (fun _ x e1 => (wm lo).ev (fun _ y e2 => match y with | .int i => Ask (slD (some i) none x) fun d => P (isL d) d e2 | _ => False) e1) e
  | .slU a hi => Wm.of fun P e => (wm a).ev (fun _ x e1 => (wm hi).ev (fun _ y e2 => match y with | .int i => Ask (slD none (some i) x) fun d => P (isL d) d e2 | _ => False) e1) e
  | .slB a lo hi => Wm.of fun P e => (wm a).ev (fun _ x e1 => (wm lo).ev (fun _ y e2 => (wm hi).ev (fun _ z e3 => match y, z with | .int i, .int j => Ask (slD (some i) (some j) x) fun d => P (isL d) d e3 | _, _ => False) e2) e1) e
  | .slR a => Wm.of fun P e => (wm a).ev (fun _ x e1 => Ask (revD x) fun d => P (isL d) d e1) e
  | .call f es => Wm.of fun P e => (wms es).ar (fun as e1 => argsK e1 as fun vs => nodupN (lentAt e1 as) = true ∧ ∃ r, Φ f vs = some r ∧ (match r with | ((o, d), ps) => postsK as ps e1 fun e2 => P o d e2)) e
  | .bi b a => Wm.of fun P e => (wm a).lk (fun x e1 => ∃ r, biD b x = some r ∧ P r.1 r.2 e1) e
  | .b2 b a c => Wm.of fun P e => (wm a).ev (fun _ x e1 => (wm c).ev (fun _ y e2 => ∃ d, b2D b x y = some d ∧ P false d e2) e1) e
  | .isi t a => Wm.of fun P e => (wm a).ev (fun _ x e1 => ∃ r, isiD t x = some r ∧ P false (.bl r) e1) e
  | .tupR a => Wm.of fun P e => (wm a).ev (fun _ x e1 => match x with
      | .int n => (-1000000 ≤ n ∧ n ≤ 1000000) ∧ P false (.tup ((upto 0 n.toNat).map D.int)) e1
      | _ => False) e
  | .lstR a => Wm.of fun P e => (wm a).ev (fun _ x e1 => match x with
      | .int n => (-1000000 ≤ n ∧ n ≤ 1000000) ∧ P true (.lst ((upto 0 n.toNat).map D.int)) e1
      | _ => False) e
  | .comp t it cs a => Wm.of fun P e => wI it (fun ds e1 => (ds.length ≤ 1000000 ∧ (t.is.all (unset e1)) = true) ∧
      wcomp (fun x Q en => putTK t x en fun en1 => (wms cs).t (fun b en2 => match b with
        | true => (wm a).ev (fun _ y en3 => clearK t.is en3 (Q (some y))) en2
        | false => clearK t.is en2 (Q none)) en1) ds (fun ys e2 => P true (.lst ys) e2) e1) e
  | .dget i b => Wm.of fun P e => getK e i fun _ _ => (wm b).ev (fun _ y e1 => getK e1 i fun _ x => Ask (dgetD x y) fun d => P false d e1) e
  | .gget g b => Wm.of fun P e => (wm b).ev (fun _ y e1 => Ask (dgetD (gv g) y) fun d => P false d e1) e
  | .din neg a i => Wm.of fun P e => (wm a).ev (fun _ y e1 => getK e1 i fun _ x => Ask (dinD x y) fun b => P false (.bl (match neg with | true => !b | false => b)) e1) e
  | .app i a => Wm.of fun P e => getK e i fun _ z => isL z = true ∧ (wm a).ev (fun _ y e1 => ownK e1 i fun f d => match d with | .lst xs => xs.length < 1000000 ∧ setK e1 i (some (f, .lst (xs ++ [y]))) (P false .non) | _ => False) e
  | .ext i a => Wm.of fun P e => getK e i fun _ z => isL z = true ∧ (wm a).ev (fun _ y e1 => ownK e1 i fun f d => match d, y with | .lst xs, .lst ys => xs.length + ys.length ≤ 1000000 ∧ setK e1 i (some (f, .lst (xs ++ ys))) (P false .non) | _, _ => False) e
  | .popAt i a => Wm.of fun P e => getK e i fun _ z => isL z = true ∧ (wm a).ev (fun _ y e1 => ownK e1 i fun f d => match d, y with | .lst xs, .int k => (0 ≤ k ∧ k < 2 ^ 62) ∧ ∃ x, xs[k.toNat]? = some x ∧ setK e1 i (some (f, .lst (xs.eraseIdx k.toNat))) (P false x) | _, _ => False) e
  | .pop i => Wm.of fun P e => ownK e i fun f d => match d with | .lst xs => ∃ x, xs[xs.length - 1]? = some x ∧ setK e i (some (f, .lst xs.dropLast)) (P false x) | _ => False
  | .clear i => Wm.of fun P e => ownK e i fun f d => match d with | .lst _ => setK e i (some (f, .lst [])) (P false .non) | _ => False
def wms : IEs → Wms
  | .nil => { ev := fun P e => P [] e, ar := fun P e => P [] e, t := fun P e => P true e }
  | .cons a r => {
      ev := fun P e => (wm a).ev (fun _ x e1 => (wms r).ev (fun xs e2 => P (x :: xs) e2) e1) e
      ar := fun P e => (wm a).ar (fun x e1 => (wms r).ar (fun xs e2 => P (x :: xs) e2) e1) e
      t := fun P e => (wm a).t (fun b e1 => match b with | true => (wms r).t P e1 | false => P false e1) e }
def wI : IT → (List D → Env → Prop) → Env → Prop
  | .seq a => fun P e => (wm a).ev (fun _ x e1 => match x with
      | .lst xs => P xs e1
      | .tup xs => P xs e1
      | _ => False) e
  | .rng1 a => fun P e => (wm a).ev (fun _ x e1 => match x with
      | .int n => (-1000000 ≤ n ∧ n ≤ 1000000) ∧ P ((upto 0 n.toNat).map D.int) e1
      | _ => False) e
  | .rng2 a b => fun P e => (wm a).ev (fun _ x e1 => (wm b).ev (fun _ y e2 => match x, y with
      | .int m, .int n => (-1000000 ≤ m ∧ m ≤ 1000000 ∧ -1000000 ≤ n ∧ n ≤ 1000000) ∧ P ((upto m (n - m).toNat).map D.int) e2
      | _, _ => False) e1) e
end
mutual
def wS : IS → (Env → Flow → Prop) → Env → Prop
  | .asg i a => fun P e => (wm Φ gv a).ev (fun o d e1 => putK e1 i o d fun e2 => P e2 .nx) e
  | .asgT is a => fun P e => (wm Φ gv a).ev (fun _ d e1 => match d with
      | .tup xs => putTsK is xs e1 fun e2 => P e2 .nx
      | .lst xs => putTsK is xs e1 fun e2 => P e2 .nx
      | _ => False) e
  | .asgP i j a b => fun P e => (wm Φ gv a).ev (fun _ x e1 => (wm Φ gv b).ev (fun _ y e2 => putK e2 i false x fun e3 => putK e3 j false y fun e4 => P e4 .nx) e1) e
  | .setI i k a => fun P e => (wm Φ gv a).ev (fun _ x e1 => getK e1 i fun _ _ => (wm Φ gv k).ev (fun _ y e2 => ownK e2 i fun f d => match d, y with | .lst xs, .int n => (0 ≤ n ∧ n < xs.length) ∧ setK e2 i (some (f, .lst (xs.set n.toNat x))) fun e3 => P e3 .nx | _, _ => False) e1) e
  | .dput i k a => fun P e => (wm Φ gv a).ev (fun _ x e1 => getK e1 i fun _ _ => (wm Φ gv k).ev (fun _ y e2 => ownK e2 i fun f d => match d with | .dic ks vs => ∃ q, keyD y = some q ∧ ks.length < 1000000 ∧ (Ask (some (putD ks vs q x)) fun r => match r with | (k2, v2) => setK e2 i (some (f, .dic k2 v2)) fun e3 => P e3 .nx) | _ => False) e1) e
  | .expr a => fun P e => (wm Φ gv a).ev (fun _ _ e1 => P e1 .nx) e
  | .ret a => fun P e => (wm Φ gv a).ev (fun o d e1 => P e1 (.rt o d)) e
  | .retV i => fun P e => getK e i fun f d => match f with
      | .own => setK e i none fun e' => P e' (.rt true d)
      | .lent => setK e i (some (.lfro, d)) fun e' => P e' (.rt false d)
      | .fro => P e (.rt false d)
      | .lfro => P e (.rt false d)
  | .retN => fun P e => P e (.rt false .non)
  | .pass => fun P e => P e .nx
  | .never => fun _ _ => False
  | .brk => fun P e => P e .bk
  | .cont => fun P e => P e .ct
  | .ite c t f => fun P e => (wm Φ gv c).t (fun b e1 => match b with | true => wSs t P e1 | false => wSs f P e1) e
  | .for_ t it b => fun P e => wI Φ gv it (fun ds e1 => wfor (fun x Q en => putTK t x en fun en1 => wSs b Q en1) ds P e1) e
  | .whl c b => fun P e => wwhl (fun Q en => (wm Φ gv c).t Q en) (fun Q en => wSs b Q en) wf P e
def wSs : ISs → (Env → Flow → Prop) → Env → Prop
  | .nil => fun P e => P e .nx
  | .cons s r => fun P e => wS s (fun e1 fl => match fl with
      | .nx => wSs r P e1
      | .rt o d => P e1 (.rt o d)
      | .bk => P e1 .bk
      | .ct => P e1 .ct) e
end
end
end PD
namespace PD
structure Rd (s : Sm) (m : Wm) : Prop where
  ev : ∀ P e, m.ev P e → ∃ r, s.ev e = some r ∧ P r.1 r.2.1 r.2.2
  lk : ∀ P e, m.lk P e → ∃ r, s.lk e = some r ∧ P r.1 r.2
  t : ∀ P e, m.t P e → ∃ r, s.t e = some r ∧ P r.1 r.2
  ar : ∀ P e, m.ar P e → ∃ r, s.ar e = some r ∧ P r.1 r.2
structure Rds (s : Sms) (m : Wms) : Prop where
  ev : ∀ P e, m.ev P e → ∃ r, s.ev e = some r ∧ P r.1 r.2
  ar : ∀ P e, m.ar P e → ∃ r, s.ar e = some r ∧ P r.1 r.2
  t : ∀ P e, m.t P e → ∃ r, s.t e = some r ∧ P r.1 r.2
theorem Rd.of {f : Env → Option (Bool × D × Env)} {g : PE3 → Env → Prop} (h : ∀ P e, g P e → ∃ r, f e = some r ∧ P r.1 r.2.1 r.2.2) : Rd (Sm.of f) (Wm.of g) where
  ev := h
  lk := fun P e q => by
    obtain ⟨r, h1, h2⟩ := h _ e q
    exact ⟨(r.2.1, r.2.2), by show (f e).map _ = _; rw [h1]; rfl, h2⟩
  t := fun P e q => by
    obtain ⟨r, h1, b, h2, h3⟩ := h _ e q
    exact ⟨(b, r.2.2), by show (f e).bind _ = _; rw [h1, Option.bind_some, h2]; rfl, h3⟩
  ar := fun P e q => by
    obtain ⟨r, h1, h2⟩ := h _ e q
    exact ⟨(.v r.2.1, r.2.2), by show (f e).map _ = _; rw [h1]; rfl, h2⟩
theorem wcomp_ok {f : D → Env → Option (Option D × Env)} {g : D → (Option D → Env → Prop) → Env → Prop} (h : ∀ x P e, g x P e → ∃ r, f x e = some r ∧ P r.1 r.2) : ∀ ds P e, wcomp g ds P e → ∃ r, cloop f ds e = some r ∧ P r.1 r.2
  | [], P, e, q => ⟨([], e), rfl, q⟩
  | x :: r, P, e, q => by
    obtain ⟨⟨o, e1⟩, h1, h2⟩ := h x _ e q
    obtain ⟨⟨ys, e2⟩, h3, h4⟩ := wcomp_ok h r _ e1 h2
    have e0 : cloop f (x :: r) e = (match f x e with
      | none => none
      | some (o, env1) => match cloop f r env1 with
        | none => none
        | some (ys, env2) => some (match o with | some y => y :: ys | none => ys, env2)) := rfl
    rw [e0, h1]
    dsimp only
    rw [h3]
    cases o with
    | none => exact ⟨_, rfl, h4⟩
    | some y => exact ⟨_, rfl, h4⟩
theorem wfor_ok {f : D → Env → Option (Env × Flow)} {g : D → (Env → Flow → Prop) → Env → Prop} (h : ∀ x P e, g x P e → ∃ r, f x e = some r ∧ P r.1 r.2) : ∀ ds P e, wfor g ds P e → ∃ r, floop f ds e = some r ∧ P r.1 r.2
  | [], P, e, q => by
    rw [wfor_n] at q
    exact ⟨(e, .nx), rfl, q⟩
  | x :: r, P, e, q => by
    rw [wfor_c] at q
    obtain ⟨⟨e1, fl⟩, h1, h2⟩ := h x _ e q
    unfold floop
    rw [h1]
    cases fl with
    | nx => exact wfor_ok h r P e1 h2
    | ct => exact wfor_ok h r P e1 h2
    | bk => exact ⟨(e1, .nx), rfl, h2⟩
    | rt o d => exact ⟨(e1, .rt o d), rfl, h2⟩
theorem wwhl_ok {c : Env → Option (Bool × Env)} {f : Env → Option (Env × Flow)} {wc : (Bool → Env → Prop) → Env → Prop} {g : (Env → Flow → Prop) → Env → Prop} (hc : ∀ P e, wc P e → ∃ r, c e = some r ∧ P r.1 r.2) (h : ∀ P e, g P e → ∃ r, f e = some r ∧ P r.1 r.2) :
    ∀ n P e, wwhl wc g n P e → ∃ r, wloop c f n e = some r ∧ P r.1 r.2
  | 0, P, e, q => by
    rw [wwhl_0] at q
    exact q.elim
  | n + 1, P, e, q => by
    rw [wwhl_s] at q
    obtain ⟨⟨b, e1⟩, h1, h2⟩ := hc _ e q
    unfold wloop
    rw [h1]
    cases b with
    | false => exact ⟨(e1, .nx), rfl, h2⟩
    | true =>
      obtain ⟨⟨e2, fl⟩, h3, h4⟩ := h _ e1 h2
      dsimp only
      rw [h3]
      cases fl with
      | nx => exact wwhl_ok hc h n P e2 h4
      | ct => exact wwhl_ok hc h n P e2 h4
      | bk => exact ⟨(e2, .nx), rfl, h4⟩
      | rt o d => exact ⟨(e2, .rt o d), rfl, h4⟩
theorem getK_ok : ∀ {e : Env} {i : Nat} {k : Fl → D → Prop}, getK e i k → ∃ f d, getC e i = some (f, d) ∧ k f d
  | some (f, d) :: _, 0, k, h => ⟨f, d, rfl, h⟩
  | none :: r, n + 1, k, h => getK_ok (e := r) (i := n) h
  | some _ :: r, n + 1, k, h => getK_ok (e := r) (i := n) h
theorem setK_ok : ∀ {e : Env} {i : Nat} {c : Cell} {k : Env → Prop}, setK e i c k → k (e.set i c)
  | _ :: r, 0, c, k, h => h
  | x :: r, n + 1, c, k, h => setK_ok (e := r) (i := n) (k := fun r' => k (x :: r')) h
theorem readK_ok {e : Env} {i : Nat} {P : D → Env → Prop} (h : readK e i P) : ∃ p, readV e i = some p ∧ P p.1 p.2 := by
  obtain ⟨f, d, h1, h2⟩ := getK_ok h
  unfold readV
  rw [h1]
  cases f with
  | fro => exact ⟨_, rfl, h2⟩
  | lfro => exact ⟨_, rfl, h2⟩
  | own => exact ⟨_, rfl, setK_ok h2⟩
  | lent => exact ⟨_, rfl, setK_ok h2⟩
theorem lookK_ok {e : Env} {i : Nat} {k : Fl → D → Prop} (h : getK e i k) : ∃ f d, lookV e i = some d ∧ k f d := by
  obtain ⟨f, d, h1, h2⟩ := getK_ok h
  exact ⟨f, d, by unfold lookV; rw [h1]; rfl, h2⟩
theorem ownK_ok {e : Env} {i : Nat} {P : Fl → D → Prop} (h : ownK e i P) : ∃ f d, ownC e i = some (f, d) ∧ P f d := by
  obtain ⟨f, d, h1, h2⟩ := getK_ok h
  unfold ownC
  rw [h1]
  cases f with
  | own => exact ⟨_, _, rfl, h2⟩
  | lent => exact ⟨_, _, rfl, h2⟩
  | fro => exact h2.elim
  | lfro => exact h2.elim
theorem freeK_ok : ∀ {e : Env} {i : Nat} {P : Prop}, freeK e i P → freeC e i = true ∧ P
  | none :: _, 0, P, h => ⟨rfl, h⟩
  | some (.fro, _) :: _, 0, P, h => ⟨rfl, h⟩
  | some (.own, _) :: _, 0, P, h => ⟨rfl, h⟩
  | some (.lent, _) :: _, 0, P, h => h.elim
  | some (.lfro, _) :: _, 0, P, h => h.elim
  | none :: r, n + 1, P, h => freeK_ok (e := r) (i := n) h
  | some (.fro, _) :: r, n + 1, P, h => freeK_ok (e := r) (i := n) h
  | some (.own, _) :: r, n + 1, P, h => freeK_ok (e := r) (i := n) h
  | some (.lent, _) :: r, n + 1, P, h => freeK_ok (e := r) (i := n) h
  | some (.lfro, _) :: r, n + 1, P, h => freeK_ok (e := r) (i := n) h
theorem putK_ok {e : Env} {i : Nat} {o : Bool} {d : D} {P : Env → Prop} (h : putK e i o d P) : ∃ e2, putC e i o d = some e2 ∧ P e2 := by
  obtain ⟨h1, h2⟩ := freeK_ok h
  unfold putC
  rw [if_pos h1]
  cases o with
  | true => exact ⟨_, rfl, setK_ok h2⟩
  | false => exact ⟨_, rfl, setK_ok h2⟩
theorem argsK_ok {e : Env} : ∀ {as : List Arg} {k : List (Bool × D) → Prop}, argsK e as k → ∃ vs, argsOf e as = some vs ∧ k vs
  | [], k, h => ⟨[], rfl, h⟩
  | .v d :: r, k, h => by
    obtain ⟨vs, h1, h2⟩ := argsK_ok (as := r) h
    exact ⟨_, by show (argsOf e r).map _ = _; rw [h1]; rfl, h2⟩
  | .s i :: r, k, h => by
    obtain ⟨f, d, h1, h2⟩ := getK_ok h
    cases f with
    | own =>
      obtain ⟨vs, h3, h4⟩ := argsK_ok (as := r) h2
      exact ⟨_, by unfold argsOf; rw [h1]; show (argsOf e r).map _ = _; rw [h3]; rfl, h4⟩
    | lent =>
      obtain ⟨vs, h3, h4⟩ := argsK_ok (as := r) h2
      exact ⟨_, by unfold argsOf; rw [h1]; show (argsOf e r).map _ = _; rw [h3]; rfl, h4⟩
    | fro =>
      obtain ⟨vs, h3, h4⟩ := argsK_ok (as := r) h2
      exact ⟨_, by unfold argsOf; rw [h1]; show (argsOf e r).map _ = _; rw [h3]; rfl, h4⟩
    | lfro =>
      obtain ⟨vs, h3, h4⟩ := argsK_ok (as := r) h2
      exact ⟨_, by unfold argsOf; rw [h1]; show (argsOf e r).map _ = _; rw [h3]; rfl, h4⟩
theorem postsK_ok : ∀ {as : List Arg} {ps : List (Bool × D)} {e : Env} {k : Env → Prop}, postsK as ps e k → k (posts as ps e)
  | [], ps, e, k, h => by cases ps <;> exact h
  | .v _ :: r, _ :: ps, e, k, h => postsK_ok (as := r) (ps := ps) h
  | .s i :: r, p :: ps, e, k, h => by
    obtain ⟨f, d, h1, h2⟩ := getK_ok h
    show k (posts r ps (postArg e i p))
    unfold postArg
    rw [h1]
    obtain ⟨b, x⟩ := p
    cases f with
    | own => cases b <;> exact postsK_ok (as := r) (ps := ps) (setK_ok h2)
    | lent => cases b <;> exact postsK_ok (as := r) (ps := ps) (setK_ok h2)
    | fro => exact postsK_ok (as := r) (ps := ps) h2
    | lfro => exact postsK_ok (as := r) (ps := ps) h2
theorem clearK_ok : ∀ {is : List Nat} {e : Env} {k : Env → Prop}, clearK is e k → k (clearAt is e)
  | [], e, k, h => h
  | i :: is, e, k, h => clearK_ok (is := is) (setK_ok h)
theorem putTK_ok : ∀ {t : TGt} {d : D} {e : Env} {k : Env → Prop}, putTK t d e k → ∃ e2, putT t d e = some e2 ∧ k e2
  | .one i, d, e, k, h => putK_ok h
  | .two i j, .tup [a, b], e, k, h => by
    have h : putK e i false a fun e1 => putK e1 j false b k := h
    obtain ⟨e1, h1, h2⟩ := putK_ok h
    obtain ⟨e2, h3, h4⟩ := putK_ok h2
    exact ⟨e2, by show (putC e i false a).bind _ = _; rw [h1, Option.bind_some, h3], h4⟩
theorem putTsK_ok : ∀ {is : List Nat} {ds : List D} {e : Env} {k : Env → Prop}, putTsK is ds e k → ∃ e2, putTs is ds e = some e2 ∧ k e2
  | [], [], e, k, h => ⟨e, rfl, h⟩
  | i :: is, d :: ds, e, k, h => by
    have h : putK e i false d fun e1 => putTsK is ds e1 k := h
    obtain ⟨e1, h1, h2⟩ := putK_ok h
    obtain ⟨e2, h3, h4⟩ := putTsK_ok (is := is) (ds := ds) h2
    exact ⟨e2, by show (putC e i false d).bind _ = _; rw [h1, Option.bind_some, h3], h4⟩
theorem postK_ok {e : Env} : ∀ {as : List (Bool × D)} {i : Nat} {k : List (Bool × D) → Prop}, postK e as i k → ∃ ps, postOf e as i = some ps ∧ k ps
  | [], i, k, h => ⟨[], rfl, h⟩
  | (false, d) :: r, i, k, h => by
    obtain ⟨ps, h1, h2⟩ := postK_ok (as := r) h
    exact ⟨_, by show (postOf e r (i + 1)).map _ = _; rw [h1]; rfl, h2⟩
  | (true, x) :: r, i, k, h => by
    obtain ⟨f, d, h1, h2⟩ := getK_ok h
    unfold postOf
    rw [h1]
    cases f with
    | lent =>
      obtain ⟨ps, h3, h4⟩ := postK_ok (as := r) h2
      exact ⟨_, by show (postOf e r (i + 1)).map _ = _; rw [h3]; rfl, h4⟩
    | lfro =>
      obtain ⟨ps, h3, h4⟩ := postK_ok (as := r) h2
      exact ⟨_, by show (postOf e r (i + 1)).map _ = _; rw [h3]; rfl, h4⟩
    | own => exact h2.elim
    | fro => exact h2.elim
section
variable {Φ : Phi} {gv : Nat → D} {wf : Nat}
mutual
theorem wm_ok : ∀ a : IE, Rd (sem Φ gv a) (wm Φ gv a)
  | .var i => {
      ev := fun P e q => by
        obtain ⟨p, h, q⟩ := readK_ok q
        exact ⟨(false, p.1, p.2), by show (readV e i).map _ = _; rw [h]; rfl, q⟩
      lk := fun P e q => by
        obtain ⟨f, p, h, q⟩ := lookK_ok q
        exact ⟨(p, e), by show (lookV e i).map _ = _; rw [h]; rfl, q⟩
      t := fun P e q => by
        obtain ⟨f, p, h, b, h2, q⟩ := lookK_ok q
        exact ⟨(b, e), by show (lookV e i).bind _ = _; rw [h, Option.bind_some, h2]; rfl, q⟩
      ar := fun P e q => by
        obtain ⟨f, d, h, q⟩ := getK_ok q
        exact ⟨(.s i, e), by show (getC e i).map _ = _; rw [h]; rfl, q⟩ }
  | .never => Rd.of fun P e q => q.elim
  | .cI i => Rd.of fun P e q => ⟨_, rfl, q⟩
  | .cB b => Rd.of fun P e q => ⟨_, rfl, q⟩
  | .cN => Rd.of fun P e q => ⟨_, rfl, q⟩
  | .cW k => Rd.of fun P e q => ⟨_, rfl, q⟩
  | .gl g => Rd.of fun P e q => ⟨_, rfl, q⟩
  | .bin op a b => Rd.of fun P e q => by
    obtain ⟨p, h1, q⟩ := (wm_ok a).ev _ e q
    obtain ⟨p2, h2, d, h3, q⟩ := (wm_ok b).ev _ _ q
    exact ⟨_, by rw [h1, Option.bind_some, h2, Option.bind_some, h3]; rfl, q⟩
  | .neg a => Rd.of fun P e q => by
    obtain ⟨⟨o, x, e1⟩, h1, q⟩ := (wm_ok a).ev _ e q
    cases x <;> first | exact q.elim | exact ⟨_, by rw [h1]; rfl, q⟩
  | .cmp op a b => Rd.of fun P e q => by
    obtain ⟨p, h1, q⟩ := (wm_ok a).ev _ e q
    obtain ⟨p2, h2, d, h3, q⟩ := (wm_ok b).lk _ _ q
    exact ⟨_, by rw [h1, Option.bind_some, h2, Option.bind_some, h3]; rfl, q⟩
  | .ch o1 o2 a b c => Rd.of fun P e q => by
    obtain ⟨p, h1, q⟩ := (wm_ok a).ev _ e q
    obtain ⟨p2, h2, r, h3, q⟩ := (wm_ok b).ev _ _ q
    cases r with
    | false => exact ⟨_, by rw [h1, Option.bind_some, h2, Option.bind_some, h3]; rfl, q⟩
    | true =>
      obtain ⟨p3, h4, d, h5, q⟩ := (wm_ok c).ev _ _ q
      exact ⟨_, by rw [h1, Option.bind_some, h2, Option.bind_some, h3, Option.bind_some, if_pos rfl, h4, Option.bind_some, h5]; rfl, q⟩
  | .and_ a b => by
    have h : ∀ P e, (wm Φ gv (.and_ a b)).ev P e → ∃ r, (sem Φ gv (.and_ a b)).ev e = some r ∧ P r.1 r.2.1 r.2.2 := fun P e q => by
      obtain ⟨⟨o, x, e1⟩, h1, q⟩ := (wm_ok a).ev _ e q
      cases x with
      | bl c =>
        cases c with
        | false => exact ⟨_, by show ((sem Φ gv a).ev e).bind _ = _; rw [h1]; rfl, q⟩
        | true =>
          obtain ⟨⟨o2, y, e2⟩, h2, q⟩ := (wm_ok b).ev _ _ q
          cases y <;> first | exact q.elim | exact ⟨_, by show ((sem Φ gv a).ev e).bind _ = _; rw [h1, Option.bind_some]; show ((sem Φ gv b).ev e1).bind _ = _; rw [h2]; rfl, q⟩
      | _ => exact q.elim
    exact ⟨h, (Rd.of h).lk, fun P e q => by
        obtain ⟨⟨c, e1⟩, h1, q⟩ := (wm_ok a).t _ e q
        cases c with
        | false => exact ⟨_, by show ((sem Φ gv a).t e).bind _ = _; rw [h1]; rfl, q⟩
        | true =>
          obtain ⟨r, h2, q⟩ := (wm_ok b).t _ _ q
          exact ⟨r, by show ((sem Φ gv a).t e).bind _ = _; rw [h1, Option.bind_some, if_pos rfl, h2], q⟩, (Rd.of h).ar⟩
  | .or_ a b => by
    have h : ∀ P e, (wm Φ gv (.or_ a b)).ev P e → ∃ r, (sem Φ gv (.or_ a b)).ev e = some r ∧ P r.1 r.2.1 r.2.2 := fun P e q => by
      obtain ⟨⟨o, x, e1⟩, h1, q⟩ := (wm_ok a).ev _ e q
      cases x with
      | bl c =>
        cases c with
        | true => exact ⟨_, by show ((sem Φ gv a).ev e).bind _ = _; rw [h1]; rfl, q⟩
        | false =>
          obtain ⟨⟨o2, y, e2⟩, h2, q⟩ := (wm_ok b).ev _ _ q
          cases y <;> first | exact q.elim | exact ⟨_, by show ((sem Φ gv a).ev e).bind _ = _; rw [h1, Option.bind_some]; show ((sem Φ gv b).ev e1).bind _ = _; rw [h2]; rfl, q⟩
      | _ => exact q.elim
    exact ⟨h, (Rd.of h).lk, fun P e q => by
        obtain ⟨⟨c, e1⟩, h1, q⟩ := (wm_ok a).t _ e q
        cases c with
        | true => exact ⟨_, by show ((sem Φ gv a).t e).bind _ = _; rw [h1]; rfl, q⟩
        | false =>
          obtain ⟨r, h2, q⟩ := (wm_ok b).t _ _ q
          exact ⟨r, by show ((sem Φ gv a).t e).bind _ = _; rw [h1, Option.bind_some, if_neg Bool.false_ne_true, h2], q⟩, (Rd.of h).ar⟩
  | .not_ a => by
    have h : ∀ P e, (wm Φ gv (.not_ a)).ev P e → ∃ r, (sem Φ gv (.not_ a)).ev e = some r ∧ P r.1 r.2.1 r.2.2 := fun P e q => by
      obtain ⟨⟨o, x, e1⟩, h1, q⟩ := (wm_ok a).ev _ e q
      cases x <;> first | exact q.elim | exact ⟨_, by show ((sem Φ gv a).ev e).bind _ = _; rw [h1]; rfl, q⟩
    exact ⟨h, (Rd.of h).lk, fun P e q => by
        obtain ⟨⟨c, e1⟩, h1, q⟩ := (wm_ok a).t _ e q
        exact ⟨_, by show ((sem Φ gv a).t e).map _ = _; rw [h1]; rfl, q⟩, (Rd.of h).ar⟩
  | .ite c a b => by
    have h : ∀ P e, (wm Φ gv (.ite c a b)).ev P e → ∃ r, (sem Φ gv (.ite c a b)).ev e = some r ∧ P r.1 r.2.1 r.2.2 := fun P e q => by
      obtain ⟨⟨r, e1⟩, h1, q⟩ := (wm_ok c).t _ e q
      cases r with
      | true =>
        obtain ⟨p, h2, q⟩ := (wm_ok a).ev _ _ q
        exact ⟨p, by show ((sem Φ gv c).t e).bind _ = _; rw [h1, Option.bind_some, if_pos rfl, h2], q⟩
      | false =>
        obtain ⟨p, h2, q⟩ := (wm_ok b).ev _ _ q
        exact ⟨p, by show ((sem Φ gv c).t e).bind _ = _; rw [h1, Option.bind_some, if_neg Bool.false_ne_true, h2], q⟩
    exact ⟨h, (Rd.of h).lk, fun P e q => q.elim, (Rd.of h).ar⟩
  | .tup es => Rd.of fun P e q => by
    obtain ⟨p, h1, q⟩ := (wms_ok es).ev _ e q
    exact ⟨_, by rw [h1]; rfl, q⟩
  | .lst es => Rd.of fun P e q => by
    obtain ⟨p, h1, q⟩ := (wms_ok es).ev _ e q
    exact ⟨_, by rw [h1]; rfl, q⟩
  | .dnew => Rd.of fun P e q => ⟨_, rfl, q⟩
  | .idx a b => Rd.of fun P e q => by
    obtain ⟨p, h1, q⟩ := (wm_ok a).ev _ e q
    obtain ⟨p2, h2, d, h3, q⟩ := (wm_ok b).ev _ _ q
    exact ⟨_, by rw [h1, Option.bind_some, h2, Option.bind_some, h3]; rfl, q⟩
  | .idxV i b => Rd.of fun P e q => by
    obtain ⟨_, z, h0, q⟩ := lookK_ok q
    obtain ⟨p, h1, q⟩ := (wm_ok b).ev _ e q
    obtain ⟨_, x, h2, d, h3, q⟩ := lookK_ok q
    exact ⟨_, by rw [h0, Option.bind_some, h1, Option.bind_some, h2, Option.bind_some, h3]; rfl, q⟩
  | .slL a lo => Rd.of fun P e q => by
    obtain ⟨p, h1, q⟩ := (wm_ok a).ev _ e q
    obtain ⟨⟨o, y, e2⟩, h2, q⟩ := (wm_ok lo).ev _ _ q
    cases y with
    | int i =>
      obtain ⟨d, h3, q⟩ := ask_ok q
      exact ⟨_, by rw [h1, Option.bind_some, h2, Option.bind_some]; dsimp only; rw [h3]; rfl, q⟩
    | _ => exact q.elim
  | .slU a lo => Rd.of fun P e q => by
    obtain ⟨p, h1, q⟩ := (wm_ok a).ev _ e q
    obtain ⟨⟨o, y, e2⟩, h2, q⟩ := (wm_ok lo).ev _ _ q
    cases y with
    | int i =>
      obtain ⟨d, h3, q⟩ := ask_ok q
      exact ⟨_, by rw [h1, Option.bind_some, h2, Option.bind_some]; dsimp only; rw [h3]; rfl, q⟩
    | _ => exact q.elim
  | .slB a lo hi => Rd.of fun P e q => by
    obtain ⟨p, h1, q⟩ := (wm_ok a).ev _ e q
    obtain ⟨⟨o, y, e2⟩, h2, q⟩ := (wm_ok lo).ev _ _ q
    obtain ⟨⟨o3, z, e3⟩, h3, q⟩ := (wm_ok hi).ev _ _ q
    cases y with
    | int i =>
      cases z with
      | int j =>
        obtain ⟨d, h4, q⟩ := ask_ok q
        exact ⟨_, by rw [h1, Option.bind_some, h2, Option.bind_some, h3, Option.bind_some]; dsimp only; rw [h4]; rfl, q⟩
      | _ => exact q.elim
    | _ => cases z <;> exact q.elim
  | .slR a => Rd.of fun P e q => by
    obtain ⟨p, h1, q⟩ := (wm_ok a).ev _ e q
    obtain ⟨d, h2, q⟩ := ask_ok q
    exact ⟨_, by rw [h1, Option.bind_some, h2]; rfl, q⟩
  | .call f es => Rd.of fun P e q => by
    obtain ⟨⟨as, e1⟩, h1, q⟩ := (wms_ok es).ar _ e q
    obtain ⟨vs, h2, h3, ⟨⟨o, d⟩, ps⟩, h4, q⟩ := argsK_ok q
    exact ⟨_, by rw [h1, Option.bind_some]; dsimp only; rw [h2, Option.bind_some, if_pos h3, h4]; rfl, postsK_ok q⟩
  | .bi b a => Rd.of fun P e q => by
    obtain ⟨p, h1, d, h2, q⟩ := (wm_ok a).lk _ e q
    exact ⟨_, by rw [h1, Option.bind_some, h2]; rfl, q⟩
  | .b2 b a c => Rd.of fun P e q => by
    obtain ⟨p, h1, q⟩ := (wm_ok a).ev _ e q
    obtain ⟨p2, h2, d, h3, q⟩ := (wm_ok c).ev _ _ q
    exact ⟨_, by rw [h1, Option.bind_some, h2, Option.bind_some, h3]; rfl, q⟩
  | .isi t a => Rd.of fun P e q => by
    obtain ⟨p, h1, d, h2, q⟩ := (wm_ok a).ev _ e q
    exact ⟨_, by rw [h1, Option.bind_some, h2]; rfl, q⟩
  | .tupR a => Rd.of fun P e q => by
    obtain ⟨⟨o, x, e1⟩, h1, q⟩ := (wm_ok a).ev _ e q
    cases x with
    | int n => exact ⟨_, by rw [h1, Option.bind_some]; dsimp only; rw [if_pos q.1], q.2⟩
    | _ => exact q.elim
  | .lstR a => Rd.of fun P e q => by
    obtain ⟨⟨o, x, e1⟩, h1, q⟩ := (wm_ok a).ev _ e q
    cases x with
    | int n => exact ⟨_, by rw [h1, Option.bind_some]; dsimp only; rw [if_pos q.1], q.2⟩
    | _ => exact q.elim
  | .comp t it cs a => Rd.of fun P e q => by
    obtain ⟨⟨ds, e1⟩, h1, hn, q⟩ := wI_ok it _ e q
    obtain ⟨r, h2, q⟩ := wcomp_ok (f := fun x en => (putT t x en).bind fun e1 => ((sems Φ gv cs).t e1).bind fun b =>
          if b.1 then ((sem Φ gv a).ev b.2).map fun q => (some q.2.1, clearAt t.is q.2.2) else some (none, clearAt t.is b.2)) (fun x P e k0 => by
      obtain ⟨e1, k1, k2⟩ := putTK_ok k0
      obtain ⟨⟨b, e2⟩, k3, k4⟩ := (wms_ok cs).t _ e1 k2
      cases b with
      | true =>
        obtain ⟨p, k5, k6⟩ := (wm_ok a).ev _ _ k4
        exact ⟨_, by rw [k1, Option.bind_some, k3, Option.bind_some, if_pos rfl, k5]; rfl, clearK_ok k6⟩
      | false => exact ⟨_, by rw [k1, Option.bind_some, k3, Option.bind_some, if_neg Bool.false_ne_true], clearK_ok k4⟩) ds _ e1 q
    exact ⟨_, by rw [h1, Option.bind_some, if_pos hn, h2]; rfl, q⟩
  | .dget i b => Rd.of fun P e q => by
    obtain ⟨_, z, h0, q⟩ := lookK_ok q
    obtain ⟨p, h1, q⟩ := (wm_ok b).ev _ e q
    obtain ⟨_, x, h2, q⟩ := lookK_ok q
    obtain ⟨d, h3, q⟩ := ask_ok q
    exact ⟨_, by rw [h0, Option.bind_some, h1, Option.bind_some, h2, Option.bind_some, h3]; rfl, q⟩
  | .gget g b => Rd.of fun P e q => by
    obtain ⟨p, h1, q⟩ := (wm_ok b).ev _ e q
    obtain ⟨d, h2, q⟩ := ask_ok q
    exact ⟨_, by rw [h1, Option.bind_some, h2]; rfl, q⟩
  | .din neg a i => Rd.of fun P e q => by
    obtain ⟨p, h1, q⟩ := (wm_ok a).ev _ e q
    obtain ⟨_, x, h2, q⟩ := lookK_ok q
    obtain ⟨d, h3, q⟩ := ask_ok q
    exact ⟨_, by rw [h1, Option.bind_some, h2, Option.bind_some, h3]; rfl, by cases neg <;> exact q⟩
  | .app i a => Rd.of fun P e q => by
    obtain ⟨_, z, h0, hz, q⟩ := lookK_ok q
    obtain ⟨p, h1, q⟩ := (wm_ok a).ev _ e q
    obtain ⟨f, d, h2, q⟩ := ownK_ok q
    cases d with
    | lst xs => exact ⟨_, by rw [h0, Option.bind_some, if_pos hz, Option.bind_some, h1, Option.bind_some, h2]; dsimp only; rw [if_pos q.1], setK_ok q.2⟩
    | _ => exact q.elim
  | .ext i a => Rd.of fun P e q => by
    obtain ⟨_, z, h0, hz, q⟩ := lookK_ok q
    obtain ⟨⟨o, y, e1⟩, h1, q⟩ := (wm_ok a).ev _ e q
    obtain ⟨f, d, h2, q⟩ := ownK_ok q
    cases d with
    | lst xs =>
      cases y with
      | lst ys => exact ⟨_, by rw [h0, Option.bind_some, if_pos hz, Option.bind_some, h1, Option.bind_some]; dsimp only; rw [h2]; dsimp only; rw [if_pos q.1], setK_ok q.2⟩
      | _ => exact q.elim
    | _ => cases y <;> exact q.elim
  | .popAt i a => Rd.of fun P e q => by
    obtain ⟨_, z, h0, hz, q⟩ := lookK_ok q
    obtain ⟨⟨o, y, e1⟩, h1, q⟩ := (wm_ok a).ev _ e q
    obtain ⟨f, d, h2, q⟩ := ownK_ok q
    cases d with
    | lst xs =>
      cases y with
      | int k =>
        obtain ⟨h3, x, h4, q⟩ := q
        exact ⟨_, by rw [h0, Option.bind_some, if_pos hz, Option.bind_some, h1, Option.bind_some]; dsimp only; rw [h2]; dsimp only; rw [if_pos h3, h4]; rfl, setK_ok q⟩
      | _ => exact q.elim
    | _ => cases y <;> exact q.elim
  | .pop i => Rd.of fun P e q => by
    obtain ⟨f, d, h2, q⟩ := ownK_ok q
    cases d with
    | lst xs =>
      obtain ⟨x, h3, q⟩ := q
      exact ⟨_, by rw [h2]; dsimp only; rw [h3]; rfl, setK_ok q⟩
    | _ => exact q.elim
  | .clear i => Rd.of fun P e q => by
    obtain ⟨f, d, h2, q⟩ := ownK_ok q
    cases d with
    | lst xs => exact ⟨_, by rw [h2], setK_ok q⟩
    | _ => exact q.elim
theorem wms_ok : ∀ a : IEs, Rds (sems Φ gv a) (wms Φ gv a)
  | .nil => ⟨fun P e q => ⟨_, rfl, q⟩, fun P e q => ⟨_, rfl, q⟩, fun P e q => ⟨_, rfl, q⟩⟩
  | .cons a r => {
      ev := fun P e q => by
        obtain ⟨p, h1, q⟩ := (wm_ok a).ev _ e q
        obtain ⟨p2, h2, q⟩ := (wms_ok r).ev _ _ q
        exact ⟨_, by show ((sem Φ gv a).ev e).bind _ = _; rw [h1, Option.bind_some, h2]; rfl, q⟩
      ar := fun P e q => by
        obtain ⟨p, h1, q⟩ := (wm_ok a).ar _ e q
        obtain ⟨p2, h2, q⟩ := (wms_ok r).ar _ _ q
        exact ⟨_, by show ((sem Φ gv a).ar e).bind _ = _; rw [h1, Option.bind_some, h2]; rfl, q⟩
      t := fun P e q => by
        obtain ⟨⟨b, e1⟩, h1, q⟩ := (wm_ok a).t _ e q
        cases b with
        | true =>
          obtain ⟨p2, h2, q⟩ := (wms_ok r).t _ _ q
          exact ⟨p2, by show ((sem Φ gv a).t e).bind _ = _; rw [h1, Option.bind_some, if_pos rfl, h2], q⟩
        | false => exact ⟨_, by show ((sem Φ gv a).t e).bind _ = _; rw [h1, Option.bind_some, if_neg Bool.false_ne_true], q⟩ }
theorem wI_ok : ∀ (a : IT) P e, wI Φ gv a P e → ∃ r, semI Φ gv a e = some r ∧ P r.1 r.2
  | .seq a, P, e, q => by
    obtain ⟨⟨o, x, e1⟩, h1, q⟩ := (wm_ok a).ev _ e q
    cases x with
    | lst xs => exact ⟨(xs, e1), by show ((sem Φ gv a).ev e).bind _ = _; rw [h1]; rfl, q⟩
    | tup xs => exact ⟨(xs, e1), by show ((sem Φ gv a).ev e).bind _ = _; rw [h1]; rfl, q⟩
    | _ => exact q.elim
  | .rng1 a, P, e, q => by
    obtain ⟨⟨o, x, e1⟩, h1, q⟩ := (wm_ok a).ev _ e q
    cases x with
    | int n => exact ⟨_, by show ((sem Φ gv a).ev e).bind _ = _; rw [h1, Option.bind_some]; dsimp only; rw [if_pos q.1], q.2⟩
    | _ => exact q.elim
  | .rng2 a b, P, e, q => by
    obtain ⟨⟨o, x, e1⟩, h1, q⟩ := (wm_ok a).ev _ e q
    obtain ⟨⟨o2, y, e2⟩, h2, q⟩ := (wm_ok b).ev _ _ q
    cases x with
    | int n =>
      cases y with
      | int m => exact ⟨_, by show ((sem Φ gv a).ev e).bind _ = _; rw [h1, Option.bind_some, h2, Option.bind_some]; dsimp only; rw [if_pos q.1], q.2⟩
      | _ => exact q.elim
    | _ => cases y <;> exact q.elim
end
mutual
theorem wS_ok : ∀ (s : IS) P e, wS Φ gv wf s P e → ∃ r, ex Φ gv wf s e = some r ∧ P r.1 r.2
  | .asg i a, P, e, q => by
    obtain ⟨⟨o, d, e1⟩, h1, q⟩ := (wm_ok a).ev _ e q
    obtain ⟨e2, h2, q⟩ := putK_ok q
    exact ⟨(e2, .nx), by show ((sem Φ gv a).ev e).bind _ = _; rw [h1, Option.bind_some]; dsimp only; rw [h2]; rfl, q⟩
  | .asgT is a, P, e, q => by
    obtain ⟨⟨o, d, e1⟩, h1, q⟩ := (wm_ok a).ev _ e q
    cases d with
    | tup xs =>
      obtain ⟨e2, h2, q⟩ := putTsK_ok q
      exact ⟨(e2, .nx), by show ((sem Φ gv a).ev e).bind _ = _; rw [h1, Option.bind_some]; dsimp only; rw [h2]; rfl, q⟩
    | lst xs =>
      obtain ⟨e2, h2, q⟩ := putTsK_ok q
      exact ⟨(e2, .nx), by show ((sem Φ gv a).ev e).bind _ = _; rw [h1, Option.bind_some]; dsimp only; rw [h2]; rfl, q⟩
    | _ => exact q.elim
  | .asgP i j a b, P, e, q => by
    obtain ⟨p, h1, q⟩ := (wm_ok a).ev _ e q
    obtain ⟨p2, h2, q⟩ := (wm_ok b).ev _ _ q
    obtain ⟨e3, h3, q⟩ := putK_ok q
    obtain ⟨e4, h4, q⟩ := putK_ok q
    exact ⟨(e4, .nx), by show ((sem Φ gv a).ev e).bind _ = _; rw [h1, Option.bind_some, h2, Option.bind_some, h3, Option.bind_some, h4]; rfl, q⟩
  | .setI i k a, P, e, q => by
    obtain ⟨p, h1, q⟩ := (wm_ok a).ev _ e q
    obtain ⟨_, z, h2, q⟩ := lookK_ok q
    obtain ⟨⟨o, y, e2⟩, h3, q⟩ := (wm_ok k).ev _ _ q
    obtain ⟨f, d, h4, q⟩ := ownK_ok q
    cases d with
    | lst xs =>
      cases y with
      | int n => exact ⟨_, by show ((sem Φ gv a).ev e).bind _ = _; rw [h1, Option.bind_some, h2, Option.bind_some, h3, Option.bind_some]; dsimp only; rw [h4]; dsimp only; rw [if_pos q.1], setK_ok (k := fun e3 => P e3 .nx) q.2⟩
      | _ => exact q.elim
    | _ => cases y <;> exact q.elim
  | .dput i k a, P, e, q => by
    obtain ⟨p, h1, q⟩ := (wm_ok a).ev _ e q
    obtain ⟨_, z, h2, q⟩ := lookK_ok q
    obtain ⟨p2, h3, q⟩ := (wm_ok k).ev _ _ q
    obtain ⟨f, d, h4, q⟩ := ownK_ok q
    cases d with
    | dic ks vs =>
      obtain ⟨y, h5, h6, q⟩ := q
      obtain ⟨⟨k2, v2⟩, h7, q⟩ := ask_ok q
      have h7 := Option.some.inj h7
      exact ⟨_, by show ((sem Φ gv a).ev e).bind _ = _; rw [h1, Option.bind_some, h2, Option.bind_some, h3, Option.bind_some, h4]; dsimp only; rw [h5, Option.bind_some, if_pos h6, h7], setK_ok (k := fun e3 => P e3 .nx) q⟩
    | _ => exact q.elim
  | .expr a, P, e, q => by
    obtain ⟨p, h1, q⟩ := (wm_ok a).ev _ e q
    exact ⟨(p.2.2, .nx), by show ((sem Φ gv a).ev e).map _ = _; rw [h1]; rfl, q⟩
  | .ret a, P, e, q => by
    obtain ⟨p, h1, q⟩ := (wm_ok a).ev _ e q
    exact ⟨(p.2.2, .rt p.1 p.2.1), by show ((sem Φ gv a).ev e).map _ = _; rw [h1]; rfl, q⟩
  | .retV i, P, e, q => by
    obtain ⟨f, d, h, q⟩ := getK_ok q
    have er : ex Φ gv wf (.retV i) e = (match getC e i with | some (.own, d) => some (e.set i none, Flow.rt true d) | _ => (readV e i).map fun (p : D × Env) => (p.2, Flow.rt false p.1)) := rfl
    cases f with
    | own => exact ⟨(e.set i none, .rt true d), by rw [er, h], setK_ok (k := fun e' => P e' (.rt true d)) q⟩
    | fro =>
      refine ⟨(e, .rt false d), ?_, q⟩
      rw [er, show readV e i = some (d, e) by unfold readV; rw [h], h]
      rfl
    | lfro =>
      refine ⟨(e, .rt false d), ?_, q⟩
      rw [er, show readV e i = some (d, e) by unfold readV; rw [h], h]
      rfl
    | lent =>
      refine ⟨(e.set i (some (.lfro, d)), .rt false d), ?_, setK_ok (k := fun e' => P e' (.rt false d)) q⟩
      rw [er, show readV e i = some (d, e.set i (some (.lfro, d))) by unfold readV; rw [h]; rfl, h]
      rfl
  | .retN, P, e, q => ⟨_, rfl, q⟩
  | .pass, P, e, q => ⟨_, rfl, q⟩
  | .never, P, e, q => q.elim
  | .brk, P, e, q => ⟨_, rfl, q⟩
  | .cont, P, e, q => ⟨_, rfl, q⟩
  | .ite c t f, P, e, q => by
    obtain ⟨⟨b, e1⟩, h1, q⟩ := (wm_ok c).t _ e q
    cases b with
    | true =>
      obtain ⟨r, h2, q⟩ := wSs_ok t _ _ q
      exact ⟨r, by show ((sem Φ gv c).t e).bind _ = _; rw [h1, Option.bind_some, if_pos rfl, h2], q⟩
    | false =>
      obtain ⟨r, h2, q⟩ := wSs_ok f _ _ q
      exact ⟨r, by show ((sem Φ gv c).t e).bind _ = _; rw [h1, Option.bind_some, if_neg Bool.false_ne_true, h2], q⟩
  | .for_ t it b, P, e, q => by
    obtain ⟨⟨ds, e1⟩, h1, q⟩ := wI_ok it _ e q
    obtain ⟨r, h2, q⟩ := wfor_ok (f := fun x en => (putT t x en).bind fun e1 => exs Φ gv wf b e1) (fun x P e k0 => by
      obtain ⟨e1, k1, k2⟩ := putTK_ok k0
      obtain ⟨r, k3, k4⟩ := wSs_ok b _ e1 k2
      exact ⟨r, by rw [k1, Option.bind_some, k3], k4⟩) ds P e1 q
    exact ⟨r, by show (semI Φ gv it e).bind _ = _; rw [h1, Option.bind_some, h2], q⟩
  | .whl c b, P, e, q => wwhl_ok (fun P e q => (wm_ok c).t P e q) (fun P e q => wSs_ok b P e q) wf P e q
theorem wSs_ok : ∀ (s : ISs) P e, wSs Φ gv wf s P e → ∃ r, exs Φ gv wf s e = some r ∧ P r.1 r.2
  | .nil, P, e, q => ⟨(e, .nx), rfl, q⟩
  | .cons s r, P, e, q => by
    obtain ⟨⟨e1, fl⟩, h1, q⟩ := wS_ok s _ e q
    cases fl with
    | nx =>
      obtain ⟨p, h2, q⟩ := wSs_ok r _ _ q
      exact ⟨p, by show (ex Φ gv wf s e).bind _ = _; rw [h1, Option.bind_some]; exact h2, q⟩
    | rt o d => exact ⟨(e1, .rt o d), by show (ex Φ gv wf s e).bind _ = _; rw [h1]; rfl, q⟩
    | bk => exact ⟨(e1, .bk), by show (ex Φ gv wf s e).bind _ = _; rw [h1]; rfl, q⟩
    | ct => exact ⟨(e1, .ct), by show (ex Φ gv wf s e).bind _ = _; rw [h1]; rfl, q⟩
end
/-- what is to hold where a body ends -/
def done (as : List (Bool × D)) (P : (Bool × D) × List (Bool × D) → Prop) (e : Env) : Flow → Prop
  | .rt o d => postK e as 0 fun ps => P ((o, d), ps)
  | .nx => postK e as 0 fun ps => P ((false, .non), ps)
  | _ => False
def dropS : Nat → ISs → ISs
  | 0, s => s
  | _ + 1, .nil => .nil
  | n + 1, .cons _ r => dropS n r
/-- a call, from its body's reading -/
theorem call_w {fns : Nat → Option Fn} {n f : Nat} {fn : Fn} {as : List (Bool × D)} {P : (Bool × D) × List (Bool × D) → Prop} (hf : fns f = some fn) (hl : as.length = fn.np)
    (h : wSs (callF fns gv wf n) gv wf fn.body (done as P) (startEnv fn as)) : ∃ r, callF fns gv wf (n + 1) f as = some r ∧ P r := by
  obtain ⟨⟨e, fl⟩, h1, q⟩ := wSs_ok _ _ _ h
  have eq : callF fns gv wf (n + 1) f as = runF (callF fns gv wf n) gv wf fn as := by
    show (match fns f with | some fn => runF (callF fns gv wf n) gv wf fn as | none => none) = _
    rw [hf]
  rw [eq]
  unfold runF
  rw [if_pos hl, h1]
  cases fl with
  | rt o d =>
    obtain ⟨ps, h2, q⟩ := postK_ok q
    exact ⟨((o, d), ps), by dsimp only; rw [h2]; rfl, q⟩
  | nx =>
    obtain ⟨ps, h2, q⟩ := postK_ok q
    exact ⟨((false, .non), ps), by dsimp only; rw [h2]; rfl, q⟩
  | bk => exact q.elim
  | ct => exact q.elim
end
end PD
/-! The data form of the text (printed by gen.py). -/
namespace K60
open PySem L2 PD
/-- _law_feed -/
def f0 : Fn := ⟨1, 1, (.cons (.ret (.lst (.cons (.bi .list (.slU (.var 0) (.cI 63))) (.cons (.cI 0) (.cons (.cI 0) (.cons (.cI 0) .nil)))))) .nil)⟩
/-- _law_take -/
def f1 : Fn := ⟨2, 5, (.cons (.setI 0 (.cI 3) (.bin .add (.idxV 0 (.cI 3)) (.cI 1))) (.cons (.ite (.cmp .gt (.idxV 0 (.cI 2)) (.cI 0)) (.cons (.asg 4 (.bin .mod (.idxV 0 (.cI 2)) (.var 1))) (.cons (.setI 0 (.cI 2) (.bin .fdiv (.idxV 0 (.cI 2)) (.var 1))) (.cons (.retV 4) .nil))) .nil) (.cons (.asg 2 (.cI 11)) (.cons (.ite (.cmp .gt (.bi .len (.idxV 0 (.cI 0))) (.cI 0)) (.cons (.asg 2 (.idx (.idxV 0 (.cI 0)) (.bin .mod (.idxV 0 (.cI 1)) (.bi .len (.idxV 0 (.cI 0)))))) .nil) .nil) (.cons (.setI 0 (.cI 1) (.bin .add (.idxV 0 (.cI 1)) (.cI 1))) (.cons (.ite (.and_ (.cmp .ge (.var 2) (.bin .pow (.cI 10) (.cI 18))) (.cmp .le (.idxV 0 (.cI 1)) (.bi .len (.idxV 0 (.cI 0))))) (.cons (.setI 0 (.cI 2) (.bin .fdiv (.var 2) (.var 1))) (.cons (.ret (.bin .mod (.var 2) (.var 1))) .nil)) .nil) (.cons (.asg 3 (.bin .mod (.bin .pow (.bin .add (.bin .mod (.var 2) (.cI 2147483629)) (.bin .mul (.cI 48271) (.idxV 0 (.cI 3)))) (.cI 5)) (.cI 2147483647))) (.cons (.asg 3 (.bin .mod (.bin .mul (.bin .add (.bin .fdiv (.var 3) (.cI 64)) (.cI 7919)) (.bin .pow (.bin .add (.bin .mul (.cI 2) (.idxV 0 (.cI 3))) (.cI 1)) (.cI 3))) (.cI 2147483587))) (.cons (.ret (.bin .mod (.bin .fdiv (.var 3) (.cI 64)) (.var 1))) .nil)))))))))⟩
/-- _law_names -/
def f2 : Fn := ⟨2, 4, (.cons (.asg 2 (.lst (.cons (.cI 0) (.cons (.cI 1) (.cons (.cI 2) (.cons (.cI 3) (.cons (.cI 5) (.cons (.cI 8) (.cons (.cI 40) (.cons (.cI 98) (.cons (.cI 99) .nil))))))))))) (.cons (.asg 3 (.call 1 (.cons (.var 0) (.cons (.bin .add (.var 1) (.cI 1)) .nil)))) (.cons (.whl (.cmp .gt (.bi .len (.var 2)) (.var 3)) (.cons (.expr (.popAt 2 (.call 1 (.cons (.var 0) (.cons (.bi .len (.var 2)) .nil))))) .nil)) (.cons (.ret (.bi .tuple (.var 2))) .nil))))⟩
/-- _law_shuffled -/
def f3 : Fn := ⟨2, 5, (.cons (.asg 2 (.bi .list (.var 1))) (.cons (.asg 3 (.lst .nil)) (.cons (.for_ (.one 4) (.rng1 (.bi .len (.var 2))) (.cons (.expr (.app 3 (.popAt 2 (.call 1 (.cons (.var 0) (.cons (.bi .len (.var 2)) .nil)))))) .nil)) (.cons (.ret (.bi .tuple (.var 3))) .nil))))⟩
/-- _law_split -/
def f4 : Fn := ⟨3, 6, (.cons (.asg 3 (.bin .mul (.lst (.cons (.tup .nil) .nil)) (.var 2))) (.cons (.for_ (.one 4) (.seq (.var 1)) (.cons (.asg 5 (.call 1 (.cons (.var 0) (.cons (.var 2) .nil)))) (.cons (.setI 3 (.var 5) (.bin .add (.idxV 3 (.var 5)) (.tup (.cons (.var 4) .nil)))) .nil))) (.cons (.retV 3) .nil)))⟩
/-- _law_hole -/
def f5 : Fn := ⟨1, 2, (.cons (.ret (.bi .max (.bin .add (.lst (.cons (.cI 100) .nil)) (.comp (.one 1) (.seq (.var 0)) .nil (.bin .add (.var 1) (.cI 1)))))) .nil)⟩
/-- _law_some -/
def f6 : Fn := ⟨2, 6, (.cons (.asg 2 (.call 1 (.cons (.var 0) (.cons (.cI 7) .nil)))) (.cons (.ite (.cmp .eq (.var 2) (.cI 1)) (.cons (.ret (.tup (.cons (.tup (.cons (.cW 2) .nil)) (.cons (.tup (.cons (.cW 2) (.cons (.call 3 (.cons (.var 0) (.cons (.var 1) .nil))) .nil))) .nil)))) .nil) .nil) (.cons (.ite (.and_ (.cmp .eq (.var 2) (.cI 2)) (.cmp .ne (.var 1) (.tup .nil))) (.cons (.ret (.tup (.cons (.tup (.cons (.cW 6) .nil)) (.cons (.tup (.cons (.cW 6) (.cons (.bin .add (.slU (.var 1) (.cI 1)) (.call 3 (.cons (.var 0) (.cons (.slL (.var 1) (.cI 1)) .nil)))) .nil))) .nil)))) .nil) .nil) (.cons (.ite (.and_ (.cmp .eq (.var 2) (.cI 3)) (.cmp .ne (.var 1) (.tup .nil))) (.cons (.ret (.tup (.cons (.tup (.cons (.cW 5) (.cons (.tup (.cons (.cW 0) .nil)) .nil))) (.cons (.tup (.cons (.cW 5) (.cons (.idxV 1 (.call 1 (.cons (.var 0) (.cons (.bi .len (.var 1)) .nil)))) (.cons (.tup (.cons (.cW 0) (.cons (.var 1) .nil))) .nil)))) .nil)))) .nil) .nil) (.cons (.ite (.cmp .eq (.var 2) (.cI 4)) (.cons (.asg 3 (.call 1 (.cons (.var 0) (.cons (.cI 2) .nil)))) (.cons (.ret (.tup (.cons (.tup (.cons (.cW 4) (.cons (.tup (.cons (.cW 0) .nil)) (.cons (.tup (.cons (.cW 2) .nil)) .nil)))) (.cons (.tup (.cons (.cW 4) (.cons (.var 3) (.cons (.tup (.cons (.idx (.lst (.cons (.cW 0) (.cons (.cW 2) .nil))) (.var 3)) (.cons (.var 1) .nil))) .nil)))) .nil)))) .nil)) .nil) (.cons (.ite (.cmp .eq (.var 2) (.cI 5)) (.cons (.asgT [4, 5] (.call 4 (.cons (.var 0) (.cons (.var 1) (.cons (.cI 2) .nil))))) (.cons (.ret (.tup (.cons (.tup (.cons (.cW 3) (.cons (.tup (.cons (.cW 2) .nil)) (.cons (.tup (.cons (.cW 0) .nil)) .nil)))) (.cons (.tup (.cons (.cW 3) (.cons (.tup (.cons (.cW 2) (.cons (.slR (.var 4)) .nil))) (.cons (.tup (.cons (.cW 0) (.cons (.var 5) .nil))) .nil)))) .nil)))) .nil)) .nil) (.cons (.ite (.cmp .eq (.var 2) (.cI 6)) (.cons (.ret (.tup (.cons (.tup (.cons (.cW 1) (.cons (.tup (.cons (.cW 0) .nil)) .nil))) (.cons (.tup (.cons (.cW 1) (.cons (.tup (.cons (.cW 0) (.cons (.bin .add (.var 1) (.tup (.cons (.call 5 (.cons (.var 1) .nil)) .nil))) .nil))) .nil))) .nil)))) .nil) .nil) (.cons (.ret (.tup (.cons (.tup (.cons (.cW 0) .nil)) (.cons (.tup (.cons (.cW 0) (.cons (.var 1) .nil))) .nil)))) .nil))))))))⟩
/-- _law_this_case -/
def f7 : Fn := ⟨3, 12, (.cons (.asgT [4, 5] (.call 6 (.cons (.var 0) (.cons (.var 2) .nil)))) (.cons (.asgT [6, 7] (.call 6 (.cons (.var 0) (.cons (.var 2) .nil)))) (.cons (.asg 3 (.call 1 (.cons (.var 0) (.cons (.cI 2) .nil)))) (.cons (.ite (.cmp .eq (.var 1) (.cW 9)) (.cons (.ret (.tup (.cons (.tup (.cons (.cW 4) (.cons (.var 4) (.cons (.var 6) .nil)))) (.cons (.tup (.cons (.cW 4) (.cons (.var 6) (.cons (.var 4) .nil)))) (.cons (.tup (.cons (.cW 4) (.cons (.var 3) (.cons (.idx (.lst (.cons (.var 5) (.cons (.var 7) .nil))) (.var 3)) .nil)))) (.cons (.tup (.cons (.cW 4) (.cons (.bin .sub (.cI 1) (.var 3)) (.cons (.idx (.lst (.cons (.var 5) (.cons (.var 7) .nil))) (.var 3)) .nil)))) .nil)))))) .nil) .nil) (.cons (.ite (.cmp .eq (.var 1) (.cW 7)) (.cons (.ret (.tup (.cons (.tup (.cons (.cW 4) (.cons (.tup (.cons (.cW 8) .nil)) (.cons (.var 4) .nil)))) (.cons (.var 4) (.cons (.tup (.cons (.cW 4) (.cons (.cI 1) (.cons (.var 5) .nil)))) (.cons (.var 5) .nil)))))) .nil) .nil) (.cons (.asgT [8, 9] (.call 6 (.cons (.var 0) (.cons (.var 2) .nil)))) (.cons (.asgP 10 11 (.tup (.cons (.cW 4) (.cons (.tup (.cons (.cW 4) (.cons (.var 4) (.cons (.var 6) .nil)))) (.cons (.var 8) .nil)))) (.tup (.cons (.cW 4) (.cons (.var 4) (.cons (.tup (.cons (.cW 4) (.cons (.var 6) (.cons (.var 8) .nil)))) .nil))))) (.cons (.ite (.cmp .eq (.call 1 (.cons (.var 0) (.cons (.cI 3) .nil))) (.cI 0)) (.cons (.ret (.tup (.cons (.var 10) (.cons (.var 11) (.cons (.tup (.cons (.cW 4) (.cons (.cI 1) (.cons (.var 9) .nil)))) (.cons (.tup (.cons (.cW 4) (.cons (.cI 1) (.cons (.tup (.cons (.cW 4) (.cons (.cI 1) (.cons (.var 9) .nil)))) .nil)))) .nil)))))) .nil) .nil) (.cons (.ite (.cmp .eq (.var 3) (.cI 0)) (.cons (.ret (.tup (.cons (.var 10) (.cons (.var 11) (.cons (.tup (.cons (.cW 4) (.cons (.cI 0) (.cons (.tup (.cons (.cW 4) (.cons (.cI 0) (.cons (.var 5) .nil)))) .nil)))) (.cons (.tup (.cons (.cW 4) (.cons (.cI 0) (.cons (.var 5) .nil)))) .nil)))))) .nil) .nil) (.cons (.ret (.tup (.cons (.var 10) (.cons (.var 11) (.cons (.tup (.cons (.cW 4) (.cons (.cI 0) (.cons (.tup (.cons (.cW 4) (.cons (.cI 1) (.cons (.var 7) .nil)))) .nil)))) (.cons (.tup (.cons (.cW 4) (.cons (.cI 1) (.cons (.tup (.cons (.cW 4) (.cons (.cI 0) (.cons (.var 7) .nil)))) .nil)))) .nil)))))) .nil))))))))))⟩
/-- _law_both_case -/
def f8 : Fn := ⟨3, 13, (.cons (.ite (.cmp .eq (.var 1) (.cW 12)) (.cons (.asgT [5, 6] (.call 6 (.cons (.var 0) (.cons (.var 2) .nil)))) (.cons (.ret (.tup (.cons (.tup (.cons (.cW 3) (.cons (.tup (.cons (.cW 13) .nil)) (.cons (.var 5) .nil)))) (.cons (.var 5) (.cons (.tup (.cons (.cW 3) (.cons (.tup (.cons (.cW 13) .nil)) (.cons (.var 6) .nil)))) (.cons (.var 6) .nil)))))) .nil)) .nil) (.cons (.asg 3 (.call 4 (.cons (.var 0) (.cons (.var 2) (.cons (.bin .add (.cI 2) (.bi .int (.cmp .eq (.var 1) (.cW 10)))) .nil))))) (.cons (.asgT [5, 6] (.call 6 (.cons (.var 0) (.cons (.idxV 3 (.cI 0)) .nil)))) (.cons (.asgT [7, 8] (.call 6 (.cons (.var 0) (.cons (.idxV 3 (.cI 1)) .nil)))) (.cons (.ite (.cmp .eq (.var 1) (.cW 11)) (.cons (.ret (.tup (.cons (.tup (.cons (.cW 3) (.cons (.var 5) (.cons (.var 7) .nil)))) (.cons (.tup (.cons (.cW 3) (.cons (.var 7) (.cons (.var 5) .nil)))) (.cons (.tup (.cons (.cW 3) (.cons (.var 6) (.cons (.var 8) .nil)))) (.cons (.tup (.cons (.cW 3) (.cons (.var 8) (.cons (.var 6) .nil)))) .nil)))))) .nil) .nil) (.cons (.asgT [9, 10] (.call 6 (.cons (.var 0) (.cons (.idxV 3 (.neg (.cI 1))) .nil)))) (.cons (.ite (.cmp .eq (.var 1) (.cW 10)) (.cons (.asgP 11 12 (.tup (.cons (.cW 3) (.cons (.tup (.cons (.cW 3) (.cons (.var 5) (.cons (.var 7) .nil)))) (.cons (.var 9) .nil)))) (.tup (.cons (.cW 3) (.cons (.var 5) (.cons (.tup (.cons (.cW 3) (.cons (.var 7) (.cons (.var 9) .nil)))) .nil))))) (.cons (.ret (.tup (.cons (.var 11) (.cons (.var 12) (.cons (.tup (.cons (.cW 3) (.cons (.tup (.cons (.cW 3) (.cons (.var 6) (.cons (.var 8) .nil)))) (.cons (.var 10) .nil)))) (.cons (.tup (.cons (.cW 3) (.cons (.var 6) (.cons (.tup (.cons (.cW 3) (.cons (.var 8) (.cons (.var 10) .nil)))) .nil)))) .nil)))))) .nil)) .nil) (.cons (.asg 4 (.call 1 (.cons (.var 0) (.cons (.cI 2) .nil)))) (.cons (.asgP 11 12 (.tup (.cons (.cW 3) (.cons (.var 5) (.cons (.tup (.cons (.cW 4) (.cons (.var 7) (.cons (.var 9) .nil)))) .nil)))) (.tup (.cons (.cW 4) (.cons (.tup (.cons (.cW 3) (.cons (.var 5) (.cons (.var 7) .nil)))) (.cons (.tup (.cons (.cW 3) (.cons (.var 5) (.cons (.var 9) .nil)))) .nil))))) (.cons (.ret (.tup (.cons (.var 11) (.cons (.var 12) (.cons (.tup (.cons (.cW 3) (.cons (.var 6) (.cons (.tup (.cons (.cW 4) (.cons (.var 4) (.cons (.idx (.lst (.cons (.var 8) (.cons (.var 10) .nil))) (.var 4)) .nil)))) .nil)))) (.cons (.tup (.cons (.cW 4) (.cons (.var 4) (.cons (.tup (.cons (.cW 3) (.cons (.var 6) (.cons (.idx (.lst (.cons (.var 8) (.cons (.var 10) .nil))) (.var 4)) .nil)))) .nil)))) .nil)))))) .nil))))))))))⟩
/-- _law_size_case -/
def f9 : Fn := ⟨3, 14, (.cons (.asg 3 (.bi .len (.var 2))) (.cons (.asgP 4 5 (.b2 .max (.cI 0) (.bin .sub (.var 3) (.call 1 (.cons (.var 0) (.cons (.cI 3) .nil))))) (.bin .add (.bin .add (.var 3) (.cI 1)) (.call 1 (.cons (.var 0) (.cons (.cI 3) .nil))))) (.cons (.asgT [6, 7] (.call 6 (.cons (.var 0) (.cons (.var 2) .nil)))) (.cons (.ite (.cmp .eq (.var 1) (.cW 17)) (.cons (.asg 8 (.bin .add (.var 4) (.call 1 (.cons (.var 0) (.cons (.bin .sub (.var 5) (.var 4)) .nil))))) (.cons (.asgP 11 10 (.tup (.cons (.cW 14) (.cons (.var 6) (.cons (.var 4) (.cons (.var 5) .nil))))) (.tup (.cons (.cW 4) (.cons (.tup (.cons (.cW 14) (.cons (.var 6) (.cons (.var 4) (.cons (.var 8) .nil))))) (.cons (.tup (.cons (.cW 14) (.cons (.var 6) (.cons (.bin .add (.var 8) (.cI 1)) (.cons (.var 5) .nil))))) .nil))))) (.cons (.ret (.tup (.cons (.var 11) (.cons (.var 10) (.cons (.var 7) (.cons (.tup (.cons (.cW 4) (.cons (.bi .int (.cmp .gt (.var 3) (.var 8))) (.cons (.var 7) .nil)))) (.cons (.tup (.cons (.var 8) .nil)) .nil))))))) .nil))) .nil) (.cons (.ite (.cmp .eq (.var 1) (.cW 16)) (.cons (.asgT [12, 13] (.call 6 (.cons (.var 0) (.cons (.var 2) .nil)))) (.cons (.asg 9 (.call 1 (.cons (.var 0) (.cons (.cI 2) .nil)))) (.cons (.asg 10 (.tup (.cons (.cW 4) (.cons (.tup (.cons (.cW 14) (.cons (.var 6) (.cons (.var 4) (.cons (.var 5) .nil))))) (.cons (.tup (.cons (.cW 14) (.cons (.var 12) (.cons (.var 4) (.cons (.var 5) .nil))))) .nil))))) (.cons (.ret (.tup (.cons (.tup (.cons (.cW 14) (.cons (.tup (.cons (.cW 4) (.cons (.var 6) (.cons (.var 12) .nil)))) (.cons (.var 4) (.cons (.var 5) .nil))))) (.cons (.var 10) (.cons (.tup (.cons (.cW 4) (.cons (.var 9) (.cons (.idx (.lst (.cons (.var 7) (.cons (.var 13) .nil))) (.var 9)) .nil)))) (.cons (.tup (.cons (.cW 4) (.cons (.var 9) (.cons (.idx (.lst (.cons (.var 7) (.cons (.var 13) .nil))) (.var 9)) .nil)))) (.cons (.tup .nil) .nil))))))) .nil)))) .nil) (.cons (.ite (.and_ (.cmp .eq (.var 1) (.cW 15)) (.cmp .gt (.var 3) (.cI 0))) (.cons (.asg 7 (.tup (.cons (.cW 5) (.cons (.idxV 2 (.call 1 (.cons (.var 0) (.cons (.var 3) .nil)))) (.cons (.var 7) .nil))))) (.cons (.ret (.tup (.cons (.tup (.cons (.cW 14) (.cons (.tup (.cons (.cW 5) (.cons (.var 6) .nil))) (.cons (.var 4) (.cons (.var 5) .nil))))) (.cons (.tup (.cons (.cW 5) (.cons (.tup (.cons (.cW 14) (.cons (.var 6) (.cons (.var 4) (.cons (.var 5) .nil))))) .nil))) (.cons (.var 7) (.cons (.var 7) (.cons (.tup .nil) .nil))))))) .nil)) .nil) (.cons (.asgT [6, 7] (.call 6 (.cons (.var 0) (.cons (.bin .add (.var 2) (.tup (.cons (.call 5 (.cons (.var 2) .nil)) .nil))) .nil)))) (.cons (.asgP 11 10 (.tup (.cons (.cW 14) (.cons (.tup (.cons (.cW 1) (.cons (.var 6) .nil))) (.cons (.var 4) (.cons (.var 5) .nil))))) (.tup (.cons (.cW 1) (.cons (.tup (.cons (.cW 14) (.cons (.var 6) (.cons (.bin .add (.var 4) (.cI 1)) (.cons (.bin .add (.var 5) (.cI 1)) .nil))))) .nil)))) (.cons (.ret (.tup (.cons (.var 11) (.cons (.var 10) (.cons (.tup (.cons (.cW 1) (.cons (.var 7) .nil))) (.cons (.tup (.cons (.cW 1) (.cons (.var 7) .nil))) (.cons (.tup .nil) .nil))))))) .nil)))))))))⟩
/-- _law_case -/
def f10 : Fn := ⟨2, 7, (.cons (.asg 2 (.call 2 (.cons (.var 0) (.cons (.cI 5) .nil)))) (.cons (.ite (.cmp .eq (.var 1) (.cW 21)) (.cons (.asgT [5, 6] (.call 6 (.cons (.var 0) (.cons (.var 2) .nil)))) (.cons (.asg 3 (.tup (.cons (.tup (.cons (.cW 3) (.cons (.tup (.cons (.cW 22) .nil)) (.cons (.tup (.cons (.cW 0) .nil)) .nil)))) (.cons (.var 5) .nil)))) (.cons (.ret (.tup (.cons (.var 3) (.cons (.tup (.cons (.cW 21) (.cons (.cI 1) .nil))) (.cons (.var 5) (.cons (.tup (.cons (.cW 21) (.cons (.cI 1) (.cons (.var 6) .nil)))) (.cons (.var 6) (.cons (.tup (.cons (.var 1) (.cons (.tup .nil) (.cons (.cB false) (.cons (.tup .nil) .nil))))) (.cons (.tup (.cons (.var 1) (.cons (.tup .nil) (.cons (.cB true) (.cons (.tup (.cons (.cI 1) .nil)) .nil))))) .nil))))))))) .nil))) .nil) (.cons (.ite (.cmp .isin (.var 1) (.tup (.cons (.cW 9) (.cons (.cW 18) (.cons (.cW 7) .nil))))) (.cons (.asg 4 (.bin .add (.call 7 (.cons (.var 0) (.cons (.var 1) (.cons (.var 2) .nil)))) (.tup (.cons (.tup .nil) .nil)))) .nil) (.cons (.ite (.cmp .isin (.var 1) (.tup (.cons (.cW 11) (.cons (.cW 10) (.cons (.cW 19) (.cons (.cW 12) .nil)))))) (.cons (.asg 4 (.bin .add (.call 8 (.cons (.var 0) (.cons (.var 1) (.cons (.var 2) .nil)))) (.tup (.cons (.tup .nil) .nil)))) .nil) (.cons (.asg 4 (.call 9 (.cons (.var 0) (.cons (.var 1) (.cons (.var 2) .nil))))) (.cons (.ite (.and_ (.cmp .eq (.var 1) (.cW 15)) (.cmp .eq (.var 2) (.tup .nil))) (.cons (.asg 1 (.cW 20)) .nil) .nil) .nil))) .nil)) (.cons (.ret (.bin .add (.bin .add (.tup (.cons (.tup .nil) .nil)) (.slU (.var 4) (.cI 4))) (.tup (.cons (.tup (.cons (.var 1) (.cons (.tup .nil) (.cons (.cB false) (.cons (.idxV 4 (.cI 4)) .nil))))) (.cons (.tup (.cons (.var 1) (.cons (.tup .nil) (.cons (.cB true) (.cons (.tup .nil) .nil))))) .nil))))) .nil))))⟩
/-- law -/
def f11 : Fn := ⟨1, 13, (.cons (.asg 1 (.call 0 (.cons (.var 0) .nil))) (.cons (.asg 2 (.lst (.cons (.cW 9) (.cons (.cW 18) (.cons (.cW 7) (.cons (.cW 11) (.cons (.cW 10) (.cons (.cW 19) (.cons (.cW 12) .nil))))))))) (.cons (.asg 2 (.bin .add (.var 2) (.lst (.cons (.cW 17) (.cons (.cW 16) (.cons (.cW 15) (.cons (.cW 20) (.cons (.cW 21) .nil)))))))) (.cons (.for_ (.one 3) (.rng1 (.cI 3)) (.cons (.asgT [6, 7, 8, 9, 10, 11, 12] (.call 10 (.cons (.var 1) (.cons (.idxV 2 (.call 1 (.cons (.var 1) (.cons (.cI 12) .nil)))) .nil)))) (.cons (.asg 4 (.bi .repr (.tup (.cons (.var 6) (.cons (.var 7) (.cons (.var 8) (.cons (.var 9) (.cons (.var 10) .nil)))))))) (.cons (.for_ (.one 5) (.rng1 (.cI 2)) (.cons (.ite (.or_ (.cmp .ne (.bi .repr (.call 12 (.cons (.var 6) (.cons (.var 7) (.cons (.tup (.cons (.var 11) .nil)) (.cons (.var 9) .nil)))))) (.bi .repr (.var 10))) (.cmp .ne (.bi .repr (.call 12 (.cons (.var 6) (.cons (.var 8) (.cons (.tup (.cons (.var 12) .nil)) (.cons (.var 10) .nil)))))) (.bi .repr (.var 9)))) (.cons (.ret (.cB false)) .nil) .nil) .nil)) (.cons (.ite (.or_ (.cmp .ne (.bi .repr (.tup (.cons (.var 6) (.cons (.var 7) (.cons (.var 8) (.cons (.var 9) (.cons (.var 10) .nil))))))) (.var 4)) (.cmp .ne (.bi .repr (.call 12 (.cons (.var 6) (.cons (.var 7) (.cons (.tup .nil) (.cons (.var 9) .nil)))))) (.bi .repr (.var 9)))) (.cons (.ret (.cB false)) .nil) .nil) .nil))))) (.cons (.ret (.cB true)) .nil)))))⟩
/-- led_by -/
def f12 : Fn := ⟨4, 7, (.cons (.asg 4 (.var 1)) (.cons (.asg 5 (.var 3)) (.cons (.for_ (.one 6) (.seq (.var 2)) (.cons (.asg 5 (.call 13 (.cons (.var 4) (.cons (.idxV 6 (.cI 1)) (.cons (.var 6) (.cons (.var 5) .nil)))))) (.cons (.asg 4 (.call 22 (.cons (.var 0) (.cons (.var 4) (.cons (.var 6) .nil))))) .nil))) (.cons (.retV 5) .nil))))⟩
/-- led_at -/
def f13 : Fn := ⟨4, 8, (.cons (.ite (.cmp .eq (.bi .len (.var 1)) (.cI 0)) (.cons (.ret (.call 14 (.cons (.var 2) (.cons (.var 3) .nil)))) .nil) .nil) (.cons .never (.cons (.asg 4 (.idxV 0 (.bin .add (.cI 1) (.var 5)))) (.cons (.ite (.cmp .eq (.idxV 0 (.cI 0)) (.cW 14)) (.cons (.ret (.call 13 (.cons (.var 4) (.cons (.var 6) (.cons (.var 2) (.cons (.var 3) .nil)))))) .nil) .nil) (.cons (.ite (.cmp .eq (.idxV 0 (.cI 0)) (.cW 4)) (.cons (.ret (.ite (.cmp .eq (.idxV 3 (.cI 1)) (.var 5)) (.tup (.cons (.cW 4) (.cons (.var 5) (.cons (.call 13 (.cons (.var 4) (.cons (.var 6) (.cons (.var 2) (.cons (.idxV 3 (.cI 2)) .nil))))) .nil)))) (.var 3))) .nil) .nil) (.cons (.ite (.and_ (.cmp .eq (.idxV 0 (.cI 0)) (.cW 3)) (.cmp .eq (.var 5) (.cI 0))) (.cons (.ret (.tup (.cons (.cW 3) (.cons (.call 13 (.cons (.var 4) (.cons (.var 6) (.cons (.var 2) (.cons (.idxV 3 (.cI 1)) .nil))))) (.cons (.idxV 3 (.cI 2)) .nil))))) .nil) .nil) (.cons (.ite (.cmp .eq (.idxV 0 (.cI 0)) (.cW 3)) (.cons (.ret (.tup (.cons (.cW 3) (.cons (.idxV 3 (.cI 1)) (.cons (.call 13 (.cons (.var 4) (.cons (.var 6) (.cons (.var 2) (.cons (.idxV 3 (.cI 2)) .nil))))) .nil))))) .nil) .nil) (.cons (.ite (.and_ (.cmp .eq (.idxV 0 (.cI 0)) (.cW 23)) (.cmp .eq (.var 5) (.cI 0))) (.cons (.ret (.tup (.cons (.cW 23) (.cons (.call 13 (.cons (.var 4) (.cons (.var 6) (.cons (.var 2) (.cons (.idxV 3 (.cI 1)) .nil))))) (.cons (.idxV 3 (.cI 2)) .nil))))) .nil) .nil) (.cons (.ite (.cmp .eq (.idxV 0 (.cI 0)) (.cW 23)) (.cons (.ret (.tup (.cons (.cW 23) (.cons (.idxV 3 (.cI 1)) (.cons (.bi .tuple (.comp (.one 7) (.seq (.idxV 3 (.cI 2))) .nil (.call 13 (.cons (.var 4) (.cons (.var 6) (.cons (.var 2) (.cons (.var 7) .nil))))))) .nil))))) .nil) .nil) (.cons (.ite (.cmp .eq (.idxV 0 (.cI 0)) (.cW 5)) (.cons (.ret (.tup (.cons (.cW 5) (.cons (.idxV 3 (.cI 1)) (.cons (.call 13 (.cons (.var 4) (.cons (.var 6) (.cons (.var 2) (.cons (.idxV 3 (.cI 2)) .nil))))) .nil))))) .nil) .nil) (.cons (.ret (.tup (.cons (.cW 1) (.cons (.call 13 (.cons (.var 4) (.cons (.var 6) (.cons (.var 2) (.cons (.idxV 3 (.cI 1)) .nil))))) .nil)))) .nil)))))))))))⟩
/-- led_part -/
def f14 : Fn := ⟨2, 6, (.cons (.asgT [2, 3, 4, 5] (.var 0)) (.cons (.ite (.cmp .isin (.var 2) (.gl 0)) (.cons (.ret (.call 16 (.cons (.var 2) (.cons (.var 4) (.cons (.var 1) .nil))))) .nil) .nil) (.cons (.ite (.cmp .isin (.var 2) (.gl 1)) (.cons (.ret .never) .nil) .nil) (.cons (.ite (.cmp .isin (.var 2) (.gl 2)) (.cons (.ret .never) .nil) .nil) (.cons (.ite (.cmp .isin (.var 2) (.gl 3)) (.cons (.ret .never) .nil) .nil) (.cons (.ret (.call 15 (.cons (.var 0) (.cons (.var 1) .nil)))) .nil))))))⟩
/-- led_size -/
def f15 : Fn := ⟨2, 6, (.cons (.asgT [2, 3, 4, 5] (.var 0)) (.cons (.ite (.cmp .eq (.var 2) (.cW 17)) (.cons (.ret (.ite (.var 4) (.idxV 1 (.cI 2)) (.tup (.cons (.cW 4) (.cons (.bi .int (.cmp .gt (.bi .len (.call 21 (.cons (.var 1) .nil))) (.idxV 5 (.cI 0)))) (.cons (.var 1) .nil)))))) .nil) .nil) (.cons (.ite (.cmp .eq (.var 2) (.cW 21)) (.cons (.ret (.ite (.var 4) (.tup (.cons (.cW 21) (.cons (.idxV 5 (.cI 0)) (.cons (.var 1) .nil)))) (.idxV 1 (.cI 2)))) .nil) .nil) (.cons (.retV 1) .nil))))⟩
/-- led_sum -/
def f16 : Fn := ⟨3, 3, (.cons (.ite (.cmp .eq (.var 0) (.cW 9)) (.cons (.ret (.tup (.cons (.cW 4) (.cons (.bin .sub (.cI 1) (.idxV 2 (.cI 1))) (.cons (.idxV 2 (.cI 2)) .nil))))) .nil) .nil) (.cons (.ite (.cmp .eq (.var 0) (.cW 18)) (.cons (.ret (.ite (.var 1) (.call 18 (.cons (.var 2) .nil)) (.call 17 (.cons (.var 2) .nil)))) .nil) .nil) (.cons (.ite (.cmp .eq (.var 0) (.cW 11)) (.cons (.ret (.tup (.cons (.cW 3) (.cons (.idxV 2 (.cI 2)) (.cons (.idxV 2 (.cI 1)) .nil))))) .nil) .nil) (.cons (.ite (.cmp .eq (.var 0) (.cW 10)) (.cons (.ret (.call 19 (.cons (.var 1) (.cons (.var 2) .nil)))) .nil) .nil) (.cons (.ite (.cmp .eq (.var 0) (.cW 19)) (.cons (.ret (.call 20 (.cons (.var 1) (.cons (.var 2) .nil)))) .nil) .nil) (.cons (.ite (.cmp .eq (.var 0) (.cW 7)) (.cons (.ret (.ite (.var 1) (.tup (.cons (.cW 4) (.cons (.cI 1) (.cons (.var 2) .nil)))) (.idxV 2 (.cI 2)))) .nil) .nil) (.cons (.ret (.ite (.var 1) (.tup (.cons (.cW 3) (.cons (.tup (.cons (.cW 13) .nil)) (.cons (.var 2) .nil)))) (.idxV 2 (.cI 2)))) .nil)))))))⟩
/-- join_this_there -/
def f17 : Fn := ⟨1, 2, (.cons (.ite (.cmp .eq (.idxV 0 (.cI 1)) (.cI 1)) (.cons (.ret (.tup (.cons (.cW 4) (.cons (.cI 1) (.cons (.tup (.cons (.cW 4) (.cons (.cI 1) (.cons (.idxV 0 (.cI 2)) .nil)))) .nil))))) .nil) .nil) (.cons (.asg 1 (.idxV 0 (.cI 2))) (.cons (.ret (.ite (.cmp .eq (.idxV 1 (.cI 1)) (.cI 0)) (.tup (.cons (.cW 4) (.cons (.cI 0) (.cons (.idxV 1 (.cI 2)) .nil)))) (.tup (.cons (.cW 4) (.cons (.cI 1) (.cons (.tup (.cons (.cW 4) (.cons (.cI 0) (.cons (.idxV 1 (.cI 2)) .nil)))) .nil)))))) .nil)))⟩
/-- join_this_back -/
def f18 : Fn := ⟨1, 2, (.cons (.ite (.cmp .eq (.idxV 0 (.cI 1)) (.cI 0)) (.cons (.ret (.tup (.cons (.cW 4) (.cons (.cI 0) (.cons (.tup (.cons (.cW 4) (.cons (.cI 0) (.cons (.idxV 0 (.cI 2)) .nil)))) .nil))))) .nil) .nil) (.cons (.asg 1 (.idxV 0 (.cI 2))) (.cons (.ret (.ite (.cmp .eq (.idxV 1 (.cI 1)) (.cI 1)) (.tup (.cons (.cW 4) (.cons (.cI 1) (.cons (.idxV 1 (.cI 2)) .nil)))) (.tup (.cons (.cW 4) (.cons (.cI 0) (.cons (.tup (.cons (.cW 4) (.cons (.cI 1) (.cons (.idxV 1 (.cI 2)) .nil)))) .nil)))))) .nil)))⟩
/-- join_both_led -/
def f19 : Fn := ⟨2, 2, (.cons (.ite (.var 0) (.cons (.ret (.tup (.cons (.cW 3) (.cons (.tup (.cons (.cW 3) (.cons (.idxV 1 (.cI 1)) (.cons (.idx (.idxV 1 (.cI 2)) (.cI 1)) .nil)))) (.cons (.idx (.idxV 1 (.cI 2)) (.cI 2)) .nil))))) .nil) .nil) (.cons (.ret (.tup (.cons (.cW 3) (.cons (.idx (.idxV 1 (.cI 1)) (.cI 1)) (.cons (.tup (.cons (.cW 3) (.cons (.idx (.idxV 1 (.cI 1)) (.cI 2)) (.cons (.idxV 1 (.cI 2)) .nil)))) .nil))))) .nil))⟩
/-- part_led -/
def f20 : Fn := ⟨2, 2, (.cons (.ite (.var 0) (.cons (.ret (.tup (.cons (.cW 3) (.cons (.idx (.idxV 1 (.cI 2)) (.cI 1)) (.cons (.tup (.cons (.cW 4) (.cons (.idxV 1 (.cI 1)) (.cons (.idx (.idxV 1 (.cI 2)) (.cI 2)) .nil)))) .nil))))) .nil) .nil) (.cons (.ret (.tup (.cons (.cW 4) (.cons (.idx (.idxV 1 (.cI 2)) (.cI 1)) (.cons (.tup (.cons (.cW 3) (.cons (.idxV 1 (.cI 1)) (.cons (.idx (.idxV 1 (.cI 2)) (.cI 2)) .nil)))) .nil))))) .nil))⟩
/-- names_of -/
def f21 : Fn := ⟨1, 3, (.cons (.ite (.cmp .eq (.idxV 0 (.cI 0)) (.cW 13)) (.cons (.ret (.tup .nil)) .nil) .nil) (.cons (.ite (.cmp .eq (.idxV 0 (.cI 0)) (.cW 22)) (.cons (.ret (.tup (.cons (.idxV 0 (.cI 1)) .nil))) .nil) .nil) (.cons (.ite (.cmp .isin (.idxV 0 (.cI 0)) (.tup (.cons (.cW 0) (.cons (.cW 2) (.cons (.cW 6) .nil))))) (.cons (.ret (.bi .tuple (.bi .sorted (.idxV 0 (.cI 1))))) .nil) .nil) (.cons (.ite (.cmp .isin (.idxV 0 (.cI 0)) (.tup (.cons (.cW 4) (.cons (.cW 5) (.cons (.cW 21) .nil))))) (.cons (.ret (.call 21 (.cons (.idxV 0 (.cI 2)) .nil))) .nil) .nil) (.cons (.ite (.cmp .eq (.idxV 0 (.cI 0)) (.cW 1)) (.cons (.ret (.slU (.call 21 (.cons (.idxV 0 (.cI 1)) .nil)) (.neg (.cI 1)))) .nil) .nil) (.cons (.ite (.cmp .eq (.idxV 0 (.cI 0)) (.cW 3)) (.cons (.ret (.bi .tuple (.bi .sorted (.bin .add (.call 21 (.cons (.idxV 0 (.cI 1)) .nil)) (.call 21 (.cons (.idxV 0 (.cI 2)) .nil)))))) .nil) .nil) (.cons (.asg 1 (.lst .nil)) (.cons (.for_ (.one 2) (.seq (.idxV 0 (.cI 2))) (.cons (.expr (.ext 1 (.call 21 (.cons (.var 2) .nil)))) .nil)) (.cons (.ret (.bi .tuple (.bi .sorted (.var 1)))) .nil)))))))))⟩
/-- gone -/
def f22 : Fn := ⟨3, 3, (.cons (.ret (.call 24 (.cons (.var 1) (.cons (.idxV 2 (.cI 1)) (.cons (.call 25 (.cons (.var 0) (.cons (.var 2) (.cons (.call 23 (.cons (.var 1) (.cons (.idxV 2 (.cI 1)) .nil))) .nil)))) .nil))))) .nil)⟩
/-- part_at -/
def f23 : Fn := ⟨2, 4, (.cons (.asg 2 (.var 0)) (.cons (.for_ (.one 3) (.seq (.var 1)) (.cons (.ite (.cmp .ge (.var 3) .never) (.cons (.ret .cN) .nil) .nil) (.cons (.asg 2 (.idxV 2 (.bin .add (.cI 1) (.var 3)))) .nil))) (.cons (.retV 2) .nil)))⟩
/-- put_at -/
def f24 : Fn := ⟨3, 4, (.cons (.ite (.cmp .eq (.bi .len (.var 1)) (.cI 0)) (.cons (.retV 2) .nil) .nil) (.cons (.asg 3 (.bin .add (.cI 1) (.idxV 1 (.cI 0)))) (.cons (.ret (.bin .add (.bin .add (.slU (.var 0) (.var 3)) (.tup (.cons (.call 24 (.cons (.idxV 0 (.var 3)) (.cons (.slL (.var 1) (.cI 1)) (.cons (.var 2) .nil)))) .nil))) (.slL (.var 0) (.bin .add (.var 3) (.cI 1))))) .nil)))⟩
/-- other_side -/
def f25 : Fn := ⟨3, 9, (.cons (.asgT [5, 6, 7, 8] (.var 1)) (.cons (.ite (.cmp .eq (.var 5) (.cW 21)) (.cons (.ret (.call 26 (.cons (.var 0) (.cons (.var 7) (.cons (.var 8) (.cons (.var 2) .nil)))))) .nil) .nil) (.cons (.asg 3 (.gget 5 (.var 5))) (.cons (.asg 4 .dnew) (.cons (.ite (.or_ (.not_ (.call 29 (.cons (.idxV 3 (.bi .int (.var 7))) (.cons (.var 2) (.cons (.var 4) .nil))))) (.not_ (.call 27 (.cons (.var 5) (.cons (.var 7) (.cons (.var 8) (.cons (.var 4) .nil))))))) (.cons (.ret .cN) .nil) .nil) (.cons (.ite (.and_ (.din true (.cW 24) 4) (.cmp .gt (.bi .len (.var 8)) (.cI 0))) (.cons (.dput 4 (.cW 24) (.idxV 8 (.cI 0))) .nil) .nil) (.cons (.ret (.call 28 (.cons (.idxV 3 (.bin .sub (.cI 1) (.bi .int (.var 7)))) (.cons (.var 4) .nil)))) .nil)))))))⟩
/-- ruled_side -/
def f26 : Fn := ⟨4, 4, (.cons (.ite (.var 1) (.cons (.ret (.ite (.cmp .eq (.var 3) (.idxV 0 (.idxV 2 (.cI 0)))) (.tup (.cons (.cW 21) (.cons (.idxV 2 (.cI 0)) .nil))) .cN)) .nil) .nil) (.cons (.ret (.ite (.cmp .eq (.idxV 3 (.cI 0)) (.cW 21)) (.idxV 0 (.idxV 3 (.cI 1))) .cN)) .nil))⟩
/-- sizes_fit -/
def f27 : Fn := ⟨4, 4, (.cons (.ite (.and_ (.cmp .eq (.var 0) (.cW 17)) (.not_ (.var 1))) (.cons (.dput 3 (.cW 25) (.idxV 2 (.cI 0))) (.cons (.dput 3 (.cW 27) (.bin .add (.idxV 2 (.cI 0)) (.cI 1))) (.cons (.ret (.ch .le .lt (.dget 3 (.cW 28)) (.idxV 2 (.cI 0)) (.dget 3 (.cW 26)))) .nil))) .nil) (.cons (.ite (.cmp .eq (.var 0) (.cW 17)) (.cons (.ret (.cmp .eq (.dget 3 (.cW 27)) (.bin .add (.dget 3 (.cW 25)) (.cI 1)))) .nil) .nil) (.cons (.ite (.and_ (.cmp .eq (.var 0) (.cW 20)) (.not_ (.var 1))) (.cons (.dput 3 (.cW 25) (.bin .add (.dget 3 (.cW 28)) (.cI 1))) (.cons (.dput 3 (.cW 27) (.bin .add (.dget 3 (.cW 26)) (.cI 1))) (.cons (.ret (.cmp .lt (.dget 3 (.cW 26)) (.gl 4))) .nil))) .nil) (.cons (.ite (.cmp .eq (.var 0) (.cW 20)) (.cons (.dput 3 (.cW 28) (.bin .sub (.dget 3 (.cW 25)) (.cI 1))) (.cons (.dput 3 (.cW 26) (.bin .sub (.dget 3 (.cW 27)) (.cI 1))) (.cons (.ret (.cmp .gt (.dget 3 (.cW 25)) (.cI 0))) .nil))) .nil) (.cons (.ret (.cB true)) .nil)))))⟩
/-- filled -/
def f28 : Fn := ⟨2, 3, (.cons (.ite (.isi .str (.var 0)) (.cons (.ret (.dget 1 (.var 0))) .nil) .nil) (.cons (.ite (.not_ (.isi .tup (.var 0))) (.cons (.retV 0) .nil) .nil) (.cons (.ret (.bin .add (.slU (.var 0) (.cI 1)) (.bi .tuple (.comp (.one 2) (.seq (.slL (.var 0) (.cI 1))) .nil (.call 28 (.cons (.var 2) (.cons (.var 1) .nil))))))) .nil)))⟩
/-- fits -/
def f29 : Fn := ⟨3, 4, (.cons (.ite (.isi .str (.var 0)) (.cons (.ite (.din true (.var 0) 2) (.cons (.dput 2 (.var 0) (.var 1)) .nil) .nil) (.cons (.ret (.cmp .eq (.dget 2 (.var 0)) (.var 1))) .nil)) .nil) (.cons (.ite (.not_ (.isi .tup (.var 0))) (.cons (.ret (.cmp .eq (.var 0) (.var 1))) .nil) .nil) (.cons (.ite (.or_ (.cmp .ne (.bi .len (.var 1)) (.bi .len (.var 0))) (.cmp .ne (.idxV 1 (.cI 0)) (.idxV 0 (.cI 0)))) (.cons (.ret (.cB false)) .nil) .nil) (.cons (.ret (.bi .all (.comp (.one 3) (.rng2 (.cI 1) (.bi .len (.var 0))) .nil (.call 29 (.cons (.idxV 0 (.var 3)) (.cons (.idxV 1 (.var 3)) (.cons (.var 2) .nil))))))) .nil))))⟩
/-- SUM_WORDS -/
def g0 : D := .tup [(.w 9), (.w 18), (.w 11), (.w 10), (.w 19), (.w 7), (.w 29), (.w 12)]
/-- IN_WORDS -/
def g1 : D := .tup [(.w 30), (.w 31), (.w 32), (.w 33), (.w 34), (.w 35), (.w 36), (.w 37), (.w 38)]
/-- BARE_WORDS -/
def g2 : D := .tup [(.w 39), (.w 2), (.w 40), (.w 41), (.w 42), (.w 43), (.w 44), (.w 45)]
/-- HOLE_WORDS -/
def g3 : D := .tup [(.w 46), (.w 47), (.w 48), (.w 49), (.w 5)]
/-- MOST_SIZE -/
def g4 : D := .int 20
/-- SIDES -/
def g5 : D := .dic [.w 9, .w 18, .w 11, .w 10, .w 19, .w 7, .w 12, .w 17, .w 16, .w 15, .w 20] [(.tup [(.tup [(.w 4), (.w 24), (.w 50)]), (.tup [(.w 4), (.w 50), (.w 24)])]), (.tup [(.tup [(.w 4), (.tup [(.w 4), (.w 24), (.w 50)]), (.w 51)]), (.tup [(.w 4), (.w 24), (.tup [(.w 4), (.w 50), (.w 51)])])]), (.tup [(.tup [(.w 3), (.w 24), (.w 50)]), (.tup [(.w 3), (.w 50), (.w 24)])]), (.tup [(.tup [(.w 3), (.tup [(.w 3), (.w 24), (.w 50)]), (.w 51)]), (.tup [(.w 3), (.w 24), (.tup [(.w 3), (.w 50), (.w 51)])])]), (.tup [(.tup [(.w 3), (.w 24), (.tup [(.w 4), (.w 50), (.w 51)])]), (.tup [(.w 4), (.tup [(.w 3), (.w 24), (.w 50)]), (.tup [(.w 3), (.w 24), (.w 51)])])]), (.tup [(.tup [(.w 4), (.tup [(.w 8)]), (.w 24)]), (.w 24)]), (.tup [(.tup [(.w 3), (.tup [(.w 13)]), (.w 24)]), (.w 24)]), (.tup [(.tup [(.w 14), (.w 24), (.w 28), (.w 26)]), (.tup [(.w 4), (.tup [(.w 14), (.w 24), (.w 28), (.w 25)]), (.tup [(.w 14), (.w 24), (.w 27), (.w 26)])])]), (.tup [(.tup [(.w 14), (.tup [(.w 4), (.w 24), (.w 50)]), (.w 28), (.w 26)]), (.tup [(.w 4), (.tup [(.w 14), (.w 24), (.w 28), (.w 26)]), (.tup [(.w 14), (.w 50), (.w 28), (.w 26)])])]), (.tup [(.tup [(.w 14), (.tup [(.w 5), (.w 24)]), (.w 28), (.w 26)]), (.tup [(.w 5), (.tup [(.w 14), (.w 24), (.w 28), (.w 26)])])]), (.tup [(.tup [(.w 14), (.tup [(.w 1), (.w 24)]), (.w 28), (.w 26)]), (.tup [(.w 1), (.tup [(.w 14), (.w 24), (.w 25), (.w 27)])])])]
def ff : List Fn := [f0, f1, f2, f3, f4, f5, f6, f7, f8, f9, f10, f11, f12, f13, f14, f15, f16, f17, f18, f19, f20, f21, f22, f23, f24, f25, f26, f27, f28, f29]
def gd : List D := [g0, g1, g2, g3, g4]
def dd : List D := [g5]
-- CUT
def wd : List Str := [("set" : Str), ("hole" : Str), ("row" : Str), ("both" : Str), ("this" : Str), ("point" : Str), ("round" : Str), ("no-this" : Str), ("void" : Str), ("turn-this" : Str), ("join-both" : Str), ("turn-both" : Str), ("unit-both" : Str), ("unit" : Str), ("sized" : Str), ("size-point" : Str), ("size-this" : Str), ("cut" : Str), ("join-this" : Str), ("part" : Str), ("size-hole" : Str), ("rule" : Str), ("one" : Str), ("in" : Str), ("K" : Str), ("c" : Str), ("b" : Str), ("d" : Str), ("a" : Str), ("no-both" : Str), ("in-this" : Str), ("in-both" : Str), ("in-in" : Str), ("in-one" : Str), ("of-one" : Str), ("in-unit" : Str), ("in-void" : Str), ("of-void" : Str), ("set-this" : Str), ("set-none" : Str), ("hole-row" : Str), ("hole-set" : Str), ("hole-round" : Str), ("hole-one" : Str), ("hole-unit" : Str), ("hole-void" : Str), ("hole-this" : Str), ("hole-both" : Str), ("hole-in" : Str), ("turn-hole" : Str), ("L" : Str), ("M" : Str)]
def lw : Lw := ⟨wd, [("SUM_WORDS" : Str), ("IN_WORDS" : Str), ("BARE_WORDS" : Str), ("HOLE_WORDS" : Str), ("MOST_SIZE" : Str)], gd, [("SIDES" : Str)], dd, [("_law_feed" : Str), ("_law_take" : Str), ("_law_names" : Str), ("_law_shuffled" : Str), ("_law_split" : Str), ("_law_hole" : Str), ("_law_some" : Str), ("_law_this_case" : Str), ("_law_both_case" : Str), ("_law_size_case" : Str), ("_law_case" : Str), ("law" : Str), ("led_by" : Str), ("led_at" : Str), ("led_part" : Str), ("led_size" : Str), ("led_sum" : Str), ("join_this_there" : Str), ("join_this_back" : Str), ("join_both_led" : Str), ("part_led" : Str), ("names_of" : Str), ("gone" : Str), ("part_at" : Str), ("put_at" : Str), ("other_side" : Str), ("ruled_side" : Str), ("sizes_fit" : Str), ("filled" : Str), ("fits" : Str)], ff⟩
theorem wok : WOk lw.W := by
  constructor <;> decide +kernel
def top (i : Nat) : Stmt := PySem.Challenge.pw_kindmakes_k60_led_by_moves_of_this_and_b.main.body.getD i (.Pass ⟨0, 0, 0, 0⟩)
theorem c0 : DefT lw.tb ("_law_feed" : Str) (top 78) [("_law_script" : Str)] [("_law_script" : Str)] f0 := by
  refine ⟨fun _ _ _ _ _ _ us hl => match us, hl with | [_], _ => rfl, C8.fnScope_by (by decide +kernel), rfl, rfl, by decide +kernel⟩
theorem c1 : DefT lw.tb ("_law_take" : Str) (top 79) [("_law_feed_here" : Str), ("_law_many" : Str)] [("_law_feed_here" : Str), ("_law_many" : Str), ("_law_cell" : Str), ("_law_mixed" : Str), ("_law_found" : Str)] f1 := by
  refine ⟨fun _ _ _ _ _ _ us hl => match us, hl with | [_, _], _ => rfl, C8.fnScope_by (by decide +kernel), rfl, rfl, by decide +kernel⟩
theorem c2 : DefT lw.tb ("_law_names" : Str) (top 80) [("_law_feed_here" : Str), ("_law_most" : Str)] [("_law_feed_here" : Str), ("_law_most" : Str), ("_law_some_here" : Str), ("_law_many" : Str)] f2 := by
  refine ⟨fun _ _ _ _ _ _ us hl => match us, hl with | [_, _], _ => rfl, C8.fnScope_by (by decide +kernel), rfl, rfl, by decide +kernel⟩
theorem c3 : DefT lw.tb ("_law_shuffled" : Str) (top 81) [("_law_feed_here" : Str), ("_law_row" : Str)] [("_law_feed_here" : Str), ("_law_row" : Str), ("_law_left" : Str), ("_law_found" : Str), ("_law_k" : Str)] f3 := by
  refine ⟨fun _ _ _ _ _ _ us hl => match us, hl with | [_, _], _ => rfl, C8.fnScope_by (by decide +kernel), rfl, rfl, by decide +kernel⟩
theorem c4 : DefT lw.tb ("_law_split" : Str) (top 82) [("_law_feed_here" : Str), ("_law_names_here" : Str), ("_law_many" : Str)] [("_law_feed_here" : Str), ("_law_names_here" : Str), ("_law_many" : Str), ("_law_heaps" : Str), ("_law_name" : Str), ("_law_at" : Str)] f4 := by
  refine ⟨fun _ _ _ _ _ _ us hl => match us, hl with | [_, _, _], _ => rfl, C8.fnScope_by (by decide +kernel), rfl, rfl, by decide +kernel⟩
theorem c5 : DefT lw.tb ("_law_hole" : Str) (top 83) [("_law_names_here" : Str)] [("_law_names_here" : Str), ("_law_name" : Str)] f5 := by
  refine ⟨fun _ _ _ _ _ _ us hl => match us, hl with | [_], _ => rfl, C8.fnScope_by (by decide +kernel), rfl, rfl, by decide +kernel⟩
theorem c6 : DefT lw.tb ("_law_some" : Str) (top 84) [("_law_feed_here" : Str), ("_law_names_here" : Str)] [("_law_feed_here" : Str), ("_law_names_here" : Str), ("_law_way" : Str), ("_law_j" : Str), ("_law_one" : Str), ("_law_other" : Str)] f6 := by
  refine ⟨fun _ _ _ _ _ _ us hl => match us, hl with | [_, _], _ => rfl, C8.fnScope_by (by decide +kernel), rfl, rfl, by decide +kernel⟩
theorem c7 : DefT lw.tb ("_law_this_case" : Str) (top 85) [("_law_feed_here" : Str), ("_law_word" : Str), ("_law_names_here" : Str)] [("_law_feed_here" : Str), ("_law_word" : Str), ("_law_names_here" : Str), ("_law_j" : Str), ("_law_kk" : Str), ("_law_s" : Str), ("_law_kl" : Str), ("_law_t" : Str), ("_law_km" : Str), ("_law_u" : Str), ("_law_first" : Str), ("_law_second" : Str)] f7 := by
  refine ⟨fun _ _ _ _ _ _ us hl => match us, hl with | [_, _, _], _ => rfl, C8.fnScope_by (by decide +kernel), rfl, rfl, by decide +kernel⟩
theorem c8 : DefT lw.tb ("_law_both_case" : Str) (top 86) [("_law_feed_here" : Str), ("_law_word" : Str), ("_law_names_here" : Str)] [("_law_feed_here" : Str), ("_law_word" : Str), ("_law_names_here" : Str), ("_law_heaps" : Str), ("_law_j" : Str), ("_law_kk" : Str), ("_law_s" : Str), ("_law_kl" : Str), ("_law_t" : Str), ("_law_km" : Str), ("_law_u" : Str), ("_law_first" : Str), ("_law_second" : Str)] f8 := by
  refine ⟨fun _ _ _ _ _ _ us hl => match us, hl with | [_, _, _], _ => rfl, C8.fnScope_by (by decide +kernel), rfl, rfl, by decide +kernel⟩
theorem c9 : DefT lw.tb ("_law_size_case" : Str) (top 87) [("_law_feed_here" : Str), ("_law_word" : Str), ("_law_names_here" : Str)] [("_law_feed_here" : Str), ("_law_word" : Str), ("_law_names_here" : Str), ("_law_n" : Str), ("_law_a" : Str), ("_law_b" : Str), ("_law_kk" : Str), ("_law_s" : Str), ("_law_c" : Str), ("_law_j" : Str), ("_law_second" : Str), ("_law_first" : Str), ("_law_kl" : Str), ("_law_t" : Str)] f9 := by
  refine ⟨fun _ _ _ _ _ _ us hl => match us, hl with | [_, _, _], _ => rfl, C8.fnScope_by (by decide +kernel), rfl, rfl, by decide +kernel⟩
theorem c10 : DefT lw.tb ("_law_case" : Str) (top 88) [("_law_feed_here" : Str), ("_law_word" : Str)] [("_law_feed_here" : Str), ("_law_word" : Str), ("_law_names_here" : Str), ("_law_rules" : Str), ("_law_found" : Str), ("_law_kk" : Str), ("_law_s" : Str)] f10 := by
  refine ⟨fun _ _ _ _ _ _ us hl => match us, hl with | [_, _], _ => rfl, C8.fnScope_by (by decide +kernel), rfl, rfl, by decide +kernel⟩
theorem c11 : DefT lw.tb ("law" : Str) (top 89) [("_law_script" : Str)] [("_law_script" : Str), ("_law_feed_here" : Str), ("_law_words" : Str), ("_law_k" : Str), ("_law_kept" : Str), ("_law_turn" : Str), ("_law_rules" : Str), ("_law_one" : Str), ("_law_other" : Str), ("_law_s" : Str), ("_law_t" : Str), ("_law_there" : Str), ("_law_back" : Str)] f11 := by
  refine ⟨fun _ _ _ _ _ _ us hl => match us, hl with | [_], _ => rfl, C8.fnScope_by (by decide +kernel), rfl, rfl, by decide +kernel⟩
theorem c12 : DefT lw.tb ("led_by" : Str) (top 76) [("rules" : Str), ("kind" : Str), ("way" : Str), ("s" : Str)] [("rules" : Str), ("kind" : Str), ("way" : Str), ("s" : Str), ("here" : Str), ("found" : Str), ("step" : Str)] f12 := by
  refine ⟨fun _ _ _ _ _ _ us hl => match us, hl with | [_, _, _, _], _ => rfl, C8.fnScope_by (by decide +kernel), rfl, rfl, by decide +kernel⟩
theorem c13 : DefT lw.tb ("led_at" : Str) (top 75) [("kind" : Str), ("path" : Str), ("step" : Str), ("s" : Str)] [("kind" : Str), ("path" : Str), ("step" : Str), ("s" : Str), ("inner" : Str), ("pick" : Str), ("rest" : Str), ("one" : Str)] f13 := by
  refine ⟨fun _ _ _ _ _ _ us hl => match us, hl with | [_, _, _, _], _ => rfl, C8.fnScope_by (by decide +kernel), rfl, rfl, by decide +kernel⟩
theorem c14 : DefT lw.tb ("led_part" : Str) (top 74) [("step" : Str), ("s" : Str)] [("step" : Str), ("s" : Str), ("word" : Str), ("path" : Str), ("back" : Str), ("extra" : Str)] f14 := by
  refine ⟨fun _ _ _ _ _ _ us hl => match us, hl with | [_, _], _ => rfl, C8.fnScope_by (by decide +kernel), rfl, rfl, by decide +kernel⟩
theorem c15 : DefT lw.tb ("led_size" : Str) (top 73) [("step" : Str), ("s" : Str)] [("step" : Str), ("s" : Str), ("word" : Str), ("path" : Str), ("back" : Str), ("extra" : Str)] f15 := by
  refine ⟨fun _ _ _ _ _ _ us hl => match us, hl with | [_, _], _ => rfl, C8.fnScope_by (by decide +kernel), rfl, rfl, by decide +kernel⟩
theorem c16 : DefT lw.tb ("led_sum" : Str) (top 71) [("word" : Str), ("back" : Str), ("s" : Str)] [("word" : Str), ("back" : Str), ("s" : Str)] f16 := by
  refine ⟨fun _ _ _ _ _ _ us hl => match us, hl with | [_, _, _], _ => rfl, C8.fnScope_by (by decide +kernel), rfl, rfl, by decide +kernel⟩
theorem c17 : DefT lw.tb ("join_this_there" : Str) (top 67) [("s" : Str)] [("s" : Str), ("inner" : Str)] f17 := by
  refine ⟨fun _ _ _ _ _ _ us hl => match us, hl with | [_], _ => rfl, C8.fnScope_by (by decide +kernel), rfl, rfl, by decide +kernel⟩
theorem c18 : DefT lw.tb ("join_this_back" : Str) (top 68) [("s" : Str)] [("s" : Str), ("inner" : Str)] f18 := by
  refine ⟨fun _ _ _ _ _ _ us hl => match us, hl with | [_], _ => rfl, C8.fnScope_by (by decide +kernel), rfl, rfl, by decide +kernel⟩
theorem c19 : DefT lw.tb ("join_both_led" : Str) (top 69) [("back" : Str), ("s" : Str)] [("back" : Str), ("s" : Str)] f19 := by
  refine ⟨fun _ _ _ _ _ _ us hl => match us, hl with | [_, _], _ => rfl, C8.fnScope_by (by decide +kernel), rfl, rfl, by decide +kernel⟩
theorem c20 : DefT lw.tb ("part_led" : Str) (top 70) [("back" : Str), ("s" : Str)] [("back" : Str), ("s" : Str)] f20 := by
  refine ⟨fun _ _ _ _ _ _ us hl => match us, hl with | [_, _], _ => rfl, C8.fnScope_by (by decide +kernel), rfl, rfl, by decide +kernel⟩
theorem c21 : DefT lw.tb ("names_of" : Str) (top 7) [("s" : Str)] [("s" : Str), ("found" : Str), ("g" : Str)] f21 := by
  refine ⟨fun _ _ _ _ _ _ us hl => match us, hl with | [_], _ => rfl, C8.fnScope_by (by decide +kernel), rfl, rfl, by decide +kernel⟩
theorem c22 : DefT lw.tb ("gone" : Str) (top 65) [("rules" : Str), ("kind" : Str), ("step" : Str)] [("rules" : Str), ("kind" : Str), ("step" : Str)] f22 := by
  refine ⟨fun _ _ _ _ _ _ us hl => match us, hl with | [_, _, _], _ => rfl, C8.fnScope_by (by decide +kernel), rfl, rfl, by decide +kernel⟩
theorem c23 : DefT lw.tb ("part_at" : Str) (top 63) [("kind" : Str), ("path" : Str)] [("kind" : Str), ("path" : Str), ("part" : Str), ("pick" : Str)] f23 := by
  refine ⟨fun _ _ _ _ _ _ us hl => match us, hl with | [_, _], _ => rfl, C8.fnScope_by (by decide +kernel), rfl, rfl, by decide +kernel⟩
theorem c24 : DefT lw.tb ("put_at" : Str) (top 64) [("kind" : Str), ("path" : Str), ("part" : Str)] [("kind" : Str), ("path" : Str), ("part" : Str), ("at" : Str)] f24 := by
  refine ⟨fun _ _ _ _ _ _ us hl => match us, hl with | [_, _, _], _ => rfl, C8.fnScope_by (by decide +kernel), rfl, rfl, by decide +kernel⟩
theorem c25 : DefT lw.tb ("other_side" : Str) (top 54) [("rules" : Str), ("step" : Str), ("part" : Str)] [("rules" : Str), ("step" : Str), ("part" : Str), ("sides" : Str), ("found" : Str), ("word" : Str), ("path" : Str), ("back" : Str), ("extra" : Str)] f25 := by
  refine ⟨fun _ _ _ _ _ _ us hl => match us, hl with | [_, _, _], _ => rfl, C8.fnScope_by (by decide +kernel), rfl, rfl, by decide +kernel⟩
theorem c26 : DefT lw.tb ("ruled_side" : Str) (top 53) [("rules" : Str), ("back" : Str), ("extra" : Str), ("part" : Str)] [("rules" : Str), ("back" : Str), ("extra" : Str), ("part" : Str)] f26 := by
  refine ⟨fun _ _ _ _ _ _ us hl => match us, hl with | [_, _, _, _], _ => rfl, C8.fnScope_by (by decide +kernel), rfl, rfl, by decide +kernel⟩
theorem c27 : DefT lw.tb ("sizes_fit" : Str) (top 52) [("word" : Str), ("back" : Str), ("extra" : Str), ("found" : Str)] [("word" : Str), ("back" : Str), ("extra" : Str), ("found" : Str)] f27 := by
  refine ⟨fun _ _ _ _ _ _ us hl => match us, hl with | [_, _, _, _], _ => rfl, C8.fnScope_by (by decide +kernel), rfl, rfl, by decide +kernel⟩
theorem c28 : DefT lw.tb ("filled" : Str) (top 51) [("side" : Str), ("found" : Str)] [("side" : Str), ("found" : Str), ("one" : Str)] f28 := by
  refine ⟨fun _ _ _ _ _ _ us hl => match us, hl with | [_, _], _ => rfl, C8.fnScope_by (by decide +kernel), rfl, rfl, by decide +kernel⟩
theorem c29 : DefT lw.tb ("fits" : Str) (top 50) [("side" : Str), ("thing" : Str), ("found" : Str)] [("side" : Str), ("thing" : Str), ("found" : Str), ("k" : Str)] f29 := by
  refine ⟨fun _ _ _ _ _ _ us hl => match us, hl with | [_, _, _], _ => rfl, C8.fnScope_by (by decide +kernel), rfl, rfl, by decide +kernel⟩
theorem tops {K : PySem.W.Frag} {w : World} (b : BltK K bltNames) (h0 : GlK K wd w ("SUM_WORDS" : Str) g0) (h1 : GlK K wd w ("IN_WORDS" : Str) g1) (h2 : GlK K wd w ("BARE_WORDS" : Str) g2) (h3 : GlK K wd w ("HOLE_WORDS" : Str) g3) (h4 : GlK K wd w ("MOST_SIZE" : Str) g4) (h5 : DcK K wd w ("SIDES" : Str) g5) (d0 : DefK K ("_law_feed" : Str) ("_law_feed" : Str) (top 78)) (d1 : DefK K ("_law_take" : Str) ("_law_take" : Str) (top 79)) (d2 : DefK K ("_law_names" : Str) ("_law_names" : Str) (top 80)) (d3 : DefK K ("_law_shuffled" : Str) ("_law_shuffled" : Str) (top 81)) (d4 : DefK K ("_law_split" : Str) ("_law_split" : Str) (top 82)) (d5 : DefK K ("_law_hole" : Str) ("_law_hole" : Str) (top 83)) (d6 : DefK K ("_law_some" : Str) ("_law_some" : Str) (top 84)) (d7 : DefK K ("_law_this_case" : Str) ("_law_this_case" : Str) (top 85)) (d8 : DefK K ("_law_both_case" : Str) ("_law_both_case" : Str) (top 86)) (d9 : DefK K ("_law_size_case" : Str) ("_law_size_case" : Str) (top 87)) (d10 : DefK K ("_law_case" : Str) ("_law_case" : Str) (top 88)) (d11 : DefK K ("law" : Str) ("law" : Str) (top 89)) (d12 : DefK K ("led_by" : Str) ("led_by" : Str) (top 76)) (d13 : DefK K ("led_at" : Str) ("led_at" : Str) (top 75)) (d14 : DefK K ("led_part" : Str) ("led_part" : Str) (top 74)) (d15 : DefK K ("led_size" : Str) ("led_size" : Str) (top 73)) (d16 : DefK K ("led_sum" : Str) ("led_sum" : Str) (top 71)) (d17 : DefK K ("join_this_there" : Str) ("join_this_there" : Str) (top 67)) (d18 : DefK K ("join_this_back" : Str) ("join_this_back" : Str) (top 68)) (d19 : DefK K ("join_both_led" : Str) ("join_both_led" : Str) (top 69)) (d20 : DefK K ("part_led" : Str) ("part_led" : Str) (top 70)) (d21 : DefK K ("names_of" : Str) ("names_of" : Str) (top 7)) (d22 : DefK K ("gone" : Str) ("gone" : Str) (top 65)) (d23 : DefK K ("part_at" : Str) ("part_at" : Str) (top 63)) (d24 : DefK K ("put_at" : Str) ("put_at" : Str) (top 64)) (d25 : DefK K ("other_side" : Str) ("other_side" : Str) (top 54)) (d26 : DefK K ("ruled_side" : Str) ("ruled_side" : Str) (top 53)) (d27 : DefK K ("sizes_fit" : Str) ("sizes_fit" : Str) (top 52)) (d28 : DefK K ("filled" : Str) ("filled" : Str) (top 51)) (d29 : DefK K ("fits" : Str) ("fits" : Str) (top 50)) : TopK lw K w :=
  ⟨b, (.cons h0 (.cons h1 (.cons h2 (.cons h3 (.cons h4 .nil))))), (.cons h5 .nil), (.cons d0 c0 (.cons d1 c1 (.cons d2 c2 (.cons d3 c3 (.cons d4 c4 (.cons d5 c5 (.cons d6 c6 (.cons d7 c7 (.cons d8 c8 (.cons d9 c9 (.cons d10 c10 (.cons d11 c11 (.cons d12 c12 (.cons d13 c13 (.cons d14 c14 (.cons d15 c15 (.cons d16 c16 (.cons d17 c17 (.cons d18 c18 (.cons d19 c19 (.cons d20 c20 (.cons d21 c21 (.cons d22 c22 (.cons d23 c23 (.cons d24 c24 (.cons d25 c25 (.cons d26 c26 (.cons d27 c27 (.cons d28 c28 (.cons d29 c29 .nil))))))))))))))))))))))))))))))⟩
end K60
namespace K60
open PD
def fns (f : Nat) : Option Fn := ff[f]?
def gv (g : Nat) : D := if g < 5 then gd.getD g .non else dd.getD (g - 5) .non
@[irreducible] def C (n : Nat) : Phi := callF fns gv 40 n
theorem call_c {n f : Nat} {fn : Fn} {as : List (Bool × D)} {P : (Bool × D) × List (Bool × D) → Prop} (hf : fns f = some fn) (hl : as.length = fn.np) (h : wSs (C n) gv 40 fn.body (done as P) (startEnv fn as)) : ∃ r, C (n + 1) f as = some r ∧ P r := by
  unfold C at h ⊢
  exact call_w hf hl h
local macro_rules | `(tactic| walk_at "su") => `(tactic| first
  | refine ⟨_, rfl, ?_⟩
  | refine ⟨rfl, ?_⟩
  | refine ⟨⟨Nat.le_of_ble_eq_true rfl, rfl⟩, ?_⟩
  | refine ⟨⟨by decide, by decide⟩, ?_⟩
  | refine ⟨⟨by decide, by simp; done⟩, ?_⟩
  | refine ⟨by decide, ?_⟩
  | refine ⟨_, _, rfl, ?_⟩
  | refine ⟨_, _, _, rfl, ?_⟩)
local macro_rules | `(tactic| walk_at "s1") => `(tactic| first
  | refine ask rfl ?_
  | walk_at "su")
local macro_rules | `(tactic| walk_at "st") => `(tactic| repeat walk_at "s1")
local macro_rules | `(tactic| walk_at "sv") => `(tactic| repeat walk_at "su")
def feed (xs : List Int) (c r k : Int) : D := .lst [.lst (xs.map D.int), .int c, .int r, .int k]
def FeedOk (B : Nat) (fd : D) : Prop := ∃ xs c r k, fd = feed xs c r k ∧ k.natAbs ≤ B
theorem pick (xs : List Int) (c : Int) (h : 0 < xs.length) : ∃ z, idxD (.lst (xs.map D.int)) (.int (c.fmod ((xs.map D.int).length : Nat))) = some (.int z) := by
  rw [List.length_map]
  have h1 : (0 : Int) < (xs.length : Int) := by omega
  have a := Int.fmod_nonneg_of_pos c h1
  have b := Int.fmod_lt_of_pos c h1
  generalize hm : c.fmod (xs.length : Int) = m at *
  have hl : m.toNat < xs.length := by omega
  refine ⟨xs[m.toNat], ?_⟩
  show at_ (xs.map D.int) m = _
  unfold at_
  rw [if_pos a, List.getElem?_map, List.getElem?_eq_getElem hl]
  rfl
theorem take_ok {n B : Nat} {fd : D} {m : Int} (h : FeedOk B fd) (hB : B < 1000000) (hm : 0 < m) (hm2 : m < 1000000) :
    ∃ r, C (n + 1) 1 [(true, fd), (false, .int m)] = some r ∧ ∃ v fd', r = ((false, .int v), [(true, fd'), (false, .int m)]) ∧ 0 ≤ v ∧ v < m ∧ FeedOk (B + 1) fd' := by
  obtain ⟨xs, c, r, k, rfl, hk⟩ := h
  have m0 : m ≠ 0 := by omega
  have mA : m.natAbs < 1073741824 := by omega
  have md : ∀ x : Int, 0 ≤ x.fmod m ∧ x.fmod m < m := fun x => ⟨Int.fmod_nonneg_of_pos x hm, Int.fmod_lt_of_pos x hm⟩
  refine call_c (fn := f1) rfl rfl ?_
  walk_at "st"
  show (match decide (r > 0) with | true => _ | false => _)
  by_cases hr : r > 0
  · rw [decide_eq_true hr]
    walk_at "st"
    refine ⟨_, if_pos m0, ?_⟩
    walk_at "st"
    refine ⟨_, if_pos ⟨m0, mA⟩, ?_⟩
    walk_at "st"
    exact ⟨(md r).1, (md r).2, xs, c, r.fdiv m, k + 1, rfl, by omega⟩
  · rw [decide_eq_false hr]
    have rest : ∀ z : Int, wSs (C n) gv 40 (dropS 4 f1.body) (done [(true, feed xs c r k), (false, .int m)] fun q => ∃ v fd', q = ((false, .int v), [(true, fd'), (false, .int m)]) ∧ 0 ≤ v ∧ v < m ∧ FeedOk (B + 1) fd')
        [some (.lent, feed xs c r (k + 1)), some (.fro, .int m), some (.fro, .int z), none, none] := by
      intro z
      walk_at "st"
      have tail : wSs (C n) gv 40 (dropS 6 f1.body) (done [(true, feed xs c r k), (false, .int m)] fun q => ∃ v fd', q = ((false, .int v), [(true, fd'), (false, .int m)]) ∧ 0 ≤ v ∧ v < m ∧ FeedOk (B + 1) fd')
        [some (.lent, feed xs (c + 1) r (k + 1)), some (.fro, .int m), some (.fro, .int z), none, none] := by
        have z1 := Int.fmod_nonneg_of_pos z (show (0 : Int) < 2147483629 by decide)
        have z2 := Int.fmod_lt_of_pos z (show (0 : Int) < 2147483629 by decide)
        walk_at "st"
        refine ⟨_, if_pos ⟨by decide, by decide, by omega⟩, ?_⟩
        walk_at "st"
        generalize hy : ((z.fmod 2147483629 + 48271 * (k + 1)) ^ Int.toNat 5) = y
        have y1 := Int.fmod_nonneg_of_pos y (show (0 : Int) < 2147483647 by decide)
        have y2 := Int.fmod_lt_of_pos y (show (0 : Int) < 2147483647 by decide)
        have y3 : (y.fmod 2147483647).fdiv 64 = (y.fmod 2147483647) / 64 := Int.fdiv_eq_ediv_of_nonneg _ (by decide)
        refine ⟨_, if_pos ⟨by decide, by decide, by omega⟩, ?_⟩
        refine ⟨_, if_pos (.inl ⟨by omega, by omega⟩), ?_⟩
        walk_at "st"
        refine ⟨_, if_pos m0, ?_⟩
        walk_at "st"
        exact ⟨(md _).1, (md _).2, xs, c + 1, r, k + 1, rfl, by omega⟩
      show (match decide ((10 : Int) ^ (Int.toNat 18) ≤ z) with | true => _ | false => _)
      by_cases hz : (10 : Int) ^ (Int.toNat 18) ≤ z
      · rw [decide_eq_true hz]
        walk_at "st"
        show (match decide (_ ≤ _) with | true => _ | false => _)
        by_cases hc : c + 1 ≤ ((xs.map D.int).length : Nat)
        · rw [decide_eq_true hc]
          walk_at "st"
          refine ⟨_, if_pos ⟨m0, mA⟩, ?_⟩
          walk_at "st"
          refine ⟨_, if_pos m0, ?_⟩
          walk_at "st"
          exact ⟨(md _).1, (md _).2, xs, c + 1, z.fdiv m, k + 1, rfl, by omega⟩
        · rw [decide_eq_false hc]
          repeat (first | exact tail | walk_at "s1")
      · rw [decide_eq_false hz]
        repeat (first | exact tail | walk_at "s1")
    walk_at "st"
    show (match decide ((xs.map D.int).length > (0 : Int)) with | true => _ | false => _)
    by_cases hx : ((xs.map D.int).length : Int) > 0
    · rw [decide_eq_true hx]
      walk_at "st"
      refine ⟨_, if_pos (by omega), ?_⟩
      walk_at "st"
      obtain ⟨z, hz⟩ := pick xs c (by rw [List.length_map] at hx; omega)
      refine ⟨_, hz, ?_⟩
      repeat (first | exact rest z | walk_at "s1")
    · rw [decide_eq_false hx]
      repeat (first | exact rest 11 | walk_at "s1")
theorem map_erase {α β : Type} (f : α → β) : ∀ (k : Nat) (l : List α), (l.map f).eraseIdx k = (l.eraseIdx k).map f
  | _, [] => rfl
  | 0, _ :: _ => rfl
  | k + 1, x :: r => congrArg (f x :: ·) (map_erase f k r)
abbrev nms (ns : List Int) : D := .tup (ns.map D.int)
def Bd (ns : List Int) : Prop := ∀ x ∈ ns, x.natAbs < 1000
def Bh (ns : List Int) : Prop := ∀ x ∈ ns, x.natAbs < 500
theorem Bh.bd {ns : List Int} (h : Bh ns) : Bd ns := fun x hx => Nat.lt_trans (h x hx) (by decide)
theorem Bh.erase {ns : List Int} (h : Bh ns) (k : Nat) : Bh (ns.eraseIdx k) := fun x hx => h x (List.mem_of_mem_eraseIdx hx)
theorem Bd.erase {ns : List Int} (h : Bd ns) (k : Nat) : Bd (ns.eraseIdx k) := fun x hx => h x (List.mem_of_mem_eraseIdx hx)
theorem FeedOk.le {A B : Nat} {fd : D} (h : FeedOk A fd) (l : A ≤ B) : FeedOk B fd := by
  obtain ⟨xs, c, r, k, e, hk⟩ := h
  exact ⟨xs, c, r, k, e, Nat.le_trans hk l⟩
theorem names_loop {n M many : Nat} {most : Int} {Q : Env → Flow → Prop} (hM : M < 999999)
    (k : ∀ (ns : List Int) (fd : D) (b : Nat), FeedOk b fd → b + ns.length ≤ M → ns.length ≤ many → Bh ns → Q [some (.lent, fd), some (.fro, .int most), some (.own, .lst (ns.map D.int)), some (.fro, .int many)] .nx) :
    ∀ (fuel : Nat) (ns : List Int) (fd : D) (b : Nat), FeedOk b fd → b + ns.length ≤ M → ns.length < fuel → Bh ns →
    wwhl (fun Q en => (wm (C (n + 1)) gv (.cmp .gt (.bi .len (.var 2)) (.var 3))).t Q en) (fun Q en => wSs (C (n + 1)) gv 40 (.cons (.expr (.popAt 2 (.call 1 (.cons (.var 0) (.cons (.bi .len (.var 2)) .nil))))) .nil) Q en) fuel Q
      [some (.lent, fd), some (.fro, .int most), some (.own, .lst (ns.map D.int)), some (.fro, .int many)] := by
  intro fuel
  induction fuel with
  | zero => intro ns fd b _ _ h; omega
  | succ fuel ih =>
    intro ns fd b hf hb hl hd
    rw [wwhl_s]
    walk_at "st"
    show (match decide ((many : Int) < ((ns.map D.int).length : Nat)) with | false => _ | true => _)
    by_cases hc : (many : Int) < ((ns.map D.int).length : Nat)
    · rw [decide_eq_true hc]
      walk_at "st"
      rw [List.length_map] at hc
      obtain ⟨r, h, v, fd', rfl, h0, h1, ok⟩ := take_ok (n := n) (m := ((ns.map D.int).length : Nat)) hf (by omega) (by rw [List.length_map]; omega) (by rw [List.length_map]; omega)
      refine ⟨_, h, ?_⟩
      rw [List.length_map] at h1
      walk_at "st"
      refine ⟨⟨h0, by omega⟩, ?_⟩
      have hv : v.toNat < ns.length := by omega
      refine ⟨_, by rw [List.getElem?_map, List.getElem?_eq_getElem hv]; rfl, ?_⟩
      have := ih (ns.eraseIdx v.toNat) fd' (b + 1) ok (by rw [List.length_eraseIdx_of_lt hv]; omega) (by rw [List.length_eraseIdx_of_lt hv]; omega) (hd.erase _)
      rw [← map_erase] at this
      exact this
    · rw [decide_eq_false hc]
      rw [List.length_map] at hc
      exact k ns fd b hf hb (by omega) hd
theorem names_ok {n B : Nat} {fd : D} {most : Int} (h : FeedOk B fd) (hB : B < 900000) (h0 : 0 ≤ most) (h1 : most ≤ 8) :
    ∃ r, C (n + 2) 2 [(true, fd), (false, .int most)] = some r ∧ ∃ ns fd', r = ((false, nms ns), [(true, fd'), (false, .int most)]) ∧ (ns.length : Int) ≤ most ∧ Bh ns ∧ FeedOk (B + 10) fd' := by
  refine call_c (fn := f2) rfl rfl ?_
  walk_at "st"
  obtain ⟨r, h, v, fd', rfl, v0, v1, ok⟩ := take_ok (n := n) (m := most + 1) h (by omega) (by omega) (by omega)
  refine ⟨_, h, ?_⟩
  obtain ⟨m, rfl⟩ := Int.eq_ofNat_of_zero_le v0
  walk_at "st"
  show wwhl _ _ 40 _ [some (.lent, fd'), some (.fro, .int most), some (.own, .lst ([0, 1, 2, 3, 5, 8, 40, 98, 99].map D.int)), some (.fro, .int m)]
  refine names_loop (n := n) (M := B + 10) (many := m) (by omega) (fun ns fd b hf hb hl hd => ?_) 40 [0, 1, 2, 3, 5, 8, 40, 98, 99] fd' (B + 1) ok (by show B + 1 + 9 ≤ B + 10; omega) (by decide) (by unfold Bh; decide)
  walk_at "st"
  exact ⟨by omega, hd, hf.le (by omega)⟩
theorem Bd.get {ns : List Int} (h : Bd ns) {i : Nat} (hi : i < ns.length) : ns[i].natAbs < 1000 := h _ (List.getElem_mem hi)
theorem Bd.app {a b : List Int} (h : Bd a) (k : Bd b) : Bd (a ++ b) := fun x hx => (List.mem_append.mp hx).elim (h x) (k x)
theorem Bd.one {x : Int} (h : x.natAbs < 1000) : Bd [x] := fun y hy => by rw [List.mem_singleton.mp hy]; exact h
theorem Bd.nil : Bd [] := fun _ h => nomatch h
theorem Bd.rev {a : List Int} (h : Bd a) : Bd a.reverse := fun x hx => h x (List.mem_reverse.mp hx)
theorem map_snoc (a : List Int) (x : Int) : a.map D.int ++ [D.int x] = (a ++ [x]).map D.int := by rw [List.map_append]; rfl
theorem shuf_loop {n M : Nat} {row : D} {Q : Env → Flow → Prop} (hM : M < 999999) {len : Nat} (hL : len < 1000)
    (k : ∀ (ms : List Int) (fd : D) (b : Nat) (c : Cell), FeedOk b fd → b ≤ M → ms.length = len → Bd ms → Q [some (.lent, fd), some (.fro, row), some (.own, .lst []), some (.own, .lst (ms.map D.int)), c] .nx) :
    ∀ (ds : List D) (ns ms : List Int) (fd : D) (b : Nat) (c : Cell), (c = none ∨ ∃ d, c = some (.fro, d)) → FeedOk b fd → b + ns.length ≤ M → ns.length = ds.length → ms.length + ns.length = len → Bd ns → Bd ms →
    wfor (fun x Q en => putTK (.one 4) x en fun en1 => wSs (C (n + 1)) gv 40 (.cons (.expr (.app 3 (.popAt 2 (.call 1 (.cons (.var 0) (.cons (.bi .len (.var 2)) .nil)))))) .nil) Q en1) ds Q
      [some (.lent, fd), some (.fro, row), some (.own, .lst (ns.map D.int)), some (.own, .lst (ms.map D.int)), c] := by
  intro ds
  induction ds with
  | nil =>
    intro ns ms fd b c hc hf hb hl hm hn hd
    rw [wfor_n]
    have : ns = [] := List.length_eq_zero_iff.mp hl
    subst this
    exact k ms fd b c hf (by simpa using hb) (by simpa using hm) hd
  | cons x r ih =>
    intro ns ms fd b c hc hf hb hl hm hn hd
    rw [wfor_c]
    have hl' : 0 < ns.length := by rw [hl]; simp
    have ent : ∀ P : Env → Prop, P [some (.lent, fd), some (.fro, row), some (.own, .lst (ns.map D.int)), some (.own, .lst (ms.map D.int)), some (.fro, x)] → putTK (.one 4) x [some (.lent, fd), some (.fro, row), some (.own, .lst (ns.map D.int)), some (.own, .lst (ms.map D.int)), c] P := by
      intro P h
      rcases hc with rfl | ⟨d, rfl⟩ <;> exact h
    refine ent _ ?_
    walk_at "st"
    obtain ⟨q, h, v, fd', rfl, h0, h1, ok⟩ := take_ok (n := n) (m := ((ns.map D.int).length : Nat)) hf (by omega) (by rw [List.length_map]; omega) (by rw [List.length_map]; omega)
    refine ⟨_, h, ?_⟩
    rw [List.length_map] at h1
    walk_at "st"
    refine ⟨⟨h0, by omega⟩, ?_⟩
    have hv : v.toNat < ns.length := by omega
    refine ⟨_, by rw [List.getElem?_map, List.getElem?_eq_getElem hv]; rfl, ?_⟩
    refine ⟨by rw [List.length_map]; omega, ?_⟩
    have he := List.length_eraseIdx_of_lt hv
    have := ih (ns.eraseIdx v.toNat) (ms ++ [ns[v.toNat]]) fd' (b + 1) (some (.fro, x)) (.inr ⟨x, rfl⟩) ok (by omega) (by simp at hl; omega) (by rw [List.length_append, List.length_singleton]; omega) (hn.erase _) (hd.app (.one (hn.get hv)))
    rw [← map_erase, ← map_snoc] at this
    exact this
theorem upto_n : ∀ (n : Nat) (lo : Int), (upto lo n).length = n
  | 0, _ => rfl
  | n + 1, lo => congrArg (· + 1) (upto_n n (lo + 1))
theorem shuf_ok {n B : Nat} {fd : D} {ns : List Int} (h : FeedOk B fd) (hB : B < 900000) (hl : ns.length < 20) (hd : Bd ns) :
    ∃ r, C (n + 2) 3 [(true, fd), (false, nms ns)] = some r ∧ ∃ ms fd', r = ((false, nms ms), [(true, fd'), (false, nms ns)]) ∧ ms.length = ns.length ∧ Bd ms ∧ FeedOk (B + 20) fd' := by
  refine call_c (fn := f3) rfl rfl ?_
  walk_at "st"
  refine ⟨⟨by rw [List.length_map]; omega, by rw [List.length_map]; omega⟩, ?_⟩
  refine shuf_loop (n := n) (M := B + 20) (len := ns.length) (by omega) (by omega) (fun ms fd b c hf hb hl hd => ?_) _ ns [] fd B none (.inl rfl) h (by omega) (by rw [List.length_map, upto_n, List.length_map]; omega) (by simp) hd Bd.nil
  walk_at "st"
  exact ⟨hl, hd, hf.le hb⟩
theorem ints_map : ∀ l : List Int, intsD (l.map D.int) = some l
  | [] => rfl
  | x :: r => by
    show (intsD (r.map D.int)).map (x :: ·) = _
    rw [ints_map r]
    rfl
theorem maxI_le {b : Nat} : ∀ (l : List Int) (m : Int), m.natAbs < b → (∀ x ∈ l, x.natAbs < b) → (maxI m l).natAbs < b
  | [], m, h, _ => h
  | x :: r, m, h, k => by
    unfold maxI
    refine maxI_le r _ ?_ fun y hy => k y (List.mem_cons_of_mem _ hy)
    split
    · exact k x List.mem_cons_self
    · exact h
theorem hole_ok {n b : Nat} {ns : List Int} (hl : ns.length < 20) (hb : 100 < b + 1) (hd : ∀ x ∈ ns, x.natAbs < b) : ∃ r, C (n + 1) 5 [(false, nms ns)] = some r ∧ ∃ x : Int, r = ((false, .int x), [(false, nms ns)]) ∧ x.natAbs < b + 1 := by
  have cm : ∀ (l : List Int) (P : List D → Env → Prop), P ((l.map (· + 1)).map D.int) [some (.fro, nms ns), none] →
      wcomp (fun x Q en => putTK (.one 1) x en fun en1 => (wms (C n) gv .nil).t (fun b en2 => match b with
        | true => (wm (C n) gv (.bin .add (.var 1) (.cI 1))).ev (fun _ y en3 => clearK [1] en3 (Q (some y))) en2
        | false => clearK [1] en2 (Q none)) en1) (l.map D.int) P [some (.fro, nms ns), none] := by
    intro l
    induction l with
    | nil => intro P h; exact h
    | cons x r ih =>
      intro P h
      rw [List.map_cons, wcomp_c]
      walk_at "st"
      exact ih _ h
  refine call_c (fn := f5) rfl rfl ?_
  walk_at "st"
  refine ⟨⟨by rw [List.length_map]; omega, rfl⟩, ?_⟩
  refine cm ns _ ?_
  refine ⟨_, if_pos (by rw [List.length_map, List.length_map]; show 1 + ns.length ≤ _; omega), ?_⟩
  have e : biD .max (.lst ([D.int 100] ++ (ns.map (· + 1)).map D.int)) = some (false, .int (maxI 100 (ns.map (· + 1)))) := by
    show (intsD ((100 :: ns.map (· + 1)).map D.int)).bind _ = _
    rw [ints_map]
    rfl
  refine ⟨_, e, ?_⟩
  walk_at "st"
  refine maxI_le _ _ hb fun y hy => ?_
  obtain ⟨z, hz, rfl⟩ := List.mem_map.mp hy
  have := hd z hz
  omega
theorem len_mem {h : List Int} : ∀ {hs : List (List Int)}, h ∈ hs → h.length ≤ hs.flatten.length
  | a :: r, hm => by
    rw [List.flatten_cons, List.length_append]
    rcases List.mem_cons.mp hm with rfl | hm
    · omega
    · have := len_mem hm
      omega
theorem set_len {x : Int} : ∀ (hs : List (List Int)) {i : Nat} (hi : i < hs.length), (hs.set i (hs[i] ++ [x])).flatten.length = hs.flatten.length + 1
  | a :: r, 0, _ => by
    show ((a ++ [x]) :: r).flatten.length = (a :: r).flatten.length + 1
    rw [List.flatten_cons, List.flatten_cons, List.length_append, List.length_append, List.length_append, List.length_singleton]
    omega
  | a :: r, i + 1, h => by
    have := set_len (x := x) r (i := i) (by simpa using h)
    show (a :: r.set i (r[i]'(by simpa using h) ++ [x])).flatten.length = (a :: r).flatten.length + 1
    rw [List.flatten_cons, List.flatten_cons, List.length_append, List.length_append, this]
    omega
/-- heaps of ints -/
abbrev hps (hs : List (List Int)) : D := .lst (hs.map nms)
theorem split_loop {n M : Nat} {m : Int} {row : D} {Q : Env → Flow → Prop} (hM : M < 999999) {len hl : Nat} (hL : len < 1000) (hm0 : m = (hl : Int)) (h0 : 0 < hl) (h9 : hl < 9)
    (k : ∀ (hs : List (List Int)) (fd : D) (b : Nat) (c c2 : Cell), FeedOk b fd → b ≤ M → hs.length = hl → hs.flatten.length = len → (∀ h ∈ hs, Bd h) → Q [some (.lent, fd), some (.fro, row), some (.fro, .int m), some (.own, hps hs), c, c2] .nx) :
    ∀ (ns : List Int) (hs : List (List Int)) (fd : D) (b : Nat) (c c2 : Cell), (c = none ∨ ∃ d, c = some (.fro, d)) → (c2 = none ∨ ∃ d, c2 = some (.fro, d)) → FeedOk b fd → b + ns.length ≤ M → hs.length = hl → hs.flatten.length + ns.length = len → Bd ns → (∀ h ∈ hs, Bd h) →
    wfor (fun x Q en => putTK (.one 4) x en fun en1 => wSs (C (n + 1)) gv 40 (.cons (.asg 5 (.call 1 (.cons (.var 0) (.cons (.var 2) .nil)))) (.cons (.setI 3 (.var 5) (.bin .add (.idxV 3 (.var 5)) (.tup (.cons (.var 4) .nil)))) .nil)) Q en1) (ns.map D.int) Q
      [some (.lent, fd), some (.fro, row), some (.fro, .int m), some (.own, hps hs), c, c2] := by
  intro ns
  induction ns with
  | nil =>
    intro hs fd b c c2 hc hc2 hf hb hh hm hn hd
    rw [List.map_nil, wfor_n]
    exact k hs fd b c c2 hf (by simpa using hb) hh (by simpa using hm) hd
  | cons x r ih =>
    intro hs fd b c c2 hc hc2 hf hb hh hm hn hd
    rw [List.map_cons, wfor_c]
    have ent : ∀ P : Env → Prop, P [some (.lent, fd), some (.fro, row), some (.fro, .int m), some (.own, hps hs), some (.fro, .int x), c2] → putTK (.one 4) (.int x) [some (.lent, fd), some (.fro, row), some (.fro, .int m), some (.own, hps hs), c, c2] P := by
      intro P h
      rcases hc with rfl | ⟨d, rfl⟩ <;> exact h
    refine ent _ ?_
    walk_at "st"
    rw [List.length_cons] at hb hm
    obtain ⟨q, h, v, fd', rfl, v0, v1, ok⟩ := take_ok (n := n) (m := m) hf (by omega) (by omega) (by omega)
    refine ⟨_, h, ?_⟩
    have hv : v.toNat < hs.length := by omega
    have ent5 : ∀ P : Env → Prop, P [some (.lent, fd'), some (.fro, row), some (.fro, .int m), some (.own, hps hs), some (.fro, .int x), some (.fro, .int v)] → putK [some (.lent, fd'), some (.fro, row), some (.fro, .int m), some (.own, hps hs), some (.fro, .int x), c2] 5 false (.int v) P := by
      intro P h
      rcases hc2 with rfl | ⟨d, rfl⟩ <;> exact h
    refine ent5 _ ?_
    walk_at "st"
    have hget : (hs.map nms)[v.toNat]? = some (nms hs[v.toNat]) := by rw [List.getElem?_map, List.getElem?_eq_getElem hv]; rfl
    have hidx : idxD (hps hs) (.int v) = some (nms hs[v.toNat]) := by
      show at_ (hs.map nms) v = _
      unfold at_
      rw [if_pos v0, hget]
    refine ⟨_, hidx, ?_⟩
    have hmem : hs[v.toNat] ∈ hs := List.getElem_mem hv
    have hle : hs[v.toNat].length ≤ hs.flatten.length := len_mem hmem
    have hadd : binD .add (nms hs[v.toNat]) (.tup [.int x]) = some (nms (hs[v.toNat] ++ [x])) := by
      show (if (hs[v.toNat].map D.int).length + 1 ≤ 1000000 then some (D.tup (hs[v.toNat].map D.int ++ [D.int x])) else none) = _
      rw [if_pos (by rw [List.length_map]; omega), map_snoc]
    refine ⟨_, hadd, ?_⟩
    walk_at "st"
    refine ⟨⟨v0, by rw [List.length_map]; omega⟩, ?_⟩
    have hset : (hs.map nms).set v.toNat (nms (hs[v.toNat] ++ [x])) = (hs.set v.toNat (hs[v.toNat] ++ [x])).map nms := by rw [List.map_set]
    have hsum : (hs.set v.toNat (hs[v.toNat] ++ [x])).flatten.length = hs.flatten.length + 1 := set_len hs hv
    have := ih (hs.set v.toNat (hs[v.toNat] ++ [x])) fd' (b + 1) (some (.fro, .int x)) (some (.fro, .int v)) (.inr ⟨_, rfl⟩) (.inr ⟨_, rfl⟩) ok (by omega) (by rw [List.length_set]; exact hh) (by rw [hsum]; omega) (fun y hy => hn y (List.mem_cons_of_mem _ hy))
      (fun h hh' => by
        rcases List.mem_or_eq_of_mem_set hh' with z | rfl
        · exact hd h z
        · exact (hd _ hmem).app (.one (hn x List.mem_cons_self)))
    unfold hps at this
    rw [← hset] at this
    exact this
theorem split_ok {n B : Nat} {fd : D} {ns : List Int} {hl : Nat} (h : FeedOk B fd) (hB : B < 900000) (hln : ns.length < 20) (hd : Bd ns) (h2 : hl = 2 ∨ hl = 3) :
    ∃ r, C (n + 2) 4 [(true, fd), (false, nms ns), (false, .int hl)] = some r ∧ ∃ hs fd', r = ((true, hps hs), [(true, fd'), (false, nms ns), (false, .int hl)]) ∧ hs.length = hl ∧ hs.flatten.length = ns.length ∧ (∀ h ∈ hs, Bd h) ∧ FeedOk (B + 20) fd' := by
  refine call_c (fn := f4) rfl rfl ?_
  have hmul : binD .mul (.lst [.tup []]) (.int hl) = some (hps (List.replicate hl [])) := by
    rcases h2 with rfl | rfl <;> rfl
  refine ⟨_, hmul, ?_⟩
  walk_at "st"
  refine split_loop (n := n) (M := B + 20) (len := ns.length) (hl := hl) (by omega) (by omega) rfl (by omega) (by omega) (fun hs fd b c c2 hf hb hh hm hd => ?_) ns (List.replicate hl []) fd B none none (.inl rfl) (.inl rfl) h (by omega) (by simp) (by rcases h2 with rfl | rfl <;> simp) hd (fun h hh => by rw [List.eq_of_mem_replicate hh]; exact Bd.nil)
  walk_at "st"
  exact ⟨hh, hm, hd, hf.le hb⟩
/-- the kinds and structures that _law_some gives -/
inductive Som (ns : List Int) : D → D → Prop where
  | set : Som ns (.tup [.w 0]) (.tup [.w 0, nms ns])
  | row (ms : List Int) : ms.length = ns.length → Bd ms → Som ns (.tup [.w 2]) (.tup [.w 2, nms ms])
  | round (ms : List Int) : ms.length = ns.length → Bd ms → Som ns (.tup [.w 6]) (.tup [.w 6, nms ms])
  | point (x : Int) : x.natAbs < 1000 → Som ns (.tup [.w 5, .tup [.w 0]]) (.tup [.w 5, .int x, .tup [.w 0, nms ns]])
  | this0 : Som ns (.tup [.w 4, .tup [.w 0], .tup [.w 2]]) (.tup [.w 4, .int 0, .tup [.w 0, nms ns]])
  | this1 : Som ns (.tup [.w 4, .tup [.w 0], .tup [.w 2]]) (.tup [.w 4, .int 1, .tup [.w 2, nms ns]])
  | both (a b : List Int) : a.length + b.length = ns.length → Bd a → Bd b → Som ns (.tup [.w 3, .tup [.w 2], .tup [.w 0]]) (.tup [.w 3, .tup [.w 2, nms a], .tup [.w 0, nms b]])
  | hole (x : Int) : x.natAbs < 1200 → Som ns (.tup [.w 1, .tup [.w 0]]) (.tup [.w 1, .tup [.w 0, nms (ns ++ [x])]])
theorem pls_ints (k : Nat) : ∀ l : List Int, D.pls k (l.map D.int) = true
  | [] => by unfold List.map; unfold D.pls; rfl
  | x :: r => by
    show (D.pl k (.int x) && D.pls k (r.map D.int)) = true
    rw [pls_ints k r]
    cases k <;> rfl
theorem pl_nms (k : Nat) (l : List Int) : D.pl (k + 1) (nms l) = true := pls_ints k l
theorem ne_nil (x : Int) (r : List Int) : cmpD .ne (nms (x :: r)) (.tup []) = some true := by
  show (if (D.pl 500 (nms (x :: r)) && D.pl 500 (.tup [])) then some (D.eqv (nms (x :: r)) (.tup [])) else none).map (!·) = _
  rw [pl_nms]
  rfl
theorem first1 (x : Int) (r : List Int) : slD none (some 1) (nms (x :: r)) = some (nms [x]) := by
  simp [slD, cut, clipI, nms]
theorem rest1 (x : Int) (r : List Int) : slD (some 1) none (nms (x :: r)) = some (nms r) := by
  simp [slD, cut, clipI, nms, List.take_of_length_le]
theorem add_nms (a b : List Int) (h : a.length + b.length ≤ 1000) : binD .add (nms a) (nms b) = some (nms (a ++ b)) := by
  show (if (a.map D.int).length + (b.map D.int).length ≤ 1000000 then some (D.tup (a.map D.int ++ b.map D.int)) else none) = _
  rw [if_pos (by rw [List.length_map, List.length_map]; omega), ← List.map_append]
theorem rev_nms (a : List Int) : revD (nms a) = some (nms a.reverse) := by
  show some (D.tup (a.map D.int).reverse) = _
  rw [← List.map_reverse]
theorem two_hps {hs : List (List Int)} (h : hs.length = 2) : ∃ a b, hs = [a, b] := by
  match hs, h with
  | [a, b], _ => exact ⟨a, b, rfl⟩
theorem cases7 {v : Int} (h0 : 0 ≤ v) (h1 : v < 7) : v = 0 ∨ v = 1 ∨ v = 2 ∨ v = 3 ∨ v = 4 ∨ v = 5 ∨ v = 6 := by omega
theorem some_ok {n B : Nat} {fd : D} {ns : List Int} (h : FeedOk B fd) (hB : B < 800000) (hl : ns.length < 19) (hd : Bd ns) :
    ∃ r, C (n + 3) 6 [(true, fd), (false, nms ns)] = some r ∧ ∃ kk s fd', r = ((false, .tup [kk, s]), [(true, fd'), (false, nms ns)]) ∧ Som ns kk s ∧ FeedOk (B + 30) fd' := by
  refine call_c (fn := f6) rfl rfl ?_
  walk_at "sv"
  obtain ⟨q, h', v, fd1, rfl, v0, v1, ok⟩ := take_ok (n := n + 1) (m := 7) h (by omega) (by omega) (by omega)
  refine ⟨_, h', ?_⟩
  rcases cases7 v0 v1 with rfl | rfl | rfl | rfl | rfl | rfl | rfl
  · walk_at "sv"
    exact ⟨.set, ok.le (by omega)⟩
  · walk_at "sv"
    obtain ⟨q, h2, ms, fd2, rfl, m1, m2, ok2⟩ := shuf_ok (n := n) ok (by omega) (by omega) hd
    refine ⟨_, h2, ?_⟩
    walk_at "sv"
    exact ⟨.row ms m1 m2, ok2.le (by omega)⟩
  · cases ns with
    | nil =>
      walk_at "sv"
      exact ⟨.set, ok.le (by omega)⟩
    | cons x r =>
      have hr : Bd r := fun y hy => hd y (List.mem_cons_of_mem _ hy)
      walk_at "sv"
      refine ⟨_, ne_nil x r, ?_⟩
      walk_at "sv"
      refine ask (first1 x r) ?_
      walk_at "sv"
      refine ask (rest1 x r) ?_
      walk_at "sv"
      obtain ⟨q, h2, ms, fd2, rfl, m1, m2, ok2⟩ := shuf_ok (n := n) ok (by omega) (by simp at hl; omega) hr
      refine ⟨_, h2, ?_⟩
      have e := add_nms [x] ms (by simp at hl ⊢; omega)
      refine ⟨_, e, ?_⟩
      walk_at "sv"
      exact ⟨.round _ (by simp; omega) (Bd.app (.one (hd x List.mem_cons_self)) m2), ok2.le (by omega)⟩
  · cases ns with
    | nil =>
      walk_at "sv"
      exact ⟨.set, ok.le (by omega)⟩
    | cons x r =>
      walk_at "sv"
      refine ⟨_, ne_nil x r, ?_⟩
      walk_at "sv"
      obtain ⟨q, h2, v, fd2, rfl, w0, w1, ok2⟩ := take_ok (n := n + 1) (m := (((x :: r).map D.int).length : Nat)) ok (by omega) (by rw [List.length_map, List.length_cons]; omega) (by rw [List.length_map]; omega)
      refine ⟨_, h2, ?_⟩
      walk_at "sv"
      rw [List.length_map] at w1
      have hv : v.toNat < (x :: r).length := by omega
      have e : idxD (nms (x :: r)) (.int v) = some (.int (x :: r)[v.toNat]) := by
        show at_ ((x :: r).map D.int) v = _
        unfold at_
        rw [if_pos w0, List.getElem?_map, List.getElem?_eq_getElem hv]
        rfl
      refine ⟨_, e, ?_⟩
      walk_at "sv"
      exact ⟨.point _ (hd.get hv), ok2.le (by omega)⟩
  · walk_at "sv"
    obtain ⟨q, h2, v, fd2, rfl, w0, w1, ok2⟩ := take_ok (n := n + 1) (m := 2) ok (by omega) (by omega) (by omega)
    refine ⟨_, h2, ?_⟩
    have : v = 0 ∨ v = 1 := by omega
    rcases this with rfl | rfl
    · walk_at "sv"
      exact ⟨.this0, ok2.le (by omega)⟩
    · walk_at "sv"
      exact ⟨.this1, ok2.le (by omega)⟩
  · walk_at "sv"
    obtain ⟨q, h2, hs, fd2, rfl, s1, s2, s3, ok2⟩ := split_ok (n := n) (hl := 2) ok (by omega) (by omega) hd (.inl rfl)
    obtain ⟨a, b, rfl⟩ := two_hps s1
    refine ⟨_, h2, ?_⟩
    walk_at "sv"
    refine ask (rev_nms a) ?_
    walk_at "sv"
    have s2' : a.length + b.length = ns.length := by simpa using s2
    exact ⟨.both _ b (by rw [List.length_reverse]; exact s2') (s3 a (by simp)).rev (s3 b (by simp)), ok2.le (by omega)⟩
  · walk_at "sv"
    obtain ⟨q, h2, x, rfl, hx⟩ := hole_ok (n := n + 1) (b := 1000) (ns := ns) (by omega) (by decide) hd
    refine ⟨_, h2, ?_⟩
    walk_at "sv"
    refine ⟨_, add_nms ns [x] (by simp; omega), ?_⟩
    walk_at "sv"
    exact ⟨.hole x (by omega), ok.le (by omega)⟩
/-! What gone answers. -/
section
def stp (w : Nat) (b : Bool) (x : List D) : D := .tup [.w w, .tup [], .bl b, .tup x]
def kinds : List D := [.tup [.w 0], .tup [.w 2], .tup [.w 6], .tup [.w 5, .tup [.w 0]], .tup [.w 4, .tup [.w 0], .tup [.w 2]], .tup [.w 3, .tup [.w 2], .tup [.w 0]], .tup [.w 1, .tup [.w 0]]]
theorem Som.kind {ns : List Int} {kk s : D} (h : Som ns kk s) : kk ∈ kinds := by
  cases h <;> simp [kinds]
def EqR (d : D) : Prop := eqTest d d = some true
theorem eqr_kind {d : D} (h : d ∈ kinds) : EqR d := by
  simp only [kinds, List.mem_cons, List.not_mem_nil, or_false] at h
  rcases h with rfl | rfl | rfl | rfl | rfl | rfl | rfl <;> (unfold EqR; decide +kernel)
theorem eqr_int (a : Int) : EqR (.int a) := by
  show (if (D.pl 500 (.int a) && D.pl 500 (.int a)) then some (a == a) else none) = _
  rw [show D.pl 500 (.int a) = true from rfl, beq_self_eq_true]
  rfl
theorem find_snoc {q : DK} {x : D} : ∀ {ks : List DK} {vs : List D}, ks.length = vs.length → findD ks vs q = none → findD (ks ++ [q]) (vs ++ [x]) q = some x
  | [], [], _, _ => if_pos rfl
  | k :: ks, v :: vs, hl, h => by
    have h : (if k = q then some v else findD ks vs q) = none := h
    show (if k = q then some v else findD (ks ++ [q]) (vs ++ [x]) q) = some x
    by_cases e : k = q
    · rw [if_pos e] at h
      cases h
    · rw [if_neg e] at h ⊢
      exact find_snoc (by simpa using hl) h
/-- the pattern fits -/
inductive Fts : Nat → D → D → List DK → List D → List DK → List D → Prop where
  | new {m i : Nat} {kk : D} {ks : List DK} {vs : List D} : findD ks vs (.w i) = none → ks.length = vs.length → ks.length < 100 → EqR kk → Fts (m + 1) (.w i) kk ks vs (ks ++ [.w i]) (vs ++ [kk])
  | old {m i : Nat} {kk : D} {ks : List DK} {vs : List D} : findD ks vs (.w i) = some kk → EqR kk → Fts (m + 1) (.w i) kk ks vs ks vs
  | n1 {m c : Nat} {ks : List DK} {vs : List D} : Fts (m + 1) (.tup [.w c]) (.tup [.w c]) ks vs ks vs
  | n2 {m c : Nat} {s1 t1 : D} {ks k1 : List DK} {vs v1 : List D} : Fts m s1 t1 ks vs k1 v1 → Fts (m + 1) (.tup [.w c, s1]) (.tup [.w c, t1]) ks vs k1 v1
  | n3 {m c : Nat} {s1 s2 t1 t2 : D} {ks k1 k2 : List DK} {vs v1 v2 : List D} : Fts m s1 t1 ks vs k1 v1 → Fts m s2 t2 k1 v1 k2 v2 → Fts (m + 1) (.tup [.w c, s1, s2]) (.tup [.w c, t1, t2]) ks vs k2 v2
  | n4 {m c : Nat} {s1 s2 s3 t1 t2 t3 : D} {ks k1 k2 k3 : List DK} {vs v1 v2 v3 : List D} : Fts m s1 t1 ks vs k1 v1 → Fts m s2 t2 k1 v1 k2 v2 → Fts m s3 t3 k2 v2 k3 v3 → Fts (m + 1) (.tup [.w c, s1, s2, s3]) (.tup [.w c, t1, t2, t3]) ks vs k3 v3
theorem eq_word (c : Nat) : cmpD .ne (.w c) (.w c) = some false := by
  show (if (D.pl 500 (.w c) && D.pl 500 (.w c)) then some (c == c) else none).map (!·) = _
  rw [show D.pl 500 (.w c) = true from rfl, beq_self_eq_true]
  rfl
theorem fts_ok {m : Nat} {s t : D} {ks ks' : List DK} {vs vs' : List D} (h : Fts m s t ks vs ks' vs') : ∀ n, C (n + m) 29 [(false, s), (false, t), (true, .dic ks vs)] = some ((false, .bl true), [(false, s), (false, t), (true, .dic ks' vs')]) := by
  have up : ∀ {n : Nat} {s t : D} {ks ks' : List DK} {vs vs' : List D}, (∃ r, C (n + 1) 29 [(false, s), (false, t), (true, .dic ks vs)] = some r ∧ r = ((false, .bl true), [(false, s), (false, t), (true, .dic ks' vs')])) → C (n + 1) 29 [(false, s), (false, t), (true, .dic ks vs)] = some ((false, .bl true), [(false, s), (false, t), (true, .dic ks' vs')]) := by
    rintro n s t ks ks' vs vs' ⟨r, h, rfl⟩
    exact h
  induction h with
  | @new m i kk ks vs hf hl hz he =>
    intro n
    refine up (n := n + m) (call_c (fn := f29) rfl rfl ?_)
    walk_at "sv"
    have e1 : dinD (.dic ks vs) (.w i) = some false := by
      unfold dinD
      show some ((findD ks vs (.w i)).isSome) = _
      rw [hf]
      rfl
    refine ask e1 ?_
    walk_at "su"
    refine ⟨.w i, rfl, by omega, ?_⟩
    have e2 : putD ks vs (.w i) kk = (ks ++ [.w i], vs ++ [kk]) := by
      unfold putD
      rw [hf]
      rfl
    have e3 : dgetD (.dic (ks ++ [.w i]) (vs ++ [kk])) (.w i) = some kk := by
      unfold dgetD
      exact find_snoc hl hf
    refine ask (congrArg some e2) ?_
    refine ask e3 ?_
    walk_at "sv"
    refine ⟨_, he, ?_⟩
    walk_at "sv"
    rfl
  | @old m i kk ks vs hf he =>
    intro n
    refine up (n := n + m) (call_c (fn := f29) rfl rfl ?_)
    walk_at "sv"
    have e1 : dinD (.dic ks vs) (.w i) = some true := by
      unfold dinD
      show some ((findD ks vs (.w i)).isSome) = _
      rw [hf]
      rfl
    have e3 : dgetD (.dic ks vs) (.w i) = some kk := by
      unfold dgetD
      exact hf
    refine ask e1 ?_
    walk_at "sv"
    refine ask e3 ?_
    walk_at "sv"
    refine ⟨_, he, ?_⟩
    walk_at "sv"
    rfl
  | @n1 m c ks vs =>
    intro n
    have ec : (D.w c).eqv (D.w c) = true := beq_self_eq_true c
    refine up (n := n + m) (call_c (fn := f29) rfl rfl ?_)
    walk_at "sv"
    rw [ec]
    walk_at "sv"
    rfl
  | @n2 m c s1 t1 ks k1 vs v1 h1 ih1 =>
    intro n
    have ec : (D.w c).eqv (D.w c) = true := beq_self_eq_true c
    refine up (n := n + m) (call_c (fn := f29) rfl rfl ?_)
    walk_at "sv"
    rw [ec]
    walk_at "sv"
    refine ⟨_, ih1 n, ?_⟩
    walk_at "sv"
    rfl
  | @n3 m c s1 s2 t1 t2 ks k1 k2 vs v1 v2 h1 h2 ih1 ih2 =>
    intro n
    have ec : (D.w c).eqv (D.w c) = true := beq_self_eq_true c
    refine up (n := n + m) (call_c (fn := f29) rfl rfl ?_)
    walk_at "sv"
    rw [ec]
    walk_at "sv"
    refine ⟨_, ih1 n, ?_⟩
    walk_at "sv"
    refine ⟨_, ih2 n, ?_⟩
    walk_at "sv"
    rfl
  | @n4 m c s1 s2 s3 t1 t2 t3 ks k1 k2 k3 vs v1 v2 v3 h1 h2 h3 ih1 ih2 ih3 =>
    intro n
    have ec : (D.w c).eqv (D.w c) = true := beq_self_eq_true c
    refine up (n := n + m) (call_c (fn := f29) rfl rfl ?_)
    walk_at "sv"
    rw [ec]
    walk_at "sv"
    refine ⟨_, ih1 n, ?_⟩
    walk_at "sv"
    refine ⟨_, ih2 n, ?_⟩
    walk_at "sv"
    refine ⟨_, ih3 n, ?_⟩
    walk_at "sv"
    rfl
end
section
/-- the pattern s is filled to d, at level n -/
def Fl1 (ks : List DK) (vs : List D) (n : Nat) (s d : D) : Prop := C n 28 [(false, s), (true, .dic ks vs)] = some ((false, d), [(false, s), (true, .dic ks vs)])
inductive FlL (ks : List DK) (vs : List D) (n : Nat) : List D → List D → Prop where
  | nil : FlL ks vs n [] []
  | cons {s d : D} {ss ds : List D} : Fl1 ks vs n s d → FlL ks vs n ss ds → FlL ks vs n (s :: ss) (d :: ds)
theorem fld_top {x : D} {l : List D} : slD (some 1) none (.tup (x :: l)) = some (.tup l) := by
  simp [slD, cut, clipI, List.take_of_length_le]
theorem fld_hd {x : D} {l : List D} : slD none (some 1) (.tup (x :: l)) = some (.tup [x]) := by
  simp [slD, cut, clipI]
theorem FlL.len {ks : List DK} {vs : List D} {n : Nat} {ss ds : List D} (h : FlL ks vs n ss ds) : ss.length = ds.length := by
  induction h with
  | nil => rfl
  | cons _ _ ih => exact congrArg (· + 1) ih
theorem fld_leaf {n i : Nat} {d : D} {ks : List DK} {vs : List D} (hf : findD ks vs (.w i) = some d) : Fl1 ks vs (n + 1) (.w i) d := by
  obtain ⟨r, h, rfl⟩ : ∃ r, C (n + 1) 28 [(false, .w i), (true, .dic ks vs)] = some r ∧ r = ((false, d), [(false, .w i), (true, .dic ks vs)]) := by
    refine call_c (fn := f28) rfl rfl ?_
    walk_at "sv"
    have e3 : dgetD (.dic ks vs) (.w i) = some d := by
      unfold dgetD
      exact hf
    refine ask e3 ?_
    walk_at "sv"
    rfl
  exact h
theorem fld_node {n c : Nat} {ss ds : List D} {ks : List DK} {vs : List D} (hl : ss.length < 100) (h : FlL ks vs n ss ds) : Fl1 ks vs (n + 1) (.tup (.w c :: ss)) (.tup (.w c :: ds)) := by
  obtain ⟨r, h, rfl⟩ : ∃ r, C (n + 1) 28 [(false, .tup (.w c :: ss)), (true, .dic ks vs)] = some r ∧ r = ((false, .tup (.w c :: ds)), [(false, .tup (.w c :: ss)), (true, .dic ks vs)]) := by
    have cm : ∀ (ss0 l m : List D), FlL ks vs n l m → ∀ P : List D → Env → Prop, P m [some (.fro, .tup (.w c :: ss0)), some (.lent, .dic ks vs), none] →
        wcomp (fun x Q en => putTK (.one 2) x en fun en1 => (wms (C n) gv .nil).t (fun b en2 => match b with
          | true => (wm (C n) gv (.call 28 (.cons (.var 2) (.cons (.var 1) .nil)))).ev (fun _ y en3 => clearK [2] en3 (Q (some y))) en2
          | false => clearK [2] en2 (Q none)) en1) l P [some (.fro, .tup (.w c :: ss0)), some (.lent, .dic ks vs), none] := by
      intro ss0 l m hl
      induction hl with
      | nil =>
        intro P h
        rw [wcomp_n]
        exact h
      | cons h1 _ ih =>
        intro P h
        rw [wcomp_c]
        walk_at "sv"
        refine ⟨_, h1, ?_⟩
        exact ih _ h
    refine call_c (fn := f28) rfl rfl ?_
    walk_at "sv"
    refine ask fld_hd ?_
    walk_at "sv"
    refine ask fld_top ?_
    refine ⟨⟨by omega, rfl⟩, ?_⟩
    refine cm ss ss ds h _ ?_
    walk_at "sv"
    have e : binD .add (.tup [.w c]) (.tup ds) = some (.tup (.w c :: ds)) := by
      show (if 1 + ds.length ≤ 1000000 then some (D.tup ([.w c] ++ ds)) else none) = _
      rw [if_pos (by have := h.len; omega)]
      rfl
    refine ⟨_, e, ?_⟩
    walk_at "sv"
    rfl
  exact h
end
/-! What led_at does to the structures of the law. -/
section
def LA (n : Nat) (step S T : D) : Prop := ∀ kind, C (n + 6) 13 [(false, kind), (false, .tup []), (false, step), (false, S)] = some ((false, T), [(false, kind), (false, .tup []), (false, step), (false, S)])
theorem la_tt0_ : (fun (n : Nat) (kind X : D) => callF fns gv 40 (n + 6) 13 [(false, kind), (false, .tup []), (false, (stp 9 false [])), (false, (.tup [.w 4, .int 0, X]))]) = fun n kind X => some ((false, (.tup [.w 4, .int 1, X])), [(false, kind), (false, .tup []), (false, (stp 9 false [])), (false, (.tup [.w 4, .int 0, X]))]) := by eq_refl
theorem la_tt0 (n : Nat) (X : D) : LA n (stp 9 false []) (.tup [.w 4, .int 0, X]) (.tup [.w 4, .int 1, X]) := fun kind => by unfold C; exact congrFun (congrFun (congrFun la_tt0_ n) kind) X
theorem la_tb0_ : (fun (n : Nat) (kind X : D) => callF fns gv 40 (n + 6) 13 [(false, kind), (false, .tup []), (false, (stp 9 true [])), (false, (.tup [.w 4, .int 0, X]))]) = fun n kind X => some ((false, (.tup [.w 4, .int 1, X])), [(false, kind), (false, .tup []), (false, (stp 9 true [])), (false, (.tup [.w 4, .int 0, X]))]) := by eq_refl
theorem la_tb0 (n : Nat) (X : D) : LA n (stp 9 true []) (.tup [.w 4, .int 0, X]) (.tup [.w 4, .int 1, X]) := fun kind => by unfold C; exact congrFun (congrFun (congrFun la_tb0_ n) kind) X
theorem la_pt0_ : (fun (n : Nat) (kind X Y : D) => callF fns gv 40 (n + 6) 13 [(false, kind), (false, .tup []), (false, (stp 19 false [])), (false, (.tup [.w 3, X, (.tup [.w 4, .int 0, Y])]))]) = fun n kind X Y => some ((false, (.tup [.w 4, .int 0, (.tup [.w 3, X, Y])])), [(false, kind), (false, .tup []), (false, (stp 19 false [])), (false, (.tup [.w 3, X, (.tup [.w 4, .int 0, Y])]))]) := by eq_refl
theorem la_pt0 (n : Nat) (X Y : D) : LA n (stp 19 false []) (.tup [.w 3, X, (.tup [.w 4, .int 0, Y])]) (.tup [.w 4, .int 0, (.tup [.w 3, X, Y])]) := fun kind => by unfold C; exact congrFun (congrFun (congrFun (congrFun la_pt0_ n) kind) X) Y
theorem la_pb0_ : (fun (n : Nat) (kind X Y : D) => callF fns gv 40 (n + 6) 13 [(false, kind), (false, .tup []), (false, (stp 19 true [])), (false, (.tup [.w 4, .int 0, (.tup [.w 3, X, Y])]))]) = fun n kind X Y => some ((false, (.tup [.w 3, X, (.tup [.w 4, .int 0, Y])])), [(false, kind), (false, .tup []), (false, (stp 19 true [])), (false, (.tup [.w 4, .int 0, (.tup [.w 3, X, Y])]))]) := by eq_refl
theorem la_pb0 (n : Nat) (X Y : D) : LA n (stp 19 true []) (.tup [.w 4, .int 0, (.tup [.w 3, X, Y])]) (.tup [.w 3, X, (.tup [.w 4, .int 0, Y])]) := fun kind => by unfold C; exact congrFun (congrFun (congrFun (congrFun la_pb0_ n) kind) X) Y
theorem la_tt1_ : (fun (n : Nat) (kind X : D) => callF fns gv 40 (n + 6) 13 [(false, kind), (false, .tup []), (false, (stp 9 false [])), (false, (.tup [.w 4, .int 1, X]))]) = fun n kind X => some ((false, (.tup [.w 4, .int 0, X])), [(false, kind), (false, .tup []), (false, (stp 9 false [])), (false, (.tup [.w 4, .int 1, X]))]) := by eq_refl
theorem la_tt1 (n : Nat) (X : D) : LA n (stp 9 false []) (.tup [.w 4, .int 1, X]) (.tup [.w 4, .int 0, X]) := fun kind => by unfold C; exact congrFun (congrFun (congrFun la_tt1_ n) kind) X
theorem la_tb1_ : (fun (n : Nat) (kind X : D) => callF fns gv 40 (n + 6) 13 [(false, kind), (false, .tup []), (false, (stp 9 true [])), (false, (.tup [.w 4, .int 1, X]))]) = fun n kind X => some ((false, (.tup [.w 4, .int 0, X])), [(false, kind), (false, .tup []), (false, (stp 9 true [])), (false, (.tup [.w 4, .int 1, X]))]) := by eq_refl
theorem la_tb1 (n : Nat) (X : D) : LA n (stp 9 true []) (.tup [.w 4, .int 1, X]) (.tup [.w 4, .int 0, X]) := fun kind => by unfold C; exact congrFun (congrFun (congrFun la_tb1_ n) kind) X
theorem la_pt1_ : (fun (n : Nat) (kind X Y : D) => callF fns gv 40 (n + 6) 13 [(false, kind), (false, .tup []), (false, (stp 19 false [])), (false, (.tup [.w 3, X, (.tup [.w 4, .int 1, Y])]))]) = fun n kind X Y => some ((false, (.tup [.w 4, .int 1, (.tup [.w 3, X, Y])])), [(false, kind), (false, .tup []), (false, (stp 19 false [])), (false, (.tup [.w 3, X, (.tup [.w 4, .int 1, Y])]))]) := by eq_refl
theorem la_pt1 (n : Nat) (X Y : D) : LA n (stp 19 false []) (.tup [.w 3, X, (.tup [.w 4, .int 1, Y])]) (.tup [.w 4, .int 1, (.tup [.w 3, X, Y])]) := fun kind => by unfold C; exact congrFun (congrFun (congrFun (congrFun la_pt1_ n) kind) X) Y
theorem la_pb1_ : (fun (n : Nat) (kind X Y : D) => callF fns gv 40 (n + 6) 13 [(false, kind), (false, .tup []), (false, (stp 19 true [])), (false, (.tup [.w 4, .int 1, (.tup [.w 3, X, Y])]))]) = fun n kind X Y => some ((false, (.tup [.w 3, X, (.tup [.w 4, .int 1, Y])])), [(false, kind), (false, .tup []), (false, (stp 19 true [])), (false, (.tup [.w 4, .int 1, (.tup [.w 3, X, Y])]))]) := by eq_refl
theorem la_pb1 (n : Nat) (X Y : D) : LA n (stp 19 true []) (.tup [.w 4, .int 1, (.tup [.w 3, X, Y])]) (.tup [.w 3, X, (.tup [.w 4, .int 1, Y])]) := fun kind => by unfold C; exact congrFun (congrFun (congrFun (congrFun la_pb1_ n) kind) X) Y
theorem la_jt0_ : (fun (n : Nat) (kind X : D) => callF fns gv 40 (n + 6) 13 [(false, kind), (false, .tup []), (false, (stp 18 false [])), (false, (.tup [.w 4, .int 1, X]))]) = fun n kind X => some ((false, (.tup [.w 4, .int 1, (.tup [.w 4, .int 1, X])])), [(false, kind), (false, .tup []), (false, (stp 18 false [])), (false, (.tup [.w 4, .int 1, X]))]) := by eq_refl
theorem la_jt0 (n : Nat) (X : D) : LA n (stp 18 false []) (.tup [.w 4, .int 1, X]) (.tup [.w 4, .int 1, (.tup [.w 4, .int 1, X])]) := fun kind => by unfold C; exact congrFun (congrFun (congrFun la_jt0_ n) kind) X
theorem la_jb0_ : (fun (n : Nat) (kind X : D) => callF fns gv 40 (n + 6) 13 [(false, kind), (false, .tup []), (false, (stp 18 true [])), (false, (.tup [.w 4, .int 1, (.tup [.w 4, .int 1, X])]))]) = fun n kind X => some ((false, (.tup [.w 4, .int 1, X])), [(false, kind), (false, .tup []), (false, (stp 18 true [])), (false, (.tup [.w 4, .int 1, (.tup [.w 4, .int 1, X])]))]) := by eq_refl
theorem la_jb0 (n : Nat) (X : D) : LA n (stp 18 true []) (.tup [.w 4, .int 1, (.tup [.w 4, .int 1, X])]) (.tup [.w 4, .int 1, X]) := fun kind => by unfold C; exact congrFun (congrFun (congrFun la_jb0_ n) kind) X
theorem la_jt1_ : (fun (n : Nat) (kind X : D) => callF fns gv 40 (n + 6) 13 [(false, kind), (false, .tup []), (false, (stp 18 false [])), (false, (.tup [.w 4, .int 0, (.tup [.w 4, .int 0, X])]))]) = fun n kind X => some ((false, (.tup [.w 4, .int 0, X])), [(false, kind), (false, .tup []), (false, (stp 18 false [])), (false, (.tup [.w 4, .int 0, (.tup [.w 4, .int 0, X])]))]) := by eq_refl
theorem la_jt1 (n : Nat) (X : D) : LA n (stp 18 false []) (.tup [.w 4, .int 0, (.tup [.w 4, .int 0, X])]) (.tup [.w 4, .int 0, X]) := fun kind => by unfold C; exact congrFun (congrFun (congrFun la_jt1_ n) kind) X
theorem la_jb1_ : (fun (n : Nat) (kind X : D) => callF fns gv 40 (n + 6) 13 [(false, kind), (false, .tup []), (false, (stp 18 true [])), (false, (.tup [.w 4, .int 0, X]))]) = fun n kind X => some ((false, (.tup [.w 4, .int 0, (.tup [.w 4, .int 0, X])])), [(false, kind), (false, .tup []), (false, (stp 18 true [])), (false, (.tup [.w 4, .int 0, X]))]) := by eq_refl
theorem la_jb1 (n : Nat) (X : D) : LA n (stp 18 true []) (.tup [.w 4, .int 0, X]) (.tup [.w 4, .int 0, (.tup [.w 4, .int 0, X])]) := fun kind => by unfold C; exact congrFun (congrFun (congrFun la_jb1_ n) kind) X
theorem la_jt2_ : (fun (n : Nat) (kind X : D) => callF fns gv 40 (n + 6) 13 [(false, kind), (false, .tup []), (false, (stp 18 false [])), (false, (.tup [.w 4, .int 0, (.tup [.w 4, .int 1, X])]))]) = fun n kind X => some ((false, (.tup [.w 4, .int 1, (.tup [.w 4, .int 0, X])])), [(false, kind), (false, .tup []), (false, (stp 18 false [])), (false, (.tup [.w 4, .int 0, (.tup [.w 4, .int 1, X])]))]) := by eq_refl
theorem la_jt2 (n : Nat) (X : D) : LA n (stp 18 false []) (.tup [.w 4, .int 0, (.tup [.w 4, .int 1, X])]) (.tup [.w 4, .int 1, (.tup [.w 4, .int 0, X])]) := fun kind => by unfold C; exact congrFun (congrFun (congrFun la_jt2_ n) kind) X
theorem la_jb2_ : (fun (n : Nat) (kind X : D) => callF fns gv 40 (n + 6) 13 [(false, kind), (false, .tup []), (false, (stp 18 true [])), (false, (.tup [.w 4, .int 1, (.tup [.w 4, .int 0, X])]))]) = fun n kind X => some ((false, (.tup [.w 4, .int 0, (.tup [.w 4, .int 1, X])])), [(false, kind), (false, .tup []), (false, (stp 18 true [])), (false, (.tup [.w 4, .int 1, (.tup [.w 4, .int 0, X])]))]) := by eq_refl
theorem la_jb2 (n : Nat) (X : D) : LA n (stp 18 true []) (.tup [.w 4, .int 1, (.tup [.w 4, .int 0, X])]) (.tup [.w 4, .int 0, (.tup [.w 4, .int 1, X])]) := fun kind => by unfold C; exact congrFun (congrFun (congrFun la_jb2_ n) kind) X
theorem la_nt_ : (fun (n : Nat) (kind X : D) => callF fns gv 40 (n + 6) 13 [(false, kind), (false, .tup []), (false, (stp 7 false [])), (false, (.tup [.w 4, .int 1, X]))]) = fun n kind X => some ((false, X), [(false, kind), (false, .tup []), (false, (stp 7 false [])), (false, (.tup [.w 4, .int 1, X]))]) := by eq_refl
theorem la_nt (n : Nat) (X : D) : LA n (stp 7 false []) (.tup [.w 4, .int 1, X]) X := fun kind => by unfold C; exact congrFun (congrFun (congrFun la_nt_ n) kind) X
theorem la_nb_ : (fun (n : Nat) (kind X : D) => callF fns gv 40 (n + 6) 13 [(false, kind), (false, .tup []), (false, (stp 7 true [])), (false, X)]) = fun n kind X => some ((false, (.tup [.w 4, .int 1, X])), [(false, kind), (false, .tup []), (false, (stp 7 true [])), (false, X)]) := by eq_refl
theorem la_nb (n : Nat) (X : D) : LA n (stp 7 true []) X (.tup [.w 4, .int 1, X]) := fun kind => by unfold C; exact congrFun (congrFun (congrFun la_nb_ n) kind) X
theorem la_bt_ : (fun (n : Nat) (kind X Y : D) => callF fns gv 40 (n + 6) 13 [(false, kind), (false, .tup []), (false, (stp 11 false [])), (false, (.tup [.w 3, X, Y]))]) = fun n kind X Y => some ((false, (.tup [.w 3, Y, X])), [(false, kind), (false, .tup []), (false, (stp 11 false [])), (false, (.tup [.w 3, X, Y]))]) := by eq_refl
theorem la_bt (n : Nat) (X Y : D) : LA n (stp 11 false []) (.tup [.w 3, X, Y]) (.tup [.w 3, Y, X]) := fun kind => by unfold C; exact congrFun (congrFun (congrFun (congrFun la_bt_ n) kind) X) Y
theorem la_bb_ : (fun (n : Nat) (kind X Y : D) => callF fns gv 40 (n + 6) 13 [(false, kind), (false, .tup []), (false, (stp 11 true [])), (false, (.tup [.w 3, X, Y]))]) = fun n kind X Y => some ((false, (.tup [.w 3, Y, X])), [(false, kind), (false, .tup []), (false, (stp 11 true [])), (false, (.tup [.w 3, X, Y]))]) := by eq_refl
theorem la_bb (n : Nat) (X Y : D) : LA n (stp 11 true []) (.tup [.w 3, X, Y]) (.tup [.w 3, Y, X]) := fun kind => by unfold C; exact congrFun (congrFun (congrFun (congrFun la_bb_ n) kind) X) Y
theorem la_jbt_ : (fun (n : Nat) (kind X Y Z : D) => callF fns gv 40 (n + 6) 13 [(false, kind), (false, .tup []), (false, (stp 10 false [])), (false, (.tup [.w 3, (.tup [.w 3, X, Y]), Z]))]) = fun n kind X Y Z => some ((false, (.tup [.w 3, X, (.tup [.w 3, Y, Z])])), [(false, kind), (false, .tup []), (false, (stp 10 false [])), (false, (.tup [.w 3, (.tup [.w 3, X, Y]), Z]))]) := by eq_refl
theorem la_jbt (n : Nat) (X Y Z : D) : LA n (stp 10 false []) (.tup [.w 3, (.tup [.w 3, X, Y]), Z]) (.tup [.w 3, X, (.tup [.w 3, Y, Z])]) := fun kind => by unfold C; exact congrFun (congrFun (congrFun (congrFun (congrFun la_jbt_ n) kind) X) Y) Z
theorem la_jbb_ : (fun (n : Nat) (kind X Y Z : D) => callF fns gv 40 (n + 6) 13 [(false, kind), (false, .tup []), (false, (stp 10 true [])), (false, (.tup [.w 3, X, (.tup [.w 3, Y, Z])]))]) = fun n kind X Y Z => some ((false, (.tup [.w 3, (.tup [.w 3, X, Y]), Z])), [(false, kind), (false, .tup []), (false, (stp 10 true [])), (false, (.tup [.w 3, X, (.tup [.w 3, Y, Z])]))]) := by eq_refl
theorem la_jbb (n : Nat) (X Y Z : D) : LA n (stp 10 true []) (.tup [.w 3, X, (.tup [.w 3, Y, Z])]) (.tup [.w 3, (.tup [.w 3, X, Y]), Z]) := fun kind => by unfold C; exact congrFun (congrFun (congrFun (congrFun (congrFun la_jbb_ n) kind) X) Y) Z
theorem la_ut_ : (fun (n : Nat) (kind X : D) => callF fns gv 40 (n + 6) 13 [(false, kind), (false, .tup []), (false, (stp 12 false [])), (false, (.tup [.w 3, (.tup [.w 13]), X]))]) = fun n kind X => some ((false, X), [(false, kind), (false, .tup []), (false, (stp 12 false [])), (false, (.tup [.w 3, (.tup [.w 13]), X]))]) := by eq_refl
theorem la_ut (n : Nat) (X : D) : LA n (stp 12 false []) (.tup [.w 3, (.tup [.w 13]), X]) X := fun kind => by unfold C; exact congrFun (congrFun (congrFun la_ut_ n) kind) X
theorem la_ub_ : (fun (n : Nat) (kind X : D) => callF fns gv 40 (n + 6) 13 [(false, kind), (false, .tup []), (false, (stp 12 true [])), (false, X)]) = fun n kind X => some ((false, (.tup [.w 3, (.tup [.w 13]), X])), [(false, kind), (false, .tup []), (false, (stp 12 true [])), (false, X)]) := by eq_refl
theorem la_ub (n : Nat) (X : D) : LA n (stp 12 true []) X (.tup [.w 3, (.tup [.w 13]), X]) := fun kind => by unfold C; exact congrFun (congrFun (congrFun la_ub_ n) kind) X
theorem la_stt_ : (fun (n : Nat) (kind X : D) => callF fns gv 40 (n + 6) 13 [(false, kind), (false, .tup []), (false, (stp 16 false [])), (false, X)]) = fun n kind X => some ((false, X), [(false, kind), (false, .tup []), (false, (stp 16 false [])), (false, X)]) := by eq_refl
theorem la_stt (n : Nat) (X : D) : LA n (stp 16 false []) X X := fun kind => by unfold C; exact congrFun (congrFun (congrFun la_stt_ n) kind) X
theorem la_stb_ : (fun (n : Nat) (kind X : D) => callF fns gv 40 (n + 6) 13 [(false, kind), (false, .tup []), (false, (stp 16 true [])), (false, X)]) = fun n kind X => some ((false, X), [(false, kind), (false, .tup []), (false, (stp 16 true [])), (false, X)]) := by eq_refl
theorem la_stb (n : Nat) (X : D) : LA n (stp 16 true []) X X := fun kind => by unfold C; exact congrFun (congrFun (congrFun la_stb_ n) kind) X
theorem la_spt_ : (fun (n : Nat) (kind X : D) => callF fns gv 40 (n + 6) 13 [(false, kind), (false, .tup []), (false, (stp 15 false [])), (false, X)]) = fun n kind X => some ((false, X), [(false, kind), (false, .tup []), (false, (stp 15 false [])), (false, X)]) := by eq_refl
theorem la_spt (n : Nat) (X : D) : LA n (stp 15 false []) X X := fun kind => by unfold C; exact congrFun (congrFun (congrFun la_spt_ n) kind) X
theorem la_spb_ : (fun (n : Nat) (kind X : D) => callF fns gv 40 (n + 6) 13 [(false, kind), (false, .tup []), (false, (stp 15 true [])), (false, X)]) = fun n kind X => some ((false, X), [(false, kind), (false, .tup []), (false, (stp 15 true [])), (false, X)]) := by eq_refl
theorem la_spb (n : Nat) (X : D) : LA n (stp 15 true []) X X := fun kind => by unfold C; exact congrFun (congrFun (congrFun la_spb_ n) kind) X
theorem la_sht_ : (fun (n : Nat) (kind X : D) => callF fns gv 40 (n + 6) 13 [(false, kind), (false, .tup []), (false, (stp 20 false [])), (false, X)]) = fun n kind X => some ((false, X), [(false, kind), (false, .tup []), (false, (stp 20 false [])), (false, X)]) := by eq_refl
theorem la_sht (n : Nat) (X : D) : LA n (stp 20 false []) X X := fun kind => by unfold C; exact congrFun (congrFun (congrFun la_sht_ n) kind) X
theorem la_shb_ : (fun (n : Nat) (kind X : D) => callF fns gv 40 (n + 6) 13 [(false, kind), (false, .tup []), (false, (stp 20 true [])), (false, X)]) = fun n kind X => some ((false, X), [(false, kind), (false, .tup []), (false, (stp 20 true [])), (false, X)]) := by eq_refl
theorem la_shb (n : Nat) (X : D) : LA n (stp 20 true []) X X := fun kind => by unfold C; exact congrFun (congrFun (congrFun la_shb_ n) kind) X
theorem la_cb0_ : (fun (n : Nat) (kind X : D) => callF fns gv 40 (n + 6) 13 [(false, kind), (false, .tup []), (false, (stp 17 true [])), (false, (.tup [.w 4, .int 0, X]))]) = fun n kind X => some ((false, X), [(false, kind), (false, .tup []), (false, (stp 17 true [])), (false, (.tup [.w 4, .int 0, X]))]) := by eq_refl
theorem la_cb0 (n : Nat) (X : D) : LA n (stp 17 true []) (.tup [.w 4, .int 0, X]) X := fun kind => by unfold C; exact congrFun (congrFun (congrFun la_cb0_ n) kind) X
theorem la_cb1_ : (fun (n : Nat) (kind X : D) => callF fns gv 40 (n + 6) 13 [(false, kind), (false, .tup []), (false, (stp 17 true [])), (false, (.tup [.w 4, .int 1, X]))]) = fun n kind X => some ((false, X), [(false, kind), (false, .tup []), (false, (stp 17 true [])), (false, (.tup [.w 4, .int 1, X]))]) := by eq_refl
theorem la_cb1 (n : Nat) (X : D) : LA n (stp 17 true []) (.tup [.w 4, .int 1, X]) X := fun kind => by unfold C; exact congrFun (congrFun (congrFun la_cb1_ n) kind) X
theorem la_rt_ : (fun (n : Nat) (kind X : D) => callF fns gv 40 (n + 6) 13 [(false, kind), (false, .tup []), (false, (stp 21 false [])), (false, (.tup [.w 21, .int 1, X]))]) = fun n kind X => some ((false, X), [(false, kind), (false, .tup []), (false, (stp 21 false [])), (false, (.tup [.w 21, .int 1, X]))]) := by eq_refl
theorem la_rt (n : Nat) (X : D) : LA n (stp 21 false []) (.tup [.w 21, .int 1, X]) X := fun kind => by unfold C; exact congrFun (congrFun (congrFun la_rt_ n) kind) X
theorem la_rb_ : (fun (n : Nat) (kind X : D) => callF fns gv 40 (n + 6) 13 [(false, kind), (false, .tup []), (false, (stp 21 true [.int 1])), (false, X)]) = fun n kind X => some ((false, (.tup [.w 21, .int 1, X])), [(false, kind), (false, .tup []), (false, (stp 21 true [.int 1])), (false, X)]) := by eq_refl
theorem la_rb (n : Nat) (X : D) : LA n (stp 21 true [.int 1]) X (.tup [.w 21, .int 1, X]) := fun kind => by unfold C; exact congrFun (congrFun (congrFun la_rb_ n) kind) X
end
section
theorem part_ok (n : Nat) (kind : D) : C (n + 1) 23 [(false, kind), (false, .tup [])] = some ((false, kind), [(false, kind), (false, .tup [])]) := by
  obtain ⟨r, h, rfl⟩ : ∃ r, C (n + 1) 23 [(false, kind), (false, .tup [])] = some r ∧ r = ((false, kind), [(false, kind), (false, .tup [])]) := by
    refine call_c (fn := f23) rfl rfl ?_
    walk_at "st"
    show wfor _ [] _ _
    rw [wfor_n]
    walk_at "st"
    rfl
  exact h
theorem put_ok (n : Nat) (kind x : D) : C (n + 1) 24 [(false, kind), (false, .tup []), (false, x)] = some ((false, x), [(false, kind), (false, .tup []), (false, x)]) := by
  obtain ⟨r, h, rfl⟩ : ∃ r, C (n + 1) 24 [(false, kind), (false, .tup []), (false, x)] = some r ∧ r = ((false, x), [(false, kind), (false, .tup []), (false, x)]) := by
    refine call_c (fn := f24) rfl rfl ?_
    walk_at "st"
    rfl
  exact h
/-- what other_side answers -/
def Ot (n : Nat) (rules step kind : D) : Prop := ∃ x, C n 25 [(false, rules), (false, step), (false, kind)] = some ((false, x), [(false, rules), (false, step), (false, kind)])
def Gn (n : Nat) (rules kind step : D) : Prop := ∃ x, C n 22 [(false, rules), (false, kind), (false, step)] = some ((false, x), [(false, rules), (false, kind), (false, step)])
theorem gone_ok {n w : Nat} {b : Bool} {ex : List D} {rules kind : D} (h : Ot (n + 1) rules (stp w b ex) kind) : Gn (n + 2) rules kind (stp w b ex) := by
  obtain ⟨x, h⟩ := h
  obtain ⟨r, h, rfl⟩ : ∃ r, C (n + 2) 22 [(false, rules), (false, kind), (false, stp w b ex)] = some r ∧ r = ((false, x), [(false, rules), (false, kind), (false, stp w b ex)]) := by
    refine call_c (fn := f22) rfl rfl ?_
    walk_at "st"
    refine ⟨_, part_ok n kind, ?_⟩
    walk_at "st"
    refine ⟨_, h, ?_⟩
    walk_at "st"
    refine ⟨_, put_ok n kind x, ?_⟩
    walk_at "st"
    rfl
  exact ⟨x, h⟩
theorem other_ok {n w : Nat} {b z : Bool} {ex : List D} {rules part p0 p1 d : D} {ks ks' : List DK} {vs vs' : List D} (hw : (D.w w).eqv (.w 21) = false) (hs : dgetD (gv 5) (.w w) = some (.tup [p0, p1]))
    (hf : C n 29 [(false, if b then p1 else p0), (false, part), (true, .dic [] [])] = some ((false, .bl true), [(false, if b then p1 else p0), (false, part), (true, .dic ks vs)]))
    (hz : C n 27 [(false, .w w), (false, .bl b), (false, .tup ex), (true, .dic ks vs)] = some ((false, .bl z), [(false, .w w), (false, .bl b), (false, .tup ex), (true, .dic ks' vs')]))
    (hk : dinD (.dic ks' vs') (.w 24) = some true) (hd : z = true → Fl1 ks' vs' n (if b then p0 else p1) d) : Ot (n + 1) rules (stp w b ex) part := by
  cases b with
  | false =>
    cases z with
    | true =>
      obtain ⟨r, h, rfl⟩ : ∃ r, C (n + 1) 25 [(false, rules), (false, stp w false ex), (false, part)] = some r ∧ r = ((false, d), [(false, rules), (false, stp w false ex), (false, part)]) := by
        refine call_c (fn := f25) rfl rfl ?_
        walk_at "sv"
        rw [hw]
        walk_at "sv"
        refine ask hs ?_
        walk_at "sv"
        refine ⟨_, hf, ?_⟩
        walk_at "sv"
        refine ⟨_, hz, ?_⟩
        walk_at "sv"
        refine ask hk ?_
        walk_at "sv"
        refine ⟨_, hd rfl, ?_⟩
        walk_at "sv"
        rfl
      exact ⟨d, h⟩
    | false =>
      obtain ⟨r, h, rfl⟩ : ∃ r, C (n + 1) 25 [(false, rules), (false, stp w false ex), (false, part)] = some r ∧ r = ((false, .non), [(false, rules), (false, stp w false ex), (false, part)]) := by
        refine call_c (fn := f25) rfl rfl ?_
        walk_at "sv"
        rw [hw]
        walk_at "sv"
        refine ask hs ?_
        walk_at "sv"
        refine ⟨_, hf, ?_⟩
        walk_at "sv"
        refine ⟨_, hz, ?_⟩
        walk_at "sv"
        rfl
      exact ⟨.non, h⟩
  | true =>
    cases z with
    | true =>
      obtain ⟨r, h, rfl⟩ : ∃ r, C (n + 1) 25 [(false, rules), (false, stp w true ex), (false, part)] = some r ∧ r = ((false, d), [(false, rules), (false, stp w true ex), (false, part)]) := by
        refine call_c (fn := f25) rfl rfl ?_
        walk_at "sv"
        rw [hw]
        walk_at "sv"
        refine ask hs ?_
        walk_at "sv"
        refine ⟨_, hf, ?_⟩
        walk_at "sv"
        refine ⟨_, hz, ?_⟩
        walk_at "sv"
        refine ask hk ?_
        walk_at "sv"
        refine ⟨_, hd rfl, ?_⟩
        walk_at "sv"
        rfl
      exact ⟨d, h⟩
    | false =>
      obtain ⟨r, h, rfl⟩ : ∃ r, C (n + 1) 25 [(false, rules), (false, stp w true ex), (false, part)] = some r ∧ r = ((false, .non), [(false, rules), (false, stp w true ex), (false, part)]) := by
        refine call_c (fn := f25) rfl rfl ?_
        walk_at "sv"
        rw [hw]
        walk_at "sv"
        refine ask hs ?_
        walk_at "sv"
        refine ⟨_, hf, ?_⟩
        walk_at "sv"
        refine ⟨_, hz, ?_⟩
        walk_at "sv"
        rfl
      exact ⟨.non, h⟩
/-- led_by, one step -/
theorem led1 {n w : Nat} {b : Bool} {ex : List D} {rules kind S T : D} (hl : LA n (stp w b ex) S T) (hg : Gn (n + 6) rules kind (stp w b ex)) :
    C (n + 7) 12 [(false, rules), (false, kind), (false, .tup [stp w b ex]), (false, S)] = some ((false, T), [(false, rules), (false, kind), (false, .tup [stp w b ex]), (false, S)]) := by
  obtain ⟨x, hg⟩ := hg
  obtain ⟨r, h, rfl⟩ : ∃ r, C (n + 7) 12 [(false, rules), (false, kind), (false, .tup [stp w b ex]), (false, S)] = some r ∧ r = ((false, T), [(false, rules), (false, kind), (false, .tup [stp w b ex]), (false, S)]) := by
    refine call_c (fn := f12) rfl rfl ?_
    walk_at "st"
    show wfor _ [stp w b ex] _ _
    rw [wfor_c]
    walk_at "st"
    refine ⟨_, hl kind, ?_⟩
    walk_at "st"
    refine ⟨_, hg, ?_⟩
    walk_at "st"
    show wfor _ [] _ _
    rw [wfor_n]
    walk_at "st"
    rfl
  exact h
theorem led0 {n : Nat} {rules kind S : D} : C (n + 1) 12 [(false, rules), (false, kind), (false, .tup []), (false, S)] = some ((false, S), [(false, rules), (false, kind), (false, .tup []), (false, S)]) := by
  obtain ⟨r, h, rfl⟩ : ∃ r, C (n + 1) 12 [(false, rules), (false, kind), (false, .tup []), (false, S)] = some r ∧ r = ((false, S), [(false, rules), (false, kind), (false, .tup []), (false, S)]) := by
    refine call_c (fn := f12) rfl rfl ?_
    walk_at "st"
    show wfor _ [] _ _
    rw [wfor_n]
    walk_at "st"
    rfl
  exact h
end
/-! Names, sizes, and gone for each word. -/
section
theorem ins_len (x : Int) : ∀ l : List Int, (insI x l).length = l.length + 1
  | [] => rfl
  | y :: r => by
    unfold insI
    split
    · rfl
    · rw [List.length_cons, ins_len x r, List.length_cons]
theorem sort_len : ∀ l : List Int, (sortI l).length = l.length
  | [] => rfl
  | x :: r => by
    show (insI x (sortI r)).length = _
    rw [ins_len, sort_len r]
    rfl
theorem sorted_nms (l : List Int) : biD .sorted (nms l) = some (true, .lst ((sortI l).map D.int)) := by
  show (intsD (l.map D.int)).map _ = _
  rw [ints_map]
  rfl
def Nmo (n : Nat) (s : D) (k : Nat) : Prop := ∃ ms : List Int, ms.length = k ∧ C n 21 [(false, s)] = some ((false, nms ms), [(false, s)])
theorem Nmo.of {n : Nat} {s : D} {k : Nat} (h : ∃ r, C n 21 [(false, s)] = some r ∧ ∃ ms : List Int, r = ((false, nms ms), [(false, s)]) ∧ ms.length = k) : Nmo n s k := by
  obtain ⟨r, h1, ms, rfl, h2⟩ := h
  exact ⟨ms, h2, h1⟩
theorem nm_leaf0 (n : Nat) (ms : List Int) : Nmo (n + 1) (.tup [.w 0, nms ms]) ms.length := by
  refine Nmo.of (call_c (fn := f21) rfl rfl ?_)
  walk_at "st"
  refine ⟨_, sorted_nms ms, ?_⟩
  walk_at "st"
  exact sort_len ms
theorem nm_leaf2 (n : Nat) (ms : List Int) : Nmo (n + 1) (.tup [.w 2, nms ms]) ms.length := by
  refine Nmo.of (call_c (fn := f21) rfl rfl ?_)
  walk_at "st"
  refine ⟨_, sorted_nms ms, ?_⟩
  walk_at "st"
  exact sort_len ms
theorem nm_leaf6 (n : Nat) (ms : List Int) : Nmo (n + 1) (.tup [.w 6, nms ms]) ms.length := by
  refine Nmo.of (call_c (fn := f21) rfl rfl ?_)
  walk_at "st"
  refine ⟨_, sorted_nms ms, ?_⟩
  walk_at "st"
  exact sort_len ms
theorem nm_skip4 {n : Nat} {s : D} {k : Nat} (j : Int) (h : Nmo n s k) : Nmo (n + 1) (.tup [.w 4, .int j, s]) k := by
  obtain ⟨ms, h1, h2⟩ := h
  refine Nmo.of (call_c (fn := f21) rfl rfl ?_)
  walk_at "st"
  refine ⟨_, h2, ?_⟩
  walk_at "st"
  exact h1
theorem nm_skip5 {n : Nat} {s : D} {k : Nat} (j : Int) (h : Nmo n s k) : Nmo (n + 1) (.tup [.w 5, .int j, s]) k := by
  obtain ⟨ms, h1, h2⟩ := h
  refine Nmo.of (call_c (fn := f21) rfl rfl ?_)
  walk_at "st"
  refine ⟨_, h2, ?_⟩
  walk_at "st"
  exact h1
theorem init_nms (ms : List Int) : slD none (some (-1)) (nms ms) = some (nms (ms.take (ms.length - 1))) := by
  have e : clipI ms.length ms.length (some (-1)) = ms.length - 1 := by
    have h : clipI ms.length ms.length (some (-1)) = (-1 + (ms.length : Int)).toNat := by simp [clipI]
    rw [h]
    omega
  show some (D.tup (cut (ms.map D.int) none (some (-1)))) = _
  unfold cut
  rw [List.length_map, e]
  show some (D.tup (((ms.map D.int).drop 0).take (ms.length - 1 - 0))) = _
  rw [List.drop_zero, Nat.sub_zero, ← List.map_take]
theorem nm_hole {n : Nat} {s : D} {k : Nat} (h : Nmo n s (k + 1)) : Nmo (n + 1) (.tup [.w 1, s]) k := by
  obtain ⟨ms, h1, h2⟩ := h
  refine Nmo.of (call_c (fn := f21) rfl rfl ?_)
  walk_at "st"
  refine ⟨_, h2, ?_⟩
  refine ask (init_nms ms) ?_
  walk_at "st"
  rw [List.length_take]
  omega
theorem nm_both {n : Nat} {s t : D} {j k : Nat} (hjk : j + k ≤ 1000) (h : Nmo n s j) (h' : Nmo n t k) : Nmo (n + 1) (.tup [.w 3, s, t]) (j + k) := by
  obtain ⟨ms, h1, h2⟩ := h
  obtain ⟨ms', h1', h2'⟩ := h'
  refine Nmo.of (call_c (fn := f21) rfl rfl ?_)
  walk_at "st"
  refine ⟨_, h2, ?_⟩
  walk_at "st"
  refine ⟨_, h2', ?_⟩
  refine ⟨_, add_nms ms ms' (by omega), ?_⟩
  walk_at "st"
  refine ⟨_, sorted_nms _, ?_⟩
  walk_at "st"
  rw [sort_len, List.length_append, h1, h1']
theorem Som.names {n : Nat} {ns : List Int} {kk s : D} (hl : ns.length < 20) (h : Som ns kk s) : Nmo (n + 2) s ns.length := by
  cases h with
  | set => exact nm_leaf0 (n + 1) ns
  | row ms h1 => rw [← h1]; exact nm_leaf2 (n + 1) ms
  | round ms h1 => rw [← h1]; exact nm_leaf6 (n + 1) ms
  | point x _ => exact nm_skip5 x (nm_leaf0 n ns)
  | this0 => exact nm_skip4 0 (nm_leaf0 n ns)
  | this1 => exact nm_skip4 1 (nm_leaf2 n ns)
  | both a b h1 => rw [← h1]; exact nm_both (by omega) (nm_leaf2 n a) (nm_leaf0 n b)
  | hole x _ =>
    refine nm_hole ?_
    have := nm_leaf0 n (ns ++ [x])
    rw [List.length_append, List.length_singleton] at this
    exact this
theorem la_ct {n k : Nat} {S : D} {c : Int} (h : Nmo (n + 3) S k) : LA n (stp 17 false [.int c]) S (.tup [.w 4, .int (if decide (c < (k : Int)) then 1 else 0), S]) := by
  intro kind
  obtain ⟨ms, hk, h⟩ := h
  have e3 : C (n + 4) 15 [(false, stp 17 false [.int c]), (false, S)] = some ((false, .tup [.w 4, .int (if decide (c < (k : Int)) then 1 else 0), S]), [(false, stp 17 false [.int c]), (false, S)]) := by
    obtain ⟨r, q, rfl⟩ : ∃ r, C (n + 4) 15 [(false, stp 17 false [.int c]), (false, S)] = some r ∧ r = ((false, .tup [.w 4, .int (if decide (c < (k : Int)) then 1 else 0), S]), [(false, stp 17 false [.int c]), (false, S)]) := by
      refine call_c (fn := f15) rfl rfl ?_
      walk_at "st"
      refine ⟨_, h, ?_⟩
      walk_at "st"
      rw [List.length_map, hk]
      rfl
    exact q
  have e2 : C (n + 5) 14 [(false, stp 17 false [.int c]), (false, S)] = some ((false, .tup [.w 4, .int (if decide (c < (k : Int)) then 1 else 0), S]), [(false, stp 17 false [.int c]), (false, S)]) := by
    obtain ⟨r, q, rfl⟩ : ∃ r, C (n + 5) 14 [(false, stp 17 false [.int c]), (false, S)] = some r ∧ r = ((false, .tup [.w 4, .int (if decide (c < (k : Int)) then 1 else 0), S]), [(false, stp 17 false [.int c]), (false, S)]) := by
      refine call_c (fn := f14) rfl rfl ?_
      walk_at "st"
      refine ⟨_, e3, ?_⟩
      walk_at "st"
      rfl
    exact q
  obtain ⟨r, q, rfl⟩ : ∃ r, C (n + 6) 13 [(false, kind), (false, .tup []), (false, stp 17 false [.int c]), (false, S)] = some r ∧ r = ((false, .tup [.w 4, .int (if decide (c < (k : Int)) then 1 else 0), S]), [(false, kind), (false, .tup []), (false, stp 17 false [.int c]), (false, S)]) := by
    refine call_c (fn := f13) rfl rfl ?_
    walk_at "st"
    refine ⟨_, e2, ?_⟩
    walk_at "st"
    rfl
  exact q
def Sz (n w : Nat) (b : Bool) (ex : List D) (z : Bool) (ks : List DK) (vs : List D) (ks' : List DK) (vs' : List D) : Prop := C n 27 [(false, .w w), (false, .bl b), (false, .tup ex), (true, .dic ks vs)] = some ((false, .bl z), [(false, .w w), (false, .bl b), (false, .tup ex), (true, .dic ks' vs')])
theorem Sz.of {n w : Nat} {b : Bool} {ex : List D} {z : Bool} {ks ks' : List DK} {vs vs' : List D} (h : ∃ r, C n 27 [(false, .w w), (false, .bl b), (false, .tup ex), (true, .dic ks vs)] = some r ∧ r = ((false, .bl z), [(false, .w w), (false, .bl b), (false, .tup ex), (true, .dic ks' vs')])) : Sz n w b ex z ks vs ks' vs' := by
  obtain ⟨r, h, rfl⟩ := h
  exact h
theorem sz_9f (n : Nat) (ex : List D) (ks : List DK) (vs : List D) : Sz (n + 1) 9 false ex true ks vs ks vs := by
  refine Sz.of (call_c (fn := f27) rfl rfl ?_)
  walk_at "st"
  rfl
theorem sz_9t (n : Nat) (ex : List D) (ks : List DK) (vs : List D) : Sz (n + 1) 9 true ex true ks vs ks vs := by
  refine Sz.of (call_c (fn := f27) rfl rfl ?_)
  walk_at "st"
  rfl
theorem sz_18f (n : Nat) (ex : List D) (ks : List DK) (vs : List D) : Sz (n + 1) 18 false ex true ks vs ks vs := by
  refine Sz.of (call_c (fn := f27) rfl rfl ?_)
  walk_at "st"
  rfl
theorem sz_18t (n : Nat) (ex : List D) (ks : List DK) (vs : List D) : Sz (n + 1) 18 true ex true ks vs ks vs := by
  refine Sz.of (call_c (fn := f27) rfl rfl ?_)
  walk_at "st"
  rfl
theorem sz_7f (n : Nat) (ex : List D) (ks : List DK) (vs : List D) : Sz (n + 1) 7 false ex true ks vs ks vs := by
  refine Sz.of (call_c (fn := f27) rfl rfl ?_)
  walk_at "st"
  rfl
theorem sz_7t (n : Nat) (ex : List D) (ks : List DK) (vs : List D) : Sz (n + 1) 7 true ex true ks vs ks vs := by
  refine Sz.of (call_c (fn := f27) rfl rfl ?_)
  walk_at "st"
  rfl
theorem sz_11f (n : Nat) (ex : List D) (ks : List DK) (vs : List D) : Sz (n + 1) 11 false ex true ks vs ks vs := by
  refine Sz.of (call_c (fn := f27) rfl rfl ?_)
  walk_at "st"
  rfl
theorem sz_11t (n : Nat) (ex : List D) (ks : List DK) (vs : List D) : Sz (n + 1) 11 true ex true ks vs ks vs := by
  refine Sz.of (call_c (fn := f27) rfl rfl ?_)
  walk_at "st"
  rfl
theorem sz_10f (n : Nat) (ex : List D) (ks : List DK) (vs : List D) : Sz (n + 1) 10 false ex true ks vs ks vs := by
  refine Sz.of (call_c (fn := f27) rfl rfl ?_)
  walk_at "st"
  rfl
theorem sz_10t (n : Nat) (ex : List D) (ks : List DK) (vs : List D) : Sz (n + 1) 10 true ex true ks vs ks vs := by
  refine Sz.of (call_c (fn := f27) rfl rfl ?_)
  walk_at "st"
  rfl
theorem sz_19f (n : Nat) (ex : List D) (ks : List DK) (vs : List D) : Sz (n + 1) 19 false ex true ks vs ks vs := by
  refine Sz.of (call_c (fn := f27) rfl rfl ?_)
  walk_at "st"
  rfl
theorem sz_19t (n : Nat) (ex : List D) (ks : List DK) (vs : List D) : Sz (n + 1) 19 true ex true ks vs ks vs := by
  refine Sz.of (call_c (fn := f27) rfl rfl ?_)
  walk_at "st"
  rfl
theorem sz_12f (n : Nat) (ex : List D) (ks : List DK) (vs : List D) : Sz (n + 1) 12 false ex true ks vs ks vs := by
  refine Sz.of (call_c (fn := f27) rfl rfl ?_)
  walk_at "st"
  rfl
theorem sz_12t (n : Nat) (ex : List D) (ks : List DK) (vs : List D) : Sz (n + 1) 12 true ex true ks vs ks vs := by
  refine Sz.of (call_c (fn := f27) rfl rfl ?_)
  walk_at "st"
  rfl
theorem sz_16f (n : Nat) (ex : List D) (ks : List DK) (vs : List D) : Sz (n + 1) 16 false ex true ks vs ks vs := by
  refine Sz.of (call_c (fn := f27) rfl rfl ?_)
  walk_at "st"
  rfl
theorem sz_16t (n : Nat) (ex : List D) (ks : List DK) (vs : List D) : Sz (n + 1) 16 true ex true ks vs ks vs := by
  refine Sz.of (call_c (fn := f27) rfl rfl ?_)
  walk_at "st"
  rfl
theorem sz_15f (n : Nat) (ex : List D) (ks : List DK) (vs : List D) : Sz (n + 1) 15 false ex true ks vs ks vs := by
  refine Sz.of (call_c (fn := f27) rfl rfl ?_)
  walk_at "st"
  rfl
theorem sz_15t (n : Nat) (ex : List D) (ks : List DK) (vs : List D) : Sz (n + 1) 15 true ex true ks vs ks vs := by
  refine Sz.of (call_c (fn := f27) rfl rfl ?_)
  walk_at "st"
  rfl
theorem sz_cut_t (n : Nat) {a b c : Int} {kk : D} (h1 : a ≤ c) (h2 : c < b) : Sz (n + 1) 17 false [.int c] true [.w 24, .w 28, .w 26] [kk, .int a, .int b] [.w 24, .w 28, .w 26, .w 25, .w 27] [kk, .int a, .int b, .int c, .int (c + 1)] := by
  refine Sz.of (call_c (fn := f27) rfl rfl ?_)
  walk_at "st"
  show (match decide (a ≤ c) with | true => _ | false => _)
  rw [decide_eq_true h1]
  walk_at "st"
  rw [decide_eq_true h2]
  walk_at "st"
  rfl
theorem sz_cut_b (n : Nat) {a b c : Int} {kk : D} : Sz (n + 1) 17 true [] true [.w 24, .w 28, .w 25, .w 27, .w 26] [kk, .int a, .int c, .int (c + 1), .int b] [.w 24, .w 28, .w 25, .w 27, .w 26] [kk, .int a, .int c, .int (c + 1), .int b] := by
  refine Sz.of (call_c (fn := f27) rfl rfl ?_)
  walk_at "st"
  show _ = ((false, D.bl true), _)
  rw [show (D.int (c + 1)).eqv (D.int (c + 1)) = true from beq_self_eq_true (c + 1)]
theorem sz_hole_t (n : Nat) {a b : Int} {kk : D} (h : b < 20) : Sz (n + 1) 20 false [] true [.w 24, .w 28, .w 26] [kk, .int a, .int b] [.w 24, .w 28, .w 26, .w 25, .w 27] [kk, .int a, .int b, .int (a + 1), .int (b + 1)] := by
  refine Sz.of (call_c (fn := f27) rfl rfl ?_)
  walk_at "st"
  show _ = ((false, D.bl true), _)
  rw [show decide (b < 20) = true from decide_eq_true h]
  rfl
theorem sz_hole_b (n : Nat) {a b : Int} {kk : D} (h : 0 ≤ a) : Sz (n + 1) 20 true [] true [.w 24, .w 25, .w 27] [kk, .int (a + 1), .int (b + 1)] [.w 24, .w 25, .w 27, .w 28, .w 26] [kk, .int (a + 1), .int (b + 1), .int (a + 1 - 1), .int (b + 1 - 1)] := by
  refine Sz.of (call_c (fn := f27) rfl rfl ?_)
  walk_at "st"
  show _ = ((false, D.bl true), _)
  rw [show decide (0 < a + 1) = true from decide_eq_true (by omega)]
  rfl

theorem g_9t {n : Nat} {rules a b : D} (ha : EqR a) (hb : EqR b) : Gn (n + 6) rules (.tup [.w 4, a, b]) (stp 9 false []) :=
  gone_ok (n := n + 4) (other_ok (n := n + 4) rfl rfl (fts_ok (m := 4) (.n3 (.new rfl rfl (by decide) ha) (.new rfl rfl (by decide) hb)) n) (sz_9f (n + 3) _ _ _) rfl fun _ => (fld_node (by decide) (.cons (fld_leaf rfl) (.cons (fld_leaf rfl) .nil))))
theorem g_9b {n : Nat} {rules a b : D} (ha : EqR a) (hb : EqR b) : Gn (n + 6) rules (.tup [.w 4, b, a]) (stp 9 true []) :=
  gone_ok (n := n + 4) (other_ok (n := n + 4) rfl rfl (fts_ok (m := 4) (.n3 (.new rfl rfl (by decide) hb) (.new rfl rfl (by decide) ha)) n) (sz_9t (n + 3) _ _ _) rfl fun _ => (fld_node (by decide) (.cons (fld_leaf rfl) (.cons (fld_leaf rfl) .nil))))
theorem g_18t {n : Nat} {rules a b c : D} (ha : EqR a) (hb : EqR b) (hc : EqR c) : Gn (n + 6) rules (.tup [.w 4, (.tup [.w 4, a, b]), c]) (stp 18 false []) :=
  gone_ok (n := n + 4) (other_ok (n := n + 4) rfl rfl (fts_ok (m := 4) (.n3 (.n3 (.new rfl rfl (by decide) ha) (.new rfl rfl (by decide) hb)) (.new rfl rfl (by decide) hc)) n) (sz_18f (n + 3) _ _ _) rfl fun _ => (fld_node (by decide) (.cons (fld_leaf rfl) (.cons (fld_node (by decide) (.cons (fld_leaf rfl) (.cons (fld_leaf rfl) .nil))) .nil))))
theorem g_18b {n : Nat} {rules a b c : D} (ha : EqR a) (hb : EqR b) (hc : EqR c) : Gn (n + 6) rules (.tup [.w 4, a, (.tup [.w 4, b, c])]) (stp 18 true []) :=
  gone_ok (n := n + 4) (other_ok (n := n + 4) rfl rfl (fts_ok (m := 4) (.n3 (.new rfl rfl (by decide) ha) (.n3 (.new rfl rfl (by decide) hb) (.new rfl rfl (by decide) hc))) n) (sz_18t (n + 3) _ _ _) rfl fun _ => (fld_node (by decide) (.cons (fld_node (by decide) (.cons (fld_leaf rfl) (.cons (fld_leaf rfl) .nil))) (.cons (fld_leaf rfl) .nil))))
theorem g_11t {n : Nat} {rules a b : D} (ha : EqR a) (hb : EqR b) : Gn (n + 6) rules (.tup [.w 3, a, b]) (stp 11 false []) :=
  gone_ok (n := n + 4) (other_ok (n := n + 4) rfl rfl (fts_ok (m := 4) (.n3 (.new rfl rfl (by decide) ha) (.new rfl rfl (by decide) hb)) n) (sz_11f (n + 3) _ _ _) rfl fun _ => (fld_node (by decide) (.cons (fld_leaf rfl) (.cons (fld_leaf rfl) .nil))))
theorem g_11b {n : Nat} {rules a b : D} (ha : EqR a) (hb : EqR b) : Gn (n + 6) rules (.tup [.w 3, b, a]) (stp 11 true []) :=
  gone_ok (n := n + 4) (other_ok (n := n + 4) rfl rfl (fts_ok (m := 4) (.n3 (.new rfl rfl (by decide) hb) (.new rfl rfl (by decide) ha)) n) (sz_11t (n + 3) _ _ _) rfl fun _ => (fld_node (by decide) (.cons (fld_leaf rfl) (.cons (fld_leaf rfl) .nil))))
theorem g_10t {n : Nat} {rules a b c : D} (ha : EqR a) (hb : EqR b) (hc : EqR c) : Gn (n + 6) rules (.tup [.w 3, (.tup [.w 3, a, b]), c]) (stp 10 false []) :=
  gone_ok (n := n + 4) (other_ok (n := n + 4) rfl rfl (fts_ok (m := 4) (.n3 (.n3 (.new rfl rfl (by decide) ha) (.new rfl rfl (by decide) hb)) (.new rfl rfl (by decide) hc)) n) (sz_10f (n + 3) _ _ _) rfl fun _ => (fld_node (by decide) (.cons (fld_leaf rfl) (.cons (fld_node (by decide) (.cons (fld_leaf rfl) (.cons (fld_leaf rfl) .nil))) .nil))))
theorem g_10b {n : Nat} {rules a b c : D} (ha : EqR a) (hb : EqR b) (hc : EqR c) : Gn (n + 6) rules (.tup [.w 3, a, (.tup [.w 3, b, c])]) (stp 10 true []) :=
  gone_ok (n := n + 4) (other_ok (n := n + 4) rfl rfl (fts_ok (m := 4) (.n3 (.new rfl rfl (by decide) ha) (.n3 (.new rfl rfl (by decide) hb) (.new rfl rfl (by decide) hc))) n) (sz_10t (n + 3) _ _ _) rfl fun _ => (fld_node (by decide) (.cons (fld_node (by decide) (.cons (fld_leaf rfl) (.cons (fld_leaf rfl) .nil))) (.cons (fld_leaf rfl) .nil))))
theorem g_19t {n : Nat} {rules a b c : D} (ha : EqR a) (hb : EqR b) (hc : EqR c) : Gn (n + 6) rules (.tup [.w 3, a, (.tup [.w 4, b, c])]) (stp 19 false []) :=
  gone_ok (n := n + 4) (other_ok (n := n + 4) rfl rfl (fts_ok (m := 4) (.n3 (.new rfl rfl (by decide) ha) (.n3 (.new rfl rfl (by decide) hb) (.new rfl rfl (by decide) hc))) n) (sz_19f (n + 3) _ _ _) rfl fun _ => (fld_node (by decide) (.cons (fld_node (by decide) (.cons (fld_leaf rfl) (.cons (fld_leaf rfl) .nil))) (.cons (fld_node (by decide) (.cons (fld_leaf rfl) (.cons (fld_leaf rfl) .nil))) .nil))))
theorem g_19b {n : Nat} {rules a b c : D} (ha : EqR a) (hb : EqR b) (hc : EqR c) : Gn (n + 6) rules (.tup [.w 4, (.tup [.w 3, a, b]), (.tup [.w 3, a, c])]) (stp 19 true []) :=
  gone_ok (n := n + 4) (other_ok (n := n + 4) rfl rfl (fts_ok (m := 4) (.n3 (.n3 (.new rfl rfl (by decide) ha) (.new rfl rfl (by decide) hb)) (.n3 (.old rfl ha) (.new rfl rfl (by decide) hc))) n) (sz_19t (n + 3) _ _ _) rfl fun _ => (fld_node (by decide) (.cons (fld_leaf rfl) (.cons (fld_node (by decide) (.cons (fld_leaf rfl) (.cons (fld_leaf rfl) .nil))) .nil))))
theorem g_7t {n : Nat} {rules a : D} (ha : EqR a) : Gn (n + 6) rules (.tup [.w 4, (.tup [.w 8]), a]) (stp 7 false []) :=
  gone_ok (n := n + 4) (other_ok (n := n + 4) rfl rfl (fts_ok (m := 4) (.n3 (.n1) (.new rfl rfl (by decide) ha)) n) (sz_7f (n + 3) _ _ _) rfl fun _ => (fld_leaf rfl))
theorem g_7b {n : Nat} {rules a : D} (ha : EqR a) : Gn (n + 6) rules a (stp 7 true []) :=
  gone_ok (n := n + 4) (other_ok (n := n + 4) rfl rfl (fts_ok (m := 4) (.new rfl rfl (by decide) ha) n) (sz_7t (n + 3) _ _ _) rfl fun _ => (fld_node (by decide) (.cons (fld_node (by decide) .nil) (.cons (fld_leaf rfl) .nil))))
theorem g_12t {n : Nat} {rules a : D} (ha : EqR a) : Gn (n + 6) rules (.tup [.w 3, (.tup [.w 13]), a]) (stp 12 false []) :=
  gone_ok (n := n + 4) (other_ok (n := n + 4) rfl rfl (fts_ok (m := 4) (.n3 (.n1) (.new rfl rfl (by decide) ha)) n) (sz_12f (n + 3) _ _ _) rfl fun _ => (fld_leaf rfl))
theorem g_12b {n : Nat} {rules a : D} (ha : EqR a) : Gn (n + 6) rules a (stp 12 true []) :=
  gone_ok (n := n + 4) (other_ok (n := n + 4) rfl rfl (fts_ok (m := 4) (.new rfl rfl (by decide) ha) n) (sz_12t (n + 3) _ _ _) rfl fun _ => (fld_node (by decide) (.cons (fld_node (by decide) .nil) (.cons (fld_leaf rfl) .nil))))
theorem g_17t {n : Nat} {lo hi m : Int} {rules a : D} (ha : EqR a) (h1 : lo ≤ m) (h2 : m < hi) : Gn (n + 6) rules (.tup [.w 14, a, (.int lo), (.int hi)]) (stp 17 false [.int m]) :=
  gone_ok (n := n + 4) (other_ok (n := n + 4) rfl rfl (fts_ok (m := 4) (.n4 (.new rfl rfl (by decide) ha) (.new rfl rfl (by decide) (eqr_int _)) (.new rfl rfl (by decide) (eqr_int _))) n) (sz_cut_t (n + 3) h1 h2) rfl fun _ => (fld_node (by decide) (.cons (fld_node (by decide) (.cons (fld_leaf rfl) (.cons (fld_leaf rfl) (.cons (fld_leaf rfl) .nil)))) (.cons (fld_node (by decide) (.cons (fld_leaf rfl) (.cons (fld_leaf rfl) (.cons (fld_leaf rfl) .nil)))) .nil))))
theorem g_17b {n : Nat} {lo hi m : Int} {rules a : D} (ha : EqR a) : Gn (n + 6) rules (.tup [.w 4, (.tup [.w 14, a, (.int lo), (.int m)]), (.tup [.w 14, a, (.int (m + 1)), (.int hi)])]) (stp 17 true []) :=
  gone_ok (n := n + 4) (other_ok (n := n + 4) rfl rfl (fts_ok (m := 4) (.n3 (.n4 (.new rfl rfl (by decide) ha) (.new rfl rfl (by decide) (eqr_int _)) (.new rfl rfl (by decide) (eqr_int _))) (.n4 (.old rfl ha) (.new rfl rfl (by decide) (eqr_int _)) (.new rfl rfl (by decide) (eqr_int _)))) n) (sz_cut_b (n + 3)) rfl fun _ => (fld_node (by decide) (.cons (fld_leaf rfl) (.cons (fld_leaf rfl) (.cons (fld_leaf rfl) .nil)))))
theorem g_16t {n : Nat} {lo hi m : Int} {rules a b : D} (ha : EqR a) (hb : EqR b) : Gn (n + 6) rules (.tup [.w 14, (.tup [.w 4, a, b]), (.int lo), (.int hi)]) (stp 16 false []) :=
  gone_ok (n := n + 4) (other_ok (n := n + 4) rfl rfl (fts_ok (m := 4) (.n4 (.n3 (.new rfl rfl (by decide) ha) (.new rfl rfl (by decide) hb)) (.new rfl rfl (by decide) (eqr_int _)) (.new rfl rfl (by decide) (eqr_int _))) n) (sz_16f (n + 3) _ _ _) rfl fun _ => (fld_node (by decide) (.cons (fld_node (by decide) (.cons (fld_leaf rfl) (.cons (fld_leaf rfl) (.cons (fld_leaf rfl) .nil)))) (.cons (fld_node (by decide) (.cons (fld_leaf rfl) (.cons (fld_leaf rfl) (.cons (fld_leaf rfl) .nil)))) .nil))))
theorem g_16b {n : Nat} {lo hi m : Int} {rules a b : D} (ha : EqR a) (hb : EqR b) : Gn (n + 6) rules (.tup [.w 4, (.tup [.w 14, a, (.int lo), (.int hi)]), (.tup [.w 14, b, (.int lo), (.int hi)])]) (stp 16 true []) :=
  gone_ok (n := n + 4) (other_ok (n := n + 4) rfl rfl (fts_ok (m := 4) (.n3 (.n4 (.new rfl rfl (by decide) ha) (.new rfl rfl (by decide) (eqr_int _)) (.new rfl rfl (by decide) (eqr_int _))) (.n4 (.new rfl rfl (by decide) hb) (.old rfl (eqr_int _)) (.old rfl (eqr_int _)))) n) (sz_16t (n + 3) _ _ _) rfl fun _ => (fld_node (by decide) (.cons (fld_node (by decide) (.cons (fld_leaf rfl) (.cons (fld_leaf rfl) .nil))) (.cons (fld_leaf rfl) (.cons (fld_leaf rfl) .nil)))))
theorem g_15t {n : Nat} {lo hi m : Int} {rules a : D} (ha : EqR a) : Gn (n + 6) rules (.tup [.w 14, (.tup [.w 5, a]), (.int lo), (.int hi)]) (stp 15 false []) :=
  gone_ok (n := n + 4) (other_ok (n := n + 4) rfl rfl (fts_ok (m := 4) (.n4 (.n2 (.new rfl rfl (by decide) ha)) (.new rfl rfl (by decide) (eqr_int _)) (.new rfl rfl (by decide) (eqr_int _))) n) (sz_15f (n + 3) _ _ _) rfl fun _ => (fld_node (by decide) (.cons (fld_node (by decide) (.cons (fld_leaf rfl) (.cons (fld_leaf rfl) (.cons (fld_leaf rfl) .nil)))) .nil)))
theorem g_15b {n : Nat} {lo hi m : Int} {rules a : D} (ha : EqR a) : Gn (n + 6) rules (.tup [.w 5, (.tup [.w 14, a, (.int lo), (.int hi)])]) (stp 15 true []) :=
  gone_ok (n := n + 4) (other_ok (n := n + 4) rfl rfl (fts_ok (m := 4) (.n2 (.n4 (.new rfl rfl (by decide) ha) (.new rfl rfl (by decide) (eqr_int _)) (.new rfl rfl (by decide) (eqr_int _)))) n) (sz_15t (n + 3) _ _ _) rfl fun _ => (fld_node (by decide) (.cons (fld_node (by decide) (.cons (fld_leaf rfl) .nil)) (.cons (fld_leaf rfl) (.cons (fld_leaf rfl) .nil)))))
theorem g_20t {n : Nat} {lo hi m : Int} {rules a : D} (ha : EqR a) (h1 : hi < 20) : Gn (n + 6) rules (.tup [.w 14, (.tup [.w 1, a]), (.int lo), (.int hi)]) (stp 20 false []) :=
  gone_ok (n := n + 4) (other_ok (n := n + 4) rfl rfl (fts_ok (m := 4) (.n4 (.n2 (.new rfl rfl (by decide) ha)) (.new rfl rfl (by decide) (eqr_int _)) (.new rfl rfl (by decide) (eqr_int _))) n) (sz_hole_t (n + 3) h1) rfl fun _ => (fld_node (by decide) (.cons (fld_node (by decide) (.cons (fld_leaf rfl) (.cons (fld_leaf rfl) (.cons (fld_leaf rfl) .nil)))) .nil)))
theorem g_20b {n : Nat} {lo hi m : Int} {rules a : D} (ha : EqR a) (h1 : 0 ≤ lo) : Gn (n + 6) rules (.tup [.w 1, (.tup [.w 14, a, (.int (lo + 1)), (.int (hi + 1))])]) (stp 20 true []) :=
  gone_ok (n := n + 4) (other_ok (n := n + 4) rfl rfl (fts_ok (m := 4) (.n2 (.n4 (.new rfl rfl (by decide) ha) (.new rfl rfl (by decide) (eqr_int _)) (.new rfl rfl (by decide) (eqr_int _)))) n) (sz_hole_b (n + 3) h1) rfl fun _ => (fld_node (by decide) (.cons (fld_node (by decide) (.cons (fld_leaf rfl) .nil)) (.cons (fld_leaf rfl) (.cons (fld_leaf rfl) .nil)))))
theorem g_rt {n : Nat} {k0 kk : D} : Gn (n + 6) (.tup [k0, kk]) (.tup [.w 21, .int 1]) (stp 21 false []) := by
  refine gone_ok (n := n + 4) ?_
  have e : C (n + 4) 26 [(false, .tup [k0, kk]), (false, .bl false), (false, .tup []), (false, .tup [.w 21, .int 1])] = some ((false, kk), [(false, .tup [k0, kk]), (false, .bl false), (false, .tup []), (false, .tup [.w 21, .int 1])]) := by
    obtain ⟨r, h, rfl⟩ : ∃ r, C (n + 4) 26 [(false, .tup [k0, kk]), (false, .bl false), (false, .tup []), (false, .tup [.w 21, .int 1])] = some r ∧ r = ((false, kk), [(false, .tup [k0, kk]), (false, .bl false), (false, .tup []), (false, .tup [.w 21, .int 1])]) := by
      refine call_c (fn := f26) rfl rfl ?_
      walk_at "st"
      rfl
    exact h
  refine ⟨kk, ?_⟩
  obtain ⟨r, h, rfl⟩ : ∃ r, C (n + 5) 25 [(false, .tup [k0, kk]), (false, stp 21 false []), (false, .tup [.w 21, .int 1])] = some r ∧ r = ((false, kk), [(false, .tup [k0, kk]), (false, stp 21 false []), (false, .tup [.w 21, .int 1])]) := by
    refine call_c (fn := f25) rfl rfl ?_
    walk_at "st"
    refine ⟨_, e, ?_⟩
    walk_at "st"
    rfl
  exact h
theorem g_rb {n : Nat} {k0 kk : D} (hk : EqR kk) : Gn (n + 6) (.tup [k0, kk]) kk (stp 21 true [.int 1]) := by
  refine gone_ok (n := n + 4) ?_
  have e : C (n + 4) 26 [(false, .tup [k0, kk]), (false, .bl true), (false, .tup [.int 1]), (false, kk)] = some ((false, .tup [.w 21, .int 1]), [(false, .tup [k0, kk]), (false, .bl true), (false, .tup [.int 1]), (false, kk)]) := by
    obtain ⟨r, h, rfl⟩ : ∃ r, C (n + 4) 26 [(false, .tup [k0, kk]), (false, .bl true), (false, .tup [.int 1]), (false, kk)] = some r ∧ r = ((false, .tup [.w 21, .int 1]), [(false, .tup [k0, kk]), (false, .bl true), (false, .tup [.int 1]), (false, kk)]) := by
      refine call_c (fn := f26) rfl rfl ?_
      walk_at "st"
      refine ⟨_, hk, ?_⟩
      walk_at "st"
      rfl
    exact h
  refine ⟨.tup [.w 21, .int 1], ?_⟩
  obtain ⟨r, h, rfl⟩ : ∃ r, C (n + 5) 25 [(false, .tup [k0, kk]), (false, stp 21 true [.int 1]), (false, kk)] = some r ∧ r = ((false, .tup [.w 21, .int 1]), [(false, .tup [k0, kk]), (false, stp 21 true [.int 1]), (false, kk)]) := by
    refine call_c (fn := f25) rfl rfl ?_
    walk_at "st"
    refine ⟨_, e, ?_⟩
    walk_at "st"
    rfl
  exact h
end
/-! What repr can tell. -/
section
structure Rp (j m : Nat) (d : D) : Prop where
  pl : ∀ k, j ≤ k → D.pl k d = true
  sm : D.small d = true
  wt : D.wt d ≤ m
structure Rps (j m : Nat) (l : List D) : Prop where
  pl : ∀ k, j ≤ k → D.pls k l = true
  sm : D.smalls l = true
  wt : D.wts l ≤ m
theorem Rp.mono {j m j' m' : Nat} {d : D} (h : Rp j m d) (hj : j ≤ j') (hm : m ≤ m') : Rp j' m' d := ⟨fun k hk => h.pl k (Nat.le_trans hj hk), h.sm, Nat.le_trans h.wt hm⟩
theorem rps_nil {j : Nat} : Rps j 0 [] := ⟨fun k _ => by cases k <;> rfl, rfl, Nat.le_refl _⟩
theorem rps_cons {j m1 m2 : Nat} {d : D} {l : List D} (h : Rp j m1 d) (r : Rps j m2 l) : Rps j (m1 + 1 + m2) (d :: l) where
  pl := fun k hk => by
    have e : D.pls k (d :: l) = (D.pl k d && D.pls k l) := by cases k <;> rfl
    rw [e, h.pl k hk, r.pl k hk]
    rfl
  sm := by
    show (D.small d && D.smalls l) = true
    rw [h.sm, r.sm]
    rfl
  wt := by
    show D.wt d + 1 + D.wts l ≤ _
    have := h.wt
    have := r.wt
    omega
theorem rp_tup {j m : Nat} {l : List D} (h : Rps j m l) : Rp (j + 1) m (.tup l) where
  pl := fun k hk => by
    cases k with
    | zero => omega
    | succ k => exact h.pl k (by omega)
  sm := h.sm
  wt := h.wt
theorem rp_w (i j : Nat) : Rp j 30 (.w i) := ⟨fun k _ => by cases k <;> rfl, rfl, Nat.le_refl _⟩
theorem rp_int {i : Int} (j : Nat) (h : i.natAbs < 10000000) : Rp j 168 (.int i) := ⟨fun k _ => by cases k <;> rfl, decide_eq_true (Nat.lt_trans h (by decide)), Nat.le_refl _⟩
theorem rps_ints (j : Nat) : ∀ l : List Int, (∀ x ∈ l, x.natAbs < 10000000) → Rps j (169 * l.length) (l.map D.int)
  | [], _ => rps_nil
  | x :: r, h => by
    have := rps_cons (rp_int j (h x List.mem_cons_self)) (rps_ints j r fun y hy => h y (List.mem_cons_of_mem _ hy))
    rw [List.map_cons, List.length_cons]
    exact ⟨this.pl, this.sm, by have := this.wt; omega⟩
theorem rp_nms {l : List Int} {m : Nat} (h : ∀ x ∈ l, x.natAbs < 10000000) (hm : 169 * l.length ≤ m) : Rp 1 m (nms l) := (rp_tup (rps_ints 0 l h)).mono (Nat.le_refl _) hm
theorem Bd.big {l : List Int} (h : Bd l) : ∀ x ∈ l, x.natAbs < 10000000 := fun x hx => Nat.lt_trans (h x hx) (by decide)
/-- a word and parts -/
theorem rp2 {i j m1 : Nat} {a : D} (ha : Rp j m1 a) : Rp (j + 1) (32 + m1) (.tup [.w i, a]) := (rp_tup (rps_cons (rp_w i j) (rps_cons ha rps_nil))).mono (Nat.le_refl _) (by omega)
theorem rp3 {i j m1 m2 : Nat} {a b : D} (ha : Rp j m1 a) (hb : Rp j m2 b) : Rp (j + 1) (33 + m1 + m2) (.tup [.w i, a, b]) := (rp_tup (rps_cons (rp_w i j) (rps_cons ha (rps_cons hb rps_nil)))).mono (Nat.le_refl _) (by omega)
theorem rp1 (i j : Nat) : Rp (j + 1) 31 (.tup [.w i]) := rp_tup (rps_cons (rp_w i j) rps_nil)
theorem Som.rpk {ns : List Int} {kk s : D} (h : Som ns kk s) : Rp 3 200 kk := by
  cases h with
  | set => exact (rp1 0 0).mono (by decide) (by decide)
  | row => exact (rp1 2 0).mono (by decide) (by decide)
  | round => exact (rp1 6 0).mono (by decide) (by decide)
  | point => exact (rp2 (rp1 0 0)).mono (by decide) (by decide)
  | this0 => exact (rp3 (rp1 0 0) (rp1 2 0)).mono (by decide) (by decide)
  | this1 => exact (rp3 (rp1 0 0) (rp1 2 0)).mono (by decide) (by decide)
  | both => exact (rp3 (rp1 2 0) (rp1 0 0)).mono (by decide) (by decide)
  | hole => exact (rp2 (rp1 0 0)).mono (by decide) (by decide)
theorem Som.rps {ns : List Int} {kk s : D} (hl : ns.length ≤ 6) (hd : Bd ns) (h : Som ns kk s) : Rp 3 1500 s := by
  cases h with
  | set => exact (rp2 (rp_nms hd.big (Nat.le_refl _))).mono (by decide) (by omega)
  | row ms h1 h2 => exact (rp2 (rp_nms h2.big (Nat.le_refl _))).mono (by decide) (by omega)
  | round ms h1 h2 => exact (rp2 (rp_nms h2.big (Nat.le_refl _))).mono (by decide) (by omega)
  | point x hx => exact (rp3 (rp_int 2 (by omega)) (rp2 (rp_nms hd.big (Nat.le_refl _)))).mono (by decide) (by omega)
  | this0 => exact (rp3 (rp_int 2 (by decide)) (rp2 (rp_nms hd.big (Nat.le_refl _)))).mono (by decide) (by omega)
  | this1 => exact (rp3 (rp_int 2 (by decide)) (rp2 (rp_nms hd.big (Nat.le_refl _)))).mono (by decide) (by omega)
  | both a b h1 h2 h3 => exact (rp3 (rp2 (rp_nms h2.big (Nat.le_refl _))) (rp2 (rp_nms h3.big (Nat.le_refl _)))).mono (by decide) (by omega)
  | hole x hx =>
    refine (rp2 (rp2 (rp_nms (fun y hy => ?_) (Nat.le_refl _)))).mono (by decide) (by rw [List.length_append, List.length_singleton]; omega)
    rcases List.mem_append.mp hy with z | z
    · exact hd.big y z
    · rw [List.mem_singleton.mp z]
      omega
theorem Som.eqr {ns : List Int} {kk s : D} (h : Som ns kk s) : EqR kk := eqr_kind h.kind
/-- what a case promises -/
structure Good (n : Nat) (rules one other S T : D) (w : Nat) (ex exb : List D) : Prop where
  a : LA n (stp w false ex) S T
  b : LA n (stp w true exb) T S
  ga : Gn (n + 6) rules one (stp w false ex)
  gb : Gn (n + 6) rules other (stp w true exb)
theorem Som.isTup {ns : List Int} {kk s : D} (h : Som ns kk s) : ∃ xs, s = .tup xs := by
  cases h <;> exact ⟨_, rfl⟩
structure Told5 (rules one other S T : D) : Prop where
  r0 : Rp 9 9000 rules
  r1 : Rp 9 9000 one
  r2 : Rp 9 9000 other
  r3 : Rp 9 9000 S
  r4 : Rp 9 9000 T
structure Told (rules one other S T : D) : Prop where
  of : Told5 rules one other S T
  t3 : ∃ xs, S = .tup xs
  t4 : ∃ xs, T = .tup xs
theorem told {rules one other S T : D} (h : Told5 rules one other S T) (t3 : ∃ xs, S = .tup xs := by first | exact ⟨_, rfl⟩ | exact Som.isTup (by assumption)) (t4 : ∃ xs, T = .tup xs := by first | exact ⟨_, rfl⟩ | exact Som.isTup (by assumption)) : Told rules one other S T := ⟨h, t3, t4⟩
theorem rp_none : Rp 9 9000 (.tup []) := (rp_tup (j := 8) rps_nil).mono (by decide) (by decide)
theorem this_ok {n B w : Nat} {fd : D} {ns : List Int} (h : FeedOk B fd) (hB : B < 700000) (hl : ns.length ≤ 6) (hd : Bd ns) (hw : w = 9 ∨ w = 18 ∨ w = 7) :
    ∃ r, C (n + 4) 7 [(true, fd), (false, .w w), (false, nms ns)] = some r ∧ ∃ one other s t fd', r = ((false, .tup [one, other, s, t]), [(true, fd'), (false, .w w), (false, nms ns)]) ∧ (∀ n, Good n (.tup []) one other s t w [] []) ∧ Told (.tup []) one other s t ∧ FeedOk (B + 200) fd' := by
  refine call_c (fn := f7) rfl rfl ?_
  walk_at "st"
  obtain ⟨q, e1, k1, s1, fd1, rfl, m1, ok1⟩ := some_ok (n := n) h (by omega) (by omega) hd
  refine ⟨_, e1, ?_⟩
  walk_at "st"
  obtain ⟨q, e2, k2, s2, fd2, rfl, m2, ok2⟩ := some_ok (n := n) ok1 (by omega) (by omega) hd
  refine ⟨_, e2, ?_⟩
  walk_at "st"
  obtain ⟨q, e3, j, fd3, rfl, j0, j1, ok3⟩ := take_ok (n := n + 2) (m := 2) ok2 (by omega) (by omega) (by omega)
  refine ⟨_, e3, ?_⟩
  have hj : j = 0 ∨ j = 1 := by omega
  have ka := m1.rpk
  have kb := m2.rpk
  have ra := m1.rps hl hd
  have rb := m2.rps hl hd
  rcases hw with rfl | rfl | rfl
  · rcases hj with rfl | rfl
    · walk_at "st"
      exact ⟨_, _, _, _, _, rfl, fun n => ⟨la_tt0 n s1, la_tb1 n s1, g_9t m1.eqr m2.eqr, g_9b m1.eqr m2.eqr⟩, told ⟨rp_none, (rp3 ka kb).mono (by decide) (by decide), (rp3 kb ka).mono (by decide) (by decide), (rp3 (rp_int 3 (by decide)) ra).mono (by decide) (by decide), (rp3 (rp_int 3 (by decide)) ra).mono (by decide) (by decide)⟩, ok3.le (by omega)⟩
    · walk_at "st"
      exact ⟨_, _, _, _, _, rfl, fun n => ⟨la_tt1 n s2, la_tb0 n s2, g_9t m1.eqr m2.eqr, g_9b m1.eqr m2.eqr⟩, told ⟨rp_none, (rp3 ka kb).mono (by decide) (by decide), (rp3 kb ka).mono (by decide) (by decide), (rp3 (rp_int 3 (by decide)) rb).mono (by decide) (by decide), (rp3 (rp_int 3 (by decide)) rb).mono (by decide) (by decide)⟩, ok3.le (by omega)⟩
  · walk_at "st"
    obtain ⟨q, e4, k3, s3, fd4, rfl, m3, ok4⟩ := some_ok (n := n) ok3 (by omega) (by omega) hd
    refine ⟨_, e4, ?_⟩
    walk_at "st"
    have kc := m3.rpk
    have rc := m3.rps hl hd
    obtain ⟨q, e5, v, fd5, rfl, v0, v1, ok5⟩ := take_ok (n := n + 2) (m := 3) ok4 (by omega) (by omega) (by omega)
    refine ⟨_, e5, ?_⟩
    have ro : Rp 9 9000 (.tup [.w 4, .tup [.w 4, k1, k2], k3]) := (rp3 (rp3 ka kb) (kc.mono (j' := 4) (by decide) (Nat.le_refl _))).mono (by decide) (by decide)
    have rt : Rp 9 9000 (.tup [.w 4, k1, .tup [.w 4, k2, k3]]) := (rp3 (ka.mono (j' := 4) (by decide) (Nat.le_refl _)) (rp3 kb kc)).mono (by decide) (by decide)
    have t1 : ∀ {x : D} (i : Int), i.natAbs < 10 → Rp 3 1500 x → Rp 9 9000 (.tup [.w 4, .int i, x]) := fun i hi hx => (rp3 (rp_int 3 (by omega)) hx).mono (by decide) (by decide)
    have t2 : ∀ {x : D} (i k : Int), i.natAbs < 10 → k.natAbs < 10 → Rp 3 1500 x → Rp 9 9000 (.tup [.w 4, .int i, .tup [.w 4, .int k, x]]) := fun i k hi hk hx => (rp3 (rp_int 4 (by omega)) (rp3 (rp_int 3 (by omega)) hx)).mono (by decide) (by decide)
    have hv : v = 0 ∨ v = 1 ∨ v = 2 := by omega
    have two : v = 1 ∨ v = 2 → wSs (C (n + 3)) gv 40 (dropS 8 f7.body) (done [(true, fd), (false, .w 18), (false, nms ns)] fun r => ∃ one other s t fd', r = ((false, .tup [one, other, s, t]), [(true, fd'), (false, .w 18), (false, nms ns)]) ∧ (∀ n, Good n (.tup []) one other s t 18 [] []) ∧ Told (.tup []) one other s t ∧ FeedOk (B + 200) fd')
        [some (.lent, fd5), some (.fro, .w 18), some (.fro, nms ns), some (.fro, .int j), some (.fro, k1), some (.fro, s1), some (.fro, k2), some (.fro, s2), some (.fro, k3), some (.fro, s3), some (.fro, .tup [.w 4, .tup [.w 4, k1, k2], k3]), some (.fro, .tup [.w 4, k1, .tup [.w 4, k2, k3]])] := by
      intro _
      rcases hj with rfl | rfl
      · walk_at "st"
        exact ⟨_, _, _, _, _, rfl, fun n => ⟨la_jt1 n s1, la_jb1 n s1, g_18t m1.eqr m2.eqr m3.eqr, g_18b m1.eqr m2.eqr m3.eqr⟩, told ⟨rp_none, ro, rt, t2 0 0 (by decide) (by decide) ra, t1 0 (by decide) ra⟩, ok5.le (by omega)⟩
      · walk_at "st"
        exact ⟨_, _, _, _, _, rfl, fun n => ⟨la_jt2 n s2, la_jb2 n s2, g_18t m1.eqr m2.eqr m3.eqr, g_18b m1.eqr m2.eqr m3.eqr⟩, told ⟨rp_none, ro, rt, t2 0 1 (by decide) (by decide) rb, t2 1 0 (by decide) (by decide) rb⟩, ok5.le (by omega)⟩
    rcases hv with rfl | rfl | rfl
    · walk_at "st"
      exact ⟨_, _, _, _, _, rfl, fun n => ⟨la_jt0 n s3, la_jb0 n s3, g_18t m1.eqr m2.eqr m3.eqr, g_18b m1.eqr m2.eqr m3.eqr⟩, told ⟨rp_none, ro, rt, t1 1 (by decide) rc, t2 1 1 (by decide) (by decide) rc⟩, ok5.le (by omega)⟩
    · repeat (first | exact two (.inl rfl) | walk_at "s1")
    · repeat (first | exact two (.inr rfl) | walk_at "s1")
  · walk_at "st"
    exact ⟨_, _, _, _, _, rfl, fun n => ⟨la_nt n s1, la_nb n s1, g_7t m1.eqr, g_7b m1.eqr⟩, told ⟨rp_none, (rp3 (rp1 8 2) ka).mono (by decide) (by decide), ka.mono (by decide) (by decide), (rp3 (rp_int 3 (by decide)) ra).mono (by decide) (by decide), ra.mono (by decide) (by decide)⟩, ok3.le (by omega)⟩
end
section
theorem both_ok {n B w : Nat} {fd : D} {ns : List Int} (h : FeedOk B fd) (hB : B < 700000) (hl : ns.length ≤ 6) (hd : Bd ns) (hw : w = 11 ∨ w = 10 ∨ w = 19 ∨ w = 12) :
    ∃ r, C (n + 4) 8 [(true, fd), (false, .w w), (false, nms ns)] = some r ∧ ∃ one other s t fd', r = ((false, .tup [one, other, s, t]), [(true, fd'), (false, .w w), (false, nms ns)]) ∧ (∀ n, Good n (.tup []) one other s t w [] []) ∧ Told (.tup []) one other s t ∧ FeedOk (B + 200) fd' := by
  refine call_c (fn := f8) rfl rfl ?_
  have t3 : ∀ {x y : D} {i : Nat}, Rp 3 1500 x → Rp 3 1500 y → Rp 9 9000 (.tup [.w i, x, y]) := fun hx hy => (rp3 hx hy).mono (by decide) (by decide)
  have k3 : ∀ {x y : D} {i : Nat}, Rp 3 200 x → Rp 3 200 y → Rp 9 9000 (.tup [.w i, x, y]) := fun hx hy => (rp3 hx hy).mono (by decide) (by decide)
  rcases hw with rfl | rfl | rfl | rfl
  · walk_at "st"
    obtain ⟨q, e0, hs, fd0, rfl, z1, z2, z3, ok0⟩ := split_ok (n := n + 1) (hl := 2) h (by omega) (by omega) hd (.inl rfl)
    obtain ⟨x, y, rfl⟩ := two_hps z1
    refine ⟨_, e0, ?_⟩
    walk_at "st"
    have zx := z3 x (by simp)
    have zy := z3 y (by simp)
    have z2 : x.length + y.length = ns.length := by simpa using z2
    obtain ⟨q, e1, k1, s1, fd1, rfl, m1, ok1⟩ := some_ok (n := n) ok0 (by omega) (by omega) zx
    refine ⟨_, e1, ?_⟩
    walk_at "st"
    obtain ⟨q, e2, k2, s2, fd2, rfl, m2, ok2⟩ := some_ok (n := n) ok1 (by omega) (by omega) zy
    refine ⟨_, e2, ?_⟩
    walk_at "st"
    have ra := m1.rps (by omega) zx
    have rb := m2.rps (by omega) zy
    exact ⟨_, _, _, _, _, rfl, fun n => ⟨la_bt n s1 s2, la_bb n s2 s1, g_11t m1.eqr m2.eqr, g_11b m1.eqr m2.eqr⟩, told ⟨rp_none, k3 m1.rpk m2.rpk, k3 m2.rpk m1.rpk, t3 ra rb, t3 rb ra⟩, ok2.le (by omega)⟩
  · walk_at "st"
    obtain ⟨q, e0, hs, fd0, rfl, z1, z2, z3, ok0⟩ := split_ok (n := n + 1) (hl := 3) h (by omega) (by omega) hd (.inr rfl)
    obtain ⟨x, y, z, rfl⟩ : ∃ x y z, hs = [x, y, z] := by
      match hs, z1 with
      | [x, y, z], _ => exact ⟨x, y, z, rfl⟩
    refine ⟨_, e0, ?_⟩
    walk_at "st"
    have zx := z3 x (by simp)
    have zy := z3 y (by simp)
    have zz := z3 z (by simp)
    have z2 : x.length + (y.length + z.length) = ns.length := by simpa using z2
    obtain ⟨q, e1, k1, s1, fd1, rfl, m1, ok1⟩ := some_ok (n := n) ok0 (by omega) (by omega) zx
    refine ⟨_, e1, ?_⟩
    walk_at "st"
    obtain ⟨q, e2, k2, s2, fd2, rfl, m2, ok2⟩ := some_ok (n := n) ok1 (by omega) (by omega) zy
    refine ⟨_, e2, ?_⟩
    walk_at "st"
    obtain ⟨q, e3, k4, s3, fd3, rfl, m3, ok3⟩ := some_ok (n := n) ok2 (by omega) (by omega) zz
    refine ⟨_, e3, ?_⟩
    walk_at "st"
    have ra := m1.rps (by omega) zx
    have rb := m2.rps (by omega) zy
    have rc := m3.rps (by omega) zz
    exact ⟨_, _, _, _, _, rfl, fun n => ⟨la_jbt n s1 s2 s3, la_jbb n s1 s2 s3, g_10t m1.eqr m2.eqr m3.eqr, g_10b m1.eqr m2.eqr m3.eqr⟩,
      told ⟨rp_none, (rp3 (rp3 m1.rpk m2.rpk) (m3.rpk.mono (j' := 4) (by decide) (Nat.le_refl _))).mono (by decide) (by decide), (rp3 (m1.rpk.mono (j' := 4) (by decide) (Nat.le_refl _)) (rp3 m2.rpk m3.rpk)).mono (by decide) (by decide),
        (rp3 (rp3 ra rb) (rc.mono (j' := 4) (by decide) (Nat.le_refl _))).mono (by decide) (by decide), (rp3 (ra.mono (j' := 4) (by decide) (Nat.le_refl _)) (rp3 rb rc)).mono (by decide) (by decide)⟩, ok3.le (by omega)⟩
  · walk_at "st"
    obtain ⟨q, e0, hs, fd0, rfl, z1, z2, z3, ok0⟩ := split_ok (n := n + 1) (hl := 2) h (by omega) (by omega) hd (.inl rfl)
    obtain ⟨x, y, rfl⟩ := two_hps z1
    refine ⟨_, e0, ?_⟩
    walk_at "st"
    have zx := z3 x (by simp)
    have zy := z3 y (by simp)
    have z2 : x.length + y.length = ns.length := by simpa using z2
    obtain ⟨q, e1, k1, s1, fd1, rfl, m1, ok1⟩ := some_ok (n := n) ok0 (by omega) (by omega) zx
    refine ⟨_, e1, ?_⟩
    walk_at "st"
    obtain ⟨q, e2, k2, s2, fd2, rfl, m2, ok2⟩ := some_ok (n := n) ok1 (by omega) (by omega) zy
    refine ⟨_, e2, ?_⟩
    walk_at "st"
    obtain ⟨q, e3, k4, s3, fd3, rfl, m3, ok3⟩ := some_ok (n := n) ok2 (by omega) (by omega) zy
    refine ⟨_, e3, ?_⟩
    walk_at "st"
    obtain ⟨q, e4, j, fd4, rfl, j0, j1, ok4⟩ := take_ok (n := n + 2) (m := 2) ok3 (by omega) (by omega) (by omega)
    refine ⟨_, e4, ?_⟩
    have ra := m1.rps (by omega) zx
    have rb := m2.rps (by omega) zy
    have rc := m3.rps (by omega) zy
    have ro : Rp 9 9000 (.tup [.w 3, k1, .tup [.w 4, k2, k4]]) := (rp3 (m1.rpk.mono (j' := 4) (by decide) (Nat.le_refl _)) (rp3 m2.rpk m3.rpk)).mono (by decide) (by decide)
    have rt : Rp 9 9000 (.tup [.w 4, .tup [.w 3, k1, k2], .tup [.w 3, k1, k4]]) := (rp3 (rp3 m1.rpk m2.rpk) (rp3 m1.rpk m3.rpk)).mono (by decide) (by decide)
    have r3 : ∀ {x : D} (i : Int), i.natAbs < 10 → Rp 3 1500 x → Rp 9 9000 (.tup [.w 3, s1, .tup [.w 4, .int i, x]]) := fun i hi hx => (rp3 (ra.mono (j' := 4) (by decide) (Nat.le_refl _)) (rp3 (rp_int 3 (by omega)) hx)).mono (by decide) (by decide)
    have r4 : ∀ {x : D} (i : Int), i.natAbs < 10 → Rp 3 1500 x → Rp 9 9000 (.tup [.w 4, .int i, .tup [.w 3, s1, x]]) := fun i hi hx => (rp3 (rp_int 4 (by omega)) (rp3 ra hx)).mono (by decide) (by decide)
    have hj : j = 0 ∨ j = 1 := by omega
    rcases hj with rfl | rfl
    · walk_at "st"
      exact ⟨_, _, _, _, _, rfl, fun n => ⟨la_pt0 n s1 s2, la_pb0 n s1 s2, g_19t m1.eqr m2.eqr m3.eqr, g_19b m1.eqr m2.eqr m3.eqr⟩, told ⟨rp_none, ro, rt, r3 0 (by decide) rb, r4 0 (by decide) rb⟩, ok4.le (by omega)⟩
    · walk_at "st"
      exact ⟨_, _, _, _, _, rfl, fun n => ⟨la_pt1 n s1 s3, la_pb1 n s1 s3, g_19t m1.eqr m2.eqr m3.eqr, g_19b m1.eqr m2.eqr m3.eqr⟩, told ⟨rp_none, ro, rt, r3 1 (by decide) rc, r4 1 (by decide) rc⟩, ok4.le (by omega)⟩
  · walk_at "st"
    obtain ⟨q, e1, k1, s1, fd1, rfl, m1, ok1⟩ := some_ok (n := n) h (by omega) (by omega) hd
    refine ⟨_, e1, ?_⟩
    walk_at "st"
    have ra := m1.rps hl hd
    exact ⟨_, _, _, _, _, rfl, fun n => ⟨la_ut n s1, la_ub n s1, g_12t m1.eqr, g_12b m1.eqr⟩, told ⟨rp_none, k3 ((rp1 13 2).mono (by decide) (by decide)) m1.rpk, m1.rpk.mono (by decide) (by decide), t3 ((rp1 13 2).mono (by decide) (by decide)) ra, ra.mono (by decide) (by decide)⟩, ok1.le (by omega)⟩
end
section
theorem la_cb {n : Nat} {X : D} {p : Bool} : LA n (stp 17 true []) (.tup [.w 4, .int (if p then 1 else 0), X]) X := by
  cases p with
  | true => exact la_cb1 n X
  | false => exact la_cb0 n X
theorem rp4 {i j m1 : Nat} {a : D} {x y : Int} (ha : Rp j m1 a) (hx : x.natAbs < 10000000) (hy : y.natAbs < 10000000) : Rp (j + 1) (371 + m1) (.tup [.w i, a, .int x, .int y]) := (rp_tup (rps_cons (rp_w i j) (rps_cons ha (rps_cons (rp_int j hx) (rps_cons (rp_int j hy) rps_nil))))).mono (Nat.le_refl _) (by omega)
def sizeW (w : Nat) (ns : List Int) : Nat := if w = 15 ∧ ns = [] then 20 else w
theorem size_ok {n B w : Nat} {fd : D} {ns : List Int} (h : FeedOk B fd) (hB : B < 700000) (hl : ns.length ≤ 5) (hd : Bh ns) (hw : w = 17 ∨ w = 16 ∨ w = 15 ∨ w = 20) :
    ∃ r, C (n + 4) 9 [(true, fd), (false, .w w), (false, nms ns)] = some r ∧ ∃ one other s t ex fd', r = ((false, .tup [one, other, s, t, .tup ex]), [(true, fd'), (false, .w w), (false, nms ns)]) ∧ (∀ n, Good n (.tup []) one other s t (sizeW w ns) ex []) ∧ Told (.tup []) one other s t ∧ FeedOk (B + 200) fd' := by
  refine call_c (fn := f9) rfl rfl ?_
  walk_at "st"
  obtain ⟨q, e1, v, fd1, rfl, v0, v1, ok1⟩ := take_ok (n := n + 2) (m := 3) h (by omega) (by omega) (by omega)
  refine ⟨_, e1, ?_⟩
  walk_at "st"
  obtain ⟨q, e2, u, fd2, rfl, u0, u1, ok2⟩ := take_ok (n := n + 2) (m := 3) ok1 (by omega) (by omega) (by omega)
  refine ⟨_, e2, ?_⟩
  walk_at "st"
  obtain ⟨q, e3, k1, s1, fd3, rfl, m1, ok3⟩ := some_ok (n := n) ok2 (by omega) (by omega) hd.bd
  refine ⟨_, e3, ?_⟩
  have ra := m1.rps (by omega) hd.bd
  have ka := m1.rpk
  have len : ((ns.map D.int).length : Int) = ns.length := by rw [List.length_map]
  have A0 : 0 ≤ (if ((ns.map D.int).length : Int) - v > 0 then ((ns.map D.int).length : Int) - v else 0) := by split <;> omega
  have A1 : (if ((ns.map D.int).length : Int) - v > 0 then ((ns.map D.int).length : Int) - v else 0) ≤ 5 ∧ (if ((ns.map D.int).length : Int) - v > 0 then ((ns.map D.int).length : Int) - v else 0) ≤ ((ns.map D.int).length : Int) := by split <;> omega
  generalize hA : (if ((ns.map D.int).length : Int) - v > 0 then ((ns.map D.int).length : Int) - v else 0) = lo at *
  have b1 : ((ns.map D.int).length : Int) + 1 + u ≤ 8 := by omega
  have b2 : lo < ((ns.map D.int).length : Int) + 1 + u := by omega
  generalize hb : ((ns.map D.int).length : Int) + 1 + u = hi at *
  have k4 : ∀ {x : D} {i : Nat} (a b : Int), a.natAbs < 100 → b.natAbs < 100 → Rp 3 200 x → Rp 4 571 (.tup [.w i, x, .int a, .int b]) := fun a b ha hb hx => (rp4 hx (by omega) (by omega)).mono (Nat.le_refl _) (by decide)
  have tail : ∀ w, sizeW w ns = 20 → wSs (C (n + 3)) gv 40 (dropS 6 f9.body) (done [(true, fd), (false, .w w), (false, nms ns)] fun r => ∃ one other s t ex fd', r = ((false, .tup [one, other, s, t, .tup ex]), [(true, fd'), (false, .w w), (false, nms ns)]) ∧ (∀ n, Good n (.tup []) one other s t (sizeW w ns) ex []) ∧ Told (.tup []) one other s t ∧ FeedOk (B + 200) fd')
      [some (.lent, fd3), some (.fro, .w w), some (.fro, nms ns), some (.fro, .int ((ns.map D.int).length : Nat)), some (.fro, .int lo), some (.fro, .int hi), some (.fro, k1), some (.fro, s1), none, none, none, none, none, none] := by
    intro w hw
    rw [hw]
    walk_at "st"
    obtain ⟨q, e4, x, rfl, hx⟩ := hole_ok (n := n + 2) (b := 500) (ns := ns) (by omega) (by decide) hd
    refine ⟨_, e4, ?_⟩
    walk_at "st"
    refine ⟨_, add_nms ns [x] (by simp; omega), ?_⟩
    walk_at "st"
    have hd2 : Bd (ns ++ [x]) := hd.bd.app (.one (by omega))
    have hl2 : (ns ++ [x]).length ≤ 6 := by rw [List.length_append, List.length_singleton]; omega
    obtain ⟨q, e5, k2, s2, fd5, rfl, m2, ok5⟩ := some_ok (n := n) ok3 (by omega) (by omega) hd2
    refine ⟨_, e5, ?_⟩
    walk_at "st"
    have rb := m2.rps hl2 hd2
    have rs : Rp 9 9000 (.tup [.w 1, s2]) := (rp2 rb).mono (by decide) (by decide)
    exact ⟨_, _, _, _, [], _, rfl, fun n => ⟨la_sht n _, la_shb n _, g_20t (m := 0) m2.eqr (by omega), g_20b (m := 0) m2.eqr A0⟩, told ⟨rp_none, (rp4 (rp2 m2.rpk) (by omega) (by omega)).mono (by decide) (by decide), (rp2 (rp4 m2.rpk (by omega) (by omega))).mono (by decide) (by decide), rs, rs⟩, ok5.le (by omega)⟩
  rcases hw with rfl | rfl | rfl | rfl
  · walk_at "st"
    obtain ⟨q, e4, c, fd4, rfl, c0, c1, ok4⟩ := take_ok (n := n + 2) (m := hi - lo) ok3 (by omega) (by omega) (by omega)
    refine ⟨_, e4, ?_⟩
    walk_at "st"
    rw [len]
    refine ⟨_, _, _, _, _, _, rfl, fun n => ⟨la_ct (m1.names (by omega)), la_cb, g_17t m1.eqr (by omega) (by omega), g_17b m1.eqr⟩, told ⟨rp_none, (k4 lo hi (by omega) (by omega) ka).mono (by decide) (by decide), (rp3 (k4 lo (lo + c) (by omega) (by omega) ka) (k4 (lo + c + 1) hi (by omega) (by omega) ka)).mono (by decide) (by decide), ra.mono (by decide) (by decide), (rp3 (rp_int 3 (by split <;> decide)) ra).mono (by decide) (by decide)⟩, ok4.le (by omega)⟩
  · walk_at "st"
    obtain ⟨q, e4, k2, s2, fd4, rfl, m2, ok4⟩ := some_ok (n := n) ok3 (by omega) (by omega) hd.bd
    refine ⟨_, e4, ?_⟩
    walk_at "st"
    have rb := m2.rps (by omega) hd.bd
    obtain ⟨q, e5, j, fd5, rfl, j0, j1, ok5⟩ := take_ok (n := n + 2) (m := 2) ok4 (by omega) (by omega) (by omega)
    refine ⟨_, e5, ?_⟩
    have ro : Rp 9 9000 (.tup [.w 14, .tup [.w 4, k1, k2], .int lo, .int hi]) := (rp4 (rp3 ka m2.rpk) (by omega) (by omega)).mono (by decide) (by decide)
    have rt : Rp 9 9000 (.tup [.w 4, .tup [.w 14, k1, .int lo, .int hi], .tup [.w 14, k2, .int lo, .int hi]]) := (rp3 (k4 lo hi (by omega) (by omega) ka) (k4 lo hi (by omega) (by omega) m2.rpk)).mono (by decide) (by decide)
    have t1 : ∀ {x : D} (i : Int), i.natAbs < 10 → Rp 3 1500 x → Rp 9 9000 (.tup [.w 4, .int i, x]) := fun i hi hx => (rp3 (rp_int 3 (by omega)) hx).mono (by decide) (by decide)
    have hj : j = 0 ∨ j = 1 := by omega
    rcases hj with rfl | rfl
    · walk_at "st"
      exact ⟨_, _, _, _, [], _, rfl, fun n => ⟨la_stt n _, la_stb n _, g_16t (m := 0) m1.eqr m2.eqr, g_16b (m := 0) m1.eqr m2.eqr⟩, told ⟨rp_none, ro, rt, t1 0 (by decide) ra, t1 0 (by decide) ra⟩, ok5.le (by omega)⟩
    · walk_at "st"
      exact ⟨_, _, _, _, [], _, rfl, fun n => ⟨la_stt n _, la_stb n _, g_16t (m := 0) m1.eqr m2.eqr, g_16b (m := 0) m1.eqr m2.eqr⟩, told ⟨rp_none, ro, rt, t1 1 (by decide) rb, t1 1 (by decide) rb⟩, ok5.le (by omega)⟩
  · cases hns : ns with
    | nil =>
      subst hns
      repeat (first | exact tail 15 rfl | walk_at "s1")
    | cons x r =>
      have hns' : ns = x :: r := hns
      subst hns
      walk_at "st"
      have lp : (0 : Int) < (((x :: r).map D.int).length : Int) := by rw [len, List.length_cons]; omega
      rw [decide_eq_true lp]
      walk_at "st"
      obtain ⟨q, e4, v2, fd4, rfl, w0, w1, ok4⟩ := take_ok (n := n + 2) (m := (((x :: r).map D.int).length : Nat)) ok3 (by omega) lp (by omega)
      refine ⟨_, e4, ?_⟩
      walk_at "st"
      rw [len] at w1
      have hv : v2.toNat < (x :: r).length := by omega
      have e : idxD (nms (x :: r)) (.int v2) = some (.int (x :: r)[v2.toNat]) := by
        show at_ ((x :: r).map D.int) v2 = _
        unfold at_
        rw [if_pos w0, List.getElem?_map, List.getElem?_eq_getElem hv]
        rfl
      refine ⟨_, e, ?_⟩
      walk_at "st"
      have hx : (x :: r)[v2.toNat].natAbs < 500 := hd _ (List.getElem_mem hv)
      have rs : Rp 9 9000 (.tup [.w 5, .int (x :: r)[v2.toNat], s1]) := (rp3 (rp_int 3 (by omega)) ra).mono (by decide) (by decide)
      have es : sizeW 15 (x :: r) = 15 := if_neg (fun z => nomatch z.2)
      exact ⟨_, _, _, _, [], _, rfl, fun n => by rw [es]; exact ⟨la_spt n _, la_spb n _, g_15t (m := 0) m1.eqr, g_15b (m := 0) m1.eqr⟩, told ⟨rp_none, (rp4 (rp2 ka) (by omega) (by omega)).mono (by decide) (by decide), (rp2 (k4 lo hi (by omega) (by omega) ka)).mono (by decide) (by decide), rs, rs⟩, ok4.le (by omega)⟩
  · repeat (first | exact tail 20 rfl | walk_at "s1")
end
section
theorem cut4 {a b c d e : D} : slD none (some 4) (.tup [a, b, c, d, e]) = some (.tup [a, b, c, d]) := by
  simp [slD, cut, clipI]
/-- the words of the law -/
def LW (w : Nat) : Prop := (w = 9 ∨ w = 18 ∨ w = 7) ∨ (w = 11 ∨ w = 10 ∨ w = 19 ∨ w = 12) ∨ (w = 17 ∨ w = 16 ∨ w = 15 ∨ w = 20) ∨ w = 21
theorem case_ok {n B w : Nat} {fd : D} (h : FeedOk B fd) (hB : B < 600000) (hw : LW w) :
    ∃ r, C (n + 5) 10 [(true, fd), (false, .w w)] = some r ∧ ∃ rules one other s t w' ex exb fd', r = ((false, .tup [rules, one, other, s, t, stp w' false ex, stp w' true exb]), [(true, fd'), (false, .w w)]) ∧ (∀ n, Good n rules one other s t w' ex exb) ∧ Told rules one other s t ∧ FeedOk (B + 300) fd' := by
  refine call_c (fn := f10) rfl rfl ?_
  walk_at "sv"
  obtain ⟨q, e1, ns, fd1, rfl, l1, hd, ok1⟩ := names_ok (n := n + 2) (most := 5) h (by omega) (by omega) (by omega)
  refine ⟨_, e1, ?_⟩
  have l1' : ns.length ≤ 5 := by omega
  rcases hw with hw | hw | hw | rfl
  · obtain ⟨q, e2, one, other, s, t, fd2, rfl, g, tl, ok2⟩ := this_ok (n := n) ok1 (by omega) (by omega) hd.bd hw
    rcases hw with rfl | rfl | rfl <;>
    · walk_at "sv"
      refine ⟨_, e2, ?_⟩
      walk_at "sv"
      refine ask cut4 ?_
      walk_at "sv"
      exact ⟨_, _, _, _, _, _, [], [], _, rfl, g, tl, ok2.le (by omega)⟩
  · obtain ⟨q, e2, one, other, s, t, fd2, rfl, g, tl, ok2⟩ := both_ok (n := n) ok1 (by omega) (by omega) hd.bd hw
    rcases hw with rfl | rfl | rfl | rfl <;>
    · walk_at "sv"
      refine ⟨_, e2, ?_⟩
      walk_at "sv"
      refine ask cut4 ?_
      walk_at "sv"
      exact ⟨_, _, _, _, _, _, [], [], _, rfl, g, tl, ok2.le (by omega)⟩
  · obtain ⟨q, e2, one, other, s, t, ex, fd2, rfl, g, tl, ok2⟩ := size_ok (n := n) ok1 (by omega) (by omega) hd hw
    rcases hw with rfl | rfl | rfl | rfl
    · walk_at "sv"
      refine ⟨_, e2, ?_⟩
      walk_at "sv"
      refine ask cut4 ?_
      walk_at "sv"
      exact ⟨_, _, _, _, _, _, ex, [], _, rfl, g, tl, ok2.le (by omega)⟩
    · walk_at "sv"
      refine ⟨_, e2, ?_⟩
      walk_at "sv"
      refine ask cut4 ?_
      walk_at "sv"
      exact ⟨_, _, _, _, _, _, ex, [], _, rfl, g, tl, ok2.le (by omega)⟩
    · cases ns with
      | nil =>
        walk_at "sv"
        refine ⟨_, e2, ?_⟩
        walk_at "sv"
        refine ask cut4 ?_
        walk_at "sv"
        exact ⟨_, _, _, _, _, _, ex, [], _, rfl, g, tl, ok2.le (by omega)⟩
      | cons x r =>
        walk_at "sv"
        refine ⟨_, e2, ?_⟩
        walk_at "sv"
        have ne : cmpD .eq (nms (x :: r)) (.tup []) = some false := by
          show (if (D.pl 500 (nms (x :: r)) && D.pl 500 (.tup [])) then some (D.eqv (nms (x :: r)) (.tup [])) else none) = _
          rw [pl_nms]
          rfl
        refine ⟨_, ne, ?_⟩
        walk_at "sv"
        refine ask cut4 ?_
        walk_at "sv"
        exact ⟨_, _, _, _, _, _, ex, [], _, rfl, fun n => by have := g n; rw [show sizeW 15 (x :: r) = 15 from if_neg (fun z => nomatch z.2)] at this; exact this, tl, ok2.le (by omega)⟩
    · walk_at "sv"
      refine ⟨_, e2, ?_⟩
      walk_at "sv"
      refine ask cut4 ?_
      walk_at "sv"
      exact ⟨_, _, _, _, _, _, ex, [], _, rfl, g, tl, ok2.le (by omega)⟩
  · walk_at "sv"
    obtain ⟨q, e2, k1, s1, fd2, rfl, m1, ok2⟩ := some_ok (n := n + 1) ok1 (by omega) (by omega) hd.bd
    refine ⟨_, e2, ?_⟩
    walk_at "sv"
    have ra := m1.rps (by omega) hd.bd
    have kt := m1.rpk
    exact ⟨_, _, _, _, _, 21, [], [.int 1], _, rfl, fun n => ⟨la_rt n s1, la_rb n s1, g_rt, g_rb m1.eqr⟩, told ⟨(rp_tup (rps_cons ((rp3 (rp1 22 2) (rp1 0 2)).mono (j' := 4) (by decide) (Nat.le_refl _)) (rps_cons (kt.mono (j' := 4) (by decide) (Nat.le_refl _)) rps_nil))).mono (by decide) (by decide), (rp2 (rp_int 0 (by decide))).mono (by decide) (by decide), kt.mono (by decide) (by decide), (rp3 (rp_int 3 (by decide)) ra).mono (by decide) (by decide), ra.mono (by decide) (by decide)⟩, ok2.le (by omega)⟩
end
section
theorem rep_tup {m : Nat} {xs : List D} (h : Rp 20 m (.tup xs)) (hm : m ≤ 90000) : biD .repr (.tup xs) = some (false, .rp (.tup xs)) := by
  show (if D.pl 500 (.tup xs) && D.small (.tup xs) && decide (D.wt (.tup xs) ≤ 90000) then some (false, D.rp (.tup xs)) else none) = _
  rw [h.pl 500 (by decide), h.sm, decide_eq_true (Nat.le_trans h.wt hm)]
  rfl
theorem Told5.rep {rules one other S T : D} (h : Told5 rules one other S T) : biD .repr (.tup [rules, one, other, S, T]) = some (false, .rp (.tup [rules, one, other, S, T])) :=
  rep_tup ((rp_tup (rps_cons h.r0 (rps_cons h.r1 (rps_cons h.r2 (rps_cons h.r3 (rps_cons h.r4 rps_nil)))))).mono (by decide) (Nat.le_refl _)) (by decide)
mutual
theorem same_refl : ∀ (d : D) (k : Nat), D.pl k d = true → D.same d d = true
  | .non, _, _ => rfl
  | .bl b, _, _ => beq_self_eq_true b
  | .int i, _, _ => beq_self_eq_true i
  | .w k, _, _ => beq_self_eq_true k
  | .tup xs, 0, h => nomatch h
  | .tup xs, k + 1, h => sames_refl xs k h
  | .lst xs, 0, h => nomatch h
  | .lst xs, k + 1, h => sames_refl xs k h
  | .rp d, k, h => by cases k <;> cases h
  | .scr d, k, h => by cases k <;> cases h
  | .dic l d, k, h => by cases k <;> cases h
theorem sames_refl : ∀ (l : List D) (k : Nat), D.pls k l = true → D.sames l l = true
  | [], _, _ => rfl
  | x :: r, k, h => by
    have e : D.pls k (x :: r) = (D.pl k x && D.pls k r) := by cases k <;> rfl
    rw [e, Bool.and_eq_true] at h
    show (D.same x x && D.sames r r) = true
    rw [same_refl x k h.1, sames_refl r k h.2]
    rfl
end
theorem ne_rep {d : D} (h : D.pl 500 d = true) : cmpD .ne (.rp d) (.rp d) = some false := by
  have e : eqTest (.rp d) (.rp d) = some true := by
    unfold eqTest
    show (if D.same d d then some true else none) = _
    rw [same_refl d 500 h]
    rfl
  show (eqTest (.rp d) (.rp d)).map (!·) = _
  rw [e]
  rfl
theorem slc63 (ns : List Int) : slD none (some 63) (.scr ns) = some (.lst ((cut ns none (some 63)).map D.int)) := by
  unfold slD
  rfl
theorem feed0 (n : Nat) (ns : List Int) : C (n + 1) 0 [(false, .scr ns)] = some ((true, feed (cut ns none (some 63)) 0 0 0), [(false, .scr ns)]) := by
  obtain ⟨r, h, rfl⟩ : ∃ r, C (n + 1) 0 [(false, .scr ns)] = some r ∧ r = ((true, feed (cut ns none (some 63)) 0 0 0), [(false, .scr ns)]) := by
    refine call_c (fn := f0) rfl rfl ?_
    refine ask (slc63 ns) ?_
    walk_at "st"
    rfl
  exact h
def words : D := .lst [.w 9, .w 18, .w 7, .w 11, .w 10, .w 19, .w 12, .w 17, .w 16, .w 15, .w 20, .w 21]
theorem word_at {v : Int} (h0 : 0 ≤ v) (h1 : v < 12) : ∃ w, idxD words (.int v) = some (.w w) ∧ LW w := by
  have : v = 0 ∨ v = 1 ∨ v = 2 ∨ v = 3 ∨ v = 4 ∨ v = 5 ∨ v = 6 ∨ v = 7 ∨ v = 8 ∨ v = 9 ∨ v = 10 ∨ v = 11 := by omega
  unfold LW
  rcases this with rfl | rfl | rfl | rfl | rfl | rfl | rfl | rfl | rfl | rfl | rfl | rfl <;> exact ⟨_, rfl, by decide⟩
def forB : ISs → ISs
  | .cons (.for_ _ _ b) _ => b
  | _ => .nil

theorem iter0 {n b : Nat} {fd x : D} {ns : List Int} {Q : Env → Flow → Prop} (hf : FeedOk b fd) (hb : b < 500000)
    (k : ∀ (fd' y3 y4 y5 y6 y7 y8 y9 y10 y11 y12 : D), FeedOk (b + 400) fd' → Q [some (.fro, .scr ns), some (.own, fd'), some (.own, words), some (.fro, y3), some (.fro, y4), some (.fro, y5), some (.fro, y6), some (.fro, y7), some (.fro, y8), some (.fro, y9), some (.fro, y10), some (.fro, y11), some (.fro, y12)] .nx) :
    putTK (.one 3) x [some (.fro, .scr ns), some (.own, fd), some (.own, words), none, none, none, none, none, none, none, none, none, none] (fun en1 => wSs (C (n + 7)) gv 40 (forB (dropS 3 f11.body)) Q en1) := by
  walk_at "st"
  obtain ⟨q, e1, v, fd1, rfl, v0, v1, ok1⟩ := take_ok (n := n + 6) (m := 12) hf (by omega) (by omega) (by omega)
  refine ⟨_, e1, ?_⟩
  obtain ⟨w, hw, lw⟩ := word_at v0 v1
  refine ⟨_, hw, ?_⟩
  walk_at "st"
  obtain ⟨q, e2, rules, one, other, s, t, w', ex, exb, fd2, rfl, g, tl, ok2⟩ := case_ok (n := n + 2) ok1 (by omega) lw
  refine ⟨_, e2, ?_⟩
  obtain ⟨ga, gb, gga, ggb⟩ := g n
  have L1 := led1 ga gga
  have L2 := led1 gb ggb
  obtain ⟨t5, ⟨sx, rfl⟩, tx, rfl⟩ := tl
  have R := t5.rep
  have RS := rep_tup (t5.r3.mono (by decide) (Nat.le_refl _)) (by decide)
  have RT := rep_tup (t5.r4.mono (by decide) (Nat.le_refl _)) (by decide)
  have NS := ne_rep (t5.r3.pl 500 (by decide))
  have NT := ne_rep (t5.r4.pl 500 (by decide))
  have N5 := ne_rep ((rp_tup (rps_cons t5.r0 (rps_cons t5.r1 (rps_cons t5.r2 (rps_cons t5.r3 (rps_cons t5.r4 rps_nil)))))).pl 500 (by decide))
  walk_at "st"
  refine ⟨_, R, ?_⟩
  walk_at "st"
  show wfor _ [.int 0, .int 1] _ _
  rw [wfor_c]
  walk_at "st"
  refine ⟨_, L1, ?_⟩
  refine ⟨_, RT, ?_⟩
  refine ⟨_, RT, ?_⟩
  refine ⟨_, NT, ?_⟩
  walk_at "st"
  refine ⟨_, L2, ?_⟩
  refine ⟨_, RS, ?_⟩
  refine ⟨_, RS, ?_⟩
  refine ⟨_, NS, ?_⟩
  walk_at "st"
  show wfor _ [.int 1] _ _
  rw [wfor_c]
  walk_at "st"
  refine ⟨_, L1, ?_⟩
  refine ⟨_, RT, ?_⟩
  refine ⟨_, RT, ?_⟩
  refine ⟨_, NT, ?_⟩
  walk_at "st"
  refine ⟨_, L2, ?_⟩
  refine ⟨_, RS, ?_⟩
  refine ⟨_, RS, ?_⟩
  refine ⟨_, NS, ?_⟩
  walk_at "st"
  show wfor _ [] _ _
  rw [wfor_n]
  refine ⟨_, R, ?_⟩
  refine ⟨_, N5, ?_⟩
  walk_at "st"
  refine ⟨_, led0 (n := n + 6), ?_⟩
  refine ⟨_, RS, ?_⟩
  refine ⟨_, RS, ?_⟩
  refine ⟨_, NS, ?_⟩
  walk_at "st"
  exact k _ _ _ _ _ _ _ _ _ _ _ (ok2.le (by omega))
theorem iter1 {n b : Nat} {fd x : D} {ns : List Int} {x3 x4 x5 x6 x7 x8 x9 x10 x11 x12 : D} {Q : Env → Flow → Prop} (hf : FeedOk b fd) (hb : b < 500000)
    (k : ∀ (fd' y3 y4 y5 y6 y7 y8 y9 y10 y11 y12 : D), FeedOk (b + 400) fd' → Q [some (.fro, .scr ns), some (.own, fd'), some (.own, words), some (.fro, y3), some (.fro, y4), some (.fro, y5), some (.fro, y6), some (.fro, y7), some (.fro, y8), some (.fro, y9), some (.fro, y10), some (.fro, y11), some (.fro, y12)] .nx) :
    putTK (.one 3) x [some (.fro, .scr ns), some (.own, fd), some (.own, words), some (.fro, x3), some (.fro, x4), some (.fro, x5), some (.fro, x6), some (.fro, x7), some (.fro, x8), some (.fro, x9), some (.fro, x10), some (.fro, x11), some (.fro, x12)] (fun en1 => wSs (C (n + 7)) gv 40 (forB (dropS 3 f11.body)) Q en1) := by
  walk_at "st"
  obtain ⟨q, e1, v, fd1, rfl, v0, v1, ok1⟩ := take_ok (n := n + 6) (m := 12) hf (by omega) (by omega) (by omega)
  refine ⟨_, e1, ?_⟩
  obtain ⟨w, hw, lw⟩ := word_at v0 v1
  refine ⟨_, hw, ?_⟩
  walk_at "st"
  obtain ⟨q, e2, rules, one, other, s, t, w', ex, exb, fd2, rfl, g, tl, ok2⟩ := case_ok (n := n + 2) ok1 (by omega) lw
  refine ⟨_, e2, ?_⟩
  obtain ⟨ga, gb, gga, ggb⟩ := g n
  have L1 := led1 ga gga
  have L2 := led1 gb ggb
  obtain ⟨t5, ⟨sx, rfl⟩, tx, rfl⟩ := tl
  have R := t5.rep
  have RS := rep_tup (t5.r3.mono (by decide) (Nat.le_refl _)) (by decide)
  have RT := rep_tup (t5.r4.mono (by decide) (Nat.le_refl _)) (by decide)
  have NS := ne_rep (t5.r3.pl 500 (by decide))
  have NT := ne_rep (t5.r4.pl 500 (by decide))
  have N5 := ne_rep ((rp_tup (rps_cons t5.r0 (rps_cons t5.r1 (rps_cons t5.r2 (rps_cons t5.r3 (rps_cons t5.r4 rps_nil)))))).pl 500 (by decide))
  walk_at "st"
  refine ⟨_, R, ?_⟩
  walk_at "st"
  show wfor _ [.int 0, .int 1] _ _
  rw [wfor_c]
  walk_at "st"
  refine ⟨_, L1, ?_⟩
  refine ⟨_, RT, ?_⟩
  refine ⟨_, RT, ?_⟩
  refine ⟨_, NT, ?_⟩
  walk_at "st"
  refine ⟨_, L2, ?_⟩
  refine ⟨_, RS, ?_⟩
  refine ⟨_, RS, ?_⟩
  refine ⟨_, NS, ?_⟩
  walk_at "st"
  show wfor _ [.int 1] _ _
  rw [wfor_c]
  walk_at "st"
  refine ⟨_, L1, ?_⟩
  refine ⟨_, RT, ?_⟩
  refine ⟨_, RT, ?_⟩
  refine ⟨_, NT, ?_⟩
  walk_at "st"
  refine ⟨_, L2, ?_⟩
  refine ⟨_, RS, ?_⟩
  refine ⟨_, RS, ?_⟩
  refine ⟨_, NS, ?_⟩
  walk_at "st"
  show wfor _ [] _ _
  rw [wfor_n]
  refine ⟨_, R, ?_⟩
  refine ⟨_, N5, ?_⟩
  walk_at "st"
  refine ⟨_, led0 (n := n + 6), ?_⟩
  refine ⟨_, RS, ?_⟩
  refine ⟨_, RS, ?_⟩
  refine ⟨_, NS, ?_⟩
  walk_at "st"
  exact k _ _ _ _ _ _ _ _ _ _ _ (ok2.le (by omega))
theorem law0 (ns : List Int) : ∃ ps, C 60 11 [(false, .scr ns)] = some ((false, .bl true), ps) := by
  obtain ⟨r, h, ps, rfl⟩ : ∃ r, C (52 + 8) 11 [(false, .scr ns)] = some r ∧ ∃ ps, r = ((false, .bl true), ps) := by
    refine call_c (fn := f11) rfl rfl ?_
    walk_at "st"
    refine ⟨_, feed0 58 ns, ?_⟩
    walk_at "st"
    show wfor _ [.int 0, .int 1, .int 2] _ _
    have F0 : FeedOk 0 (feed (cut ns none (some 63)) 0 0 0) := ⟨_, 0, 0, 0, rfl, by decide⟩
    rw [wfor_c]
    refine iter0 (n := 52) F0 (by decide) fun fd1 _ _ _ _ _ _ _ _ _ _ F1 => ?_
    show wfor _ [.int 1, .int 2] _ _
    rw [wfor_c]
    refine iter1 (n := 52) F1 (by decide) fun fd2 _ _ _ _ _ _ _ _ _ _ F2 => ?_
    show wfor _ [.int 2] _ _
    rw [wfor_c]
    refine iter1 (n := 52) F2 (by decide) fun fd3 _ _ _ _ _ _ _ _ _ _ F3 => ?_
    show wfor _ [] _ _
    rw [wfor_n]
    walk_at "st"
    exact ⟨_, rfl⟩
  exact ⟨ps, h⟩
end
theorem law_ok (ns : List Int) (_ : ns.length ≤ 63) : ∃ ps, callF lw.fns lw.gv 40 (59 + 1) 11 [(false, .scr ns)] = some ((false, .bl true), ps) := by
  have h := law0 ns
  unfold C at h
  exact h
end K60
open PySem PySem.W PyProof.Rows PD
set_option maxHeartbeats 0 in
theorem PySem.Challenge.cw_kindmakes_k60_led_by_moves_of_this_and_b_holds : PySem.Challenge.rw_kindmakes_k60_led_by_moves_of_this_and_b.Holds := by
  w_on; o_law; k_head; (case hw => w_witness2)
  k_fill
  refine PD.walkL (l := PySem.Challenge.rw_kindmakes_k60_led_by_moves_of_this_and_b) (wf := 40) (k := 59) (fi := 11) K60.lw rfl (by decide) rfl ⟨rfl, by decide, by decide⟩ (fun w h Y => PySem.W.kIn_of Y) K60.wok rfl ?T K60.law_ok
  case T =>
    intro w
    refine' K60.tops ?b ?h0 ?h1 ?h2 ?h3 ?h4 ?h5 ?d0 ?d1 ?d2 ?d3 ?d4 ?d5 ?d6 ?d7 ?d8 ?d9 ?d10 ?d11 ?d12 ?d13 ?d14 ?d15 ?d16 ?d17 ?d18 ?d19 ?d20 ?d21 ?d22 ?d23 ?d24 ?d25 ?d26 ?d27 ?d28 ?d29
    case b => repeat' (first | exact PD.bltK_nil | refine PD.bltK_cons ?_ ?_ | k_is)
    case h0 => refine' PD.glK_mk ?ga0 ?gr0; (case ga0 => k_is); (case gr0 => (refine' PD.repK_tup ?l1 ?s1 ?r1; (case l1 => k_is); (case s1 => exact (by decide)); (case r1 => (refine' PD.repsK_cons ?e1_0 (PD.repsK_cons ?e1_1 (PD.repsK_cons ?e1_2 (PD.repsK_cons ?e1_3 (PD.repsK_cons ?e1_4 (PD.repsK_cons ?e1_5 (PD.repsK_cons ?e1_6 (PD.repsK_cons ?e1_7 PD.repsK_nil))))))); (case e1_0 => exact PD.repK_w rfl); (case e1_1 => exact PD.repK_w rfl); (case e1_2 => exact PD.repK_w rfl); (case e1_3 => exact PD.repK_w rfl); (case e1_4 => exact PD.repK_w rfl); (case e1_5 => exact PD.repK_w rfl); (case e1_6 => exact PD.repK_w rfl); (case e1_7 => exact PD.repK_w rfl)))))
    case h1 => refine' PD.glK_mk ?ga1 ?gr1; (case ga1 => k_is); (case gr1 => (refine' PD.repK_tup ?l2 ?s2 ?r2; (case l2 => k_is); (case s2 => exact (by decide)); (case r2 => (refine' PD.repsK_cons ?e2_0 (PD.repsK_cons ?e2_1 (PD.repsK_cons ?e2_2 (PD.repsK_cons ?e2_3 (PD.repsK_cons ?e2_4 (PD.repsK_cons ?e2_5 (PD.repsK_cons ?e2_6 (PD.repsK_cons ?e2_7 (PD.repsK_cons ?e2_8 PD.repsK_nil)))))))); (case e2_0 => exact PD.repK_w rfl); (case e2_1 => exact PD.repK_w rfl); (case e2_2 => exact PD.repK_w rfl); (case e2_3 => exact PD.repK_w rfl); (case e2_4 => exact PD.repK_w rfl); (case e2_5 => exact PD.repK_w rfl); (case e2_6 => exact PD.repK_w rfl); (case e2_7 => exact PD.repK_w rfl); (case e2_8 => exact PD.repK_w rfl)))))
    case h2 => refine' PD.glK_mk ?ga2 ?gr2; (case ga2 => k_is); (case gr2 => (refine' PD.repK_tup ?l3 ?s3 ?r3; (case l3 => k_is); (case s3 => exact (by decide)); (case r3 => (refine' PD.repsK_cons ?e3_0 (PD.repsK_cons ?e3_1 (PD.repsK_cons ?e3_2 (PD.repsK_cons ?e3_3 (PD.repsK_cons ?e3_4 (PD.repsK_cons ?e3_5 (PD.repsK_cons ?e3_6 (PD.repsK_cons ?e3_7 PD.repsK_nil))))))); (case e3_0 => exact PD.repK_w rfl); (case e3_1 => exact PD.repK_w rfl); (case e3_2 => exact PD.repK_w rfl); (case e3_3 => exact PD.repK_w rfl); (case e3_4 => exact PD.repK_w rfl); (case e3_5 => exact PD.repK_w rfl); (case e3_6 => exact PD.repK_w rfl); (case e3_7 => exact PD.repK_w rfl)))))
    case h3 => refine' PD.glK_mk ?ga3 ?gr3; (case ga3 => k_is); (case gr3 => (refine' PD.repK_tup ?l4 ?s4 ?r4; (case l4 => k_is); (case s4 => exact (by decide)); (case r4 => (refine' PD.repsK_cons ?e4_0 (PD.repsK_cons ?e4_1 (PD.repsK_cons ?e4_2 (PD.repsK_cons ?e4_3 (PD.repsK_cons ?e4_4 PD.repsK_nil)))); (case e4_0 => exact PD.repK_w rfl); (case e4_1 => exact PD.repK_w rfl); (case e4_2 => exact PD.repK_w rfl); (case e4_3 => exact PD.repK_w rfl); (case e4_4 => exact PD.repK_w rfl)))))
    case h4 => refine' PD.glK_mk ?ga4 ?gr4; (case ga4 => k_is); (case gr4 => exact PD.repK_int)
    case h5 =>
      refine' PD.dcK_mk ?da5 ?dl5 ?dt5 ?de5; (case da5 => k_is); (case dl5 => k_is)
      case dt5 => repeat' (first | exact True.intro | refine ⟨⟨_, _, rfl, rfl⟩, ?_⟩)
      case de5 =>
        refine' PD.EntK.cons ?w5_0 ?k5_0 ?v5_0 (PD.EntK.cons ?w5_1 ?k5_1 ?v5_1 (PD.EntK.cons ?w5_2 ?k5_2 ?v5_2 (PD.EntK.cons ?w5_3 ?k5_3 ?v5_3 (PD.EntK.cons ?w5_4 ?k5_4 ?v5_4 (PD.EntK.cons ?w5_5 ?k5_5 ?v5_5 (PD.EntK.cons ?w5_6 ?k5_6 ?v5_6 (PD.EntK.cons ?w5_7 ?k5_7 ?v5_7 (PD.EntK.cons ?w5_8 ?k5_8 ?v5_8 (PD.EntK.cons ?w5_9 ?k5_9 ?v5_9 (PD.EntK.cons ?w5_10 ?k5_10 ?v5_10 (PD.EntK.nil)))))))))))
        (case w5_0 => rfl); (case k5_0 => k_is); (case v5_0 => (refine' PD.repK_tup ?l5 ?s5 ?r5; (case l5 => k_is); (case s5 => exact (by decide)); (case r5 => (refine' PD.repsK_cons ?e5_0 (PD.repsK_cons ?e5_1 PD.repsK_nil); (case e5_0 => (refine' PD.repK_tup ?l6 ?s6 ?r6; (case l6 => k_is); (case s6 => exact (by decide)); (case r6 => (refine' PD.repsK_cons ?e6_0 (PD.repsK_cons ?e6_1 (PD.repsK_cons ?e6_2 PD.repsK_nil)); (case e6_0 => exact PD.repK_w rfl); (case e6_1 => exact PD.repK_w rfl); (case e6_2 => exact PD.repK_w rfl))))); (case e5_1 => (refine' PD.repK_tup ?l7 ?s7 ?r7; (case l7 => k_is); (case s7 => exact (by decide)); (case r7 => (refine' PD.repsK_cons ?e7_0 (PD.repsK_cons ?e7_1 (PD.repsK_cons ?e7_2 PD.repsK_nil)); (case e7_0 => exact PD.repK_w rfl); (case e7_1 => exact PD.repK_w rfl); (case e7_2 => exact PD.repK_w rfl)))))))))
        (case w5_1 => rfl); (case k5_1 => k_is); (case v5_1 => (refine' PD.repK_tup ?l8 ?s8 ?r8; (case l8 => k_is); (case s8 => exact (by decide)); (case r8 => (refine' PD.repsK_cons ?e8_0 (PD.repsK_cons ?e8_1 PD.repsK_nil); (case e8_0 => (refine' PD.repK_tup ?l9 ?s9 ?r9; (case l9 => k_is); (case s9 => exact (by decide)); (case r9 => (refine' PD.repsK_cons ?e9_0 (PD.repsK_cons ?e9_1 (PD.repsK_cons ?e9_2 PD.repsK_nil)); (case e9_0 => exact PD.repK_w rfl); (case e9_1 => (refine' PD.repK_tup ?l10 ?s10 ?r10; (case l10 => k_is); (case s10 => exact (by decide)); (case r10 => (refine' PD.repsK_cons ?e10_0 (PD.repsK_cons ?e10_1 (PD.repsK_cons ?e10_2 PD.repsK_nil)); (case e10_0 => exact PD.repK_w rfl); (case e10_1 => exact PD.repK_w rfl); (case e10_2 => exact PD.repK_w rfl))))); (case e9_2 => exact PD.repK_w rfl))))); (case e8_1 => (refine' PD.repK_tup ?l11 ?s11 ?r11; (case l11 => k_is); (case s11 => exact (by decide)); (case r11 => (refine' PD.repsK_cons ?e11_0 (PD.repsK_cons ?e11_1 (PD.repsK_cons ?e11_2 PD.repsK_nil)); (case e11_0 => exact PD.repK_w rfl); (case e11_1 => exact PD.repK_w rfl); (case e11_2 => (refine' PD.repK_tup ?l12 ?s12 ?r12; (case l12 => k_is); (case s12 => exact (by decide)); (case r12 => (refine' PD.repsK_cons ?e12_0 (PD.repsK_cons ?e12_1 (PD.repsK_cons ?e12_2 PD.repsK_nil)); (case e12_0 => exact PD.repK_w rfl); (case e12_1 => exact PD.repK_w rfl); (case e12_2 => exact PD.repK_w rfl)))))))))))))
        (case w5_2 => rfl); (case k5_2 => k_is); (case v5_2 => (refine' PD.repK_tup ?l13 ?s13 ?r13; (case l13 => k_is); (case s13 => exact (by decide)); (case r13 => (refine' PD.repsK_cons ?e13_0 (PD.repsK_cons ?e13_1 PD.repsK_nil); (case e13_0 => (refine' PD.repK_tup ?l14 ?s14 ?r14; (case l14 => k_is); (case s14 => exact (by decide)); (case r14 => (refine' PD.repsK_cons ?e14_0 (PD.repsK_cons ?e14_1 (PD.repsK_cons ?e14_2 PD.repsK_nil)); (case e14_0 => exact PD.repK_w rfl); (case e14_1 => exact PD.repK_w rfl); (case e14_2 => exact PD.repK_w rfl))))); (case e13_1 => (refine' PD.repK_tup ?l15 ?s15 ?r15; (case l15 => k_is); (case s15 => exact (by decide)); (case r15 => (refine' PD.repsK_cons ?e15_0 (PD.repsK_cons ?e15_1 (PD.repsK_cons ?e15_2 PD.repsK_nil)); (case e15_0 => exact PD.repK_w rfl); (case e15_1 => exact PD.repK_w rfl); (case e15_2 => exact PD.repK_w rfl)))))))))
        (case w5_3 => rfl); (case k5_3 => k_is); (case v5_3 => (refine' PD.repK_tup ?l16 ?s16 ?r16; (case l16 => k_is); (case s16 => exact (by decide)); (case r16 => (refine' PD.repsK_cons ?e16_0 (PD.repsK_cons ?e16_1 PD.repsK_nil); (case e16_0 => (refine' PD.repK_tup ?l17 ?s17 ?r17; (case l17 => k_is); (case s17 => exact (by decide)); (case r17 => (refine' PD.repsK_cons ?e17_0 (PD.repsK_cons ?e17_1 (PD.repsK_cons ?e17_2 PD.repsK_nil)); (case e17_0 => exact PD.repK_w rfl); (case e17_1 => (refine' PD.repK_tup ?l18 ?s18 ?r18; (case l18 => k_is); (case s18 => exact (by decide)); (case r18 => (refine' PD.repsK_cons ?e18_0 (PD.repsK_cons ?e18_1 (PD.repsK_cons ?e18_2 PD.repsK_nil)); (case e18_0 => exact PD.repK_w rfl); (case e18_1 => exact PD.repK_w rfl); (case e18_2 => exact PD.repK_w rfl))))); (case e17_2 => exact PD.repK_w rfl))))); (case e16_1 => (refine' PD.repK_tup ?l19 ?s19 ?r19; (case l19 => k_is); (case s19 => exact (by decide)); (case r19 => (refine' PD.repsK_cons ?e19_0 (PD.repsK_cons ?e19_1 (PD.repsK_cons ?e19_2 PD.repsK_nil)); (case e19_0 => exact PD.repK_w rfl); (case e19_1 => exact PD.repK_w rfl); (case e19_2 => (refine' PD.repK_tup ?l20 ?s20 ?r20; (case l20 => k_is); (case s20 => exact (by decide)); (case r20 => (refine' PD.repsK_cons ?e20_0 (PD.repsK_cons ?e20_1 (PD.repsK_cons ?e20_2 PD.repsK_nil)); (case e20_0 => exact PD.repK_w rfl); (case e20_1 => exact PD.repK_w rfl); (case e20_2 => exact PD.repK_w rfl)))))))))))))
        (case w5_4 => rfl); (case k5_4 => k_is); (case v5_4 => (refine' PD.repK_tup ?l21 ?s21 ?r21; (case l21 => k_is); (case s21 => exact (by decide)); (case r21 => (refine' PD.repsK_cons ?e21_0 (PD.repsK_cons ?e21_1 PD.repsK_nil); (case e21_0 => (refine' PD.repK_tup ?l22 ?s22 ?r22; (case l22 => k_is); (case s22 => exact (by decide)); (case r22 => (refine' PD.repsK_cons ?e22_0 (PD.repsK_cons ?e22_1 (PD.repsK_cons ?e22_2 PD.repsK_nil)); (case e22_0 => exact PD.repK_w rfl); (case e22_1 => exact PD.repK_w rfl); (case e22_2 => (refine' PD.repK_tup ?l23 ?s23 ?r23; (case l23 => k_is); (case s23 => exact (by decide)); (case r23 => (refine' PD.repsK_cons ?e23_0 (PD.repsK_cons ?e23_1 (PD.repsK_cons ?e23_2 PD.repsK_nil)); (case e23_0 => exact PD.repK_w rfl); (case e23_1 => exact PD.repK_w rfl); (case e23_2 => exact PD.repK_w rfl))))))))); (case e21_1 => (refine' PD.repK_tup ?l24 ?s24 ?r24; (case l24 => k_is); (case s24 => exact (by decide)); (case r24 => (refine' PD.repsK_cons ?e24_0 (PD.repsK_cons ?e24_1 (PD.repsK_cons ?e24_2 PD.repsK_nil)); (case e24_0 => exact PD.repK_w rfl); (case e24_1 => (refine' PD.repK_tup ?l25 ?s25 ?r25; (case l25 => k_is); (case s25 => exact (by decide)); (case r25 => (refine' PD.repsK_cons ?e25_0 (PD.repsK_cons ?e25_1 (PD.repsK_cons ?e25_2 PD.repsK_nil)); (case e25_0 => exact PD.repK_w rfl); (case e25_1 => exact PD.repK_w rfl); (case e25_2 => exact PD.repK_w rfl))))); (case e24_2 => (refine' PD.repK_tup ?l26 ?s26 ?r26; (case l26 => k_is); (case s26 => exact (by decide)); (case r26 => (refine' PD.repsK_cons ?e26_0 (PD.repsK_cons ?e26_1 (PD.repsK_cons ?e26_2 PD.repsK_nil)); (case e26_0 => exact PD.repK_w rfl); (case e26_1 => exact PD.repK_w rfl); (case e26_2 => exact PD.repK_w rfl)))))))))))))
        (case w5_5 => rfl); (case k5_5 => k_is); (case v5_5 => (refine' PD.repK_tup ?l27 ?s27 ?r27; (case l27 => k_is); (case s27 => exact (by decide)); (case r27 => (refine' PD.repsK_cons ?e27_0 (PD.repsK_cons ?e27_1 PD.repsK_nil); (case e27_0 => (refine' PD.repK_tup ?l28 ?s28 ?r28; (case l28 => k_is); (case s28 => exact (by decide)); (case r28 => (refine' PD.repsK_cons ?e28_0 (PD.repsK_cons ?e28_1 (PD.repsK_cons ?e28_2 PD.repsK_nil)); (case e28_0 => exact PD.repK_w rfl); (case e28_1 => (refine' PD.repK_tup ?l29 ?s29 ?r29; (case l29 => k_is); (case s29 => exact (by decide)); (case r29 => (refine' PD.repsK_cons ?e29_0 PD.repsK_nil; (case e29_0 => exact PD.repK_w rfl))))); (case e28_2 => exact PD.repK_w rfl))))); (case e27_1 => exact PD.repK_w rfl)))))
        (case w5_6 => rfl); (case k5_6 => k_is); (case v5_6 => (refine' PD.repK_tup ?l30 ?s30 ?r30; (case l30 => k_is); (case s30 => exact (by decide)); (case r30 => (refine' PD.repsK_cons ?e30_0 (PD.repsK_cons ?e30_1 PD.repsK_nil); (case e30_0 => (refine' PD.repK_tup ?l31 ?s31 ?r31; (case l31 => k_is); (case s31 => exact (by decide)); (case r31 => (refine' PD.repsK_cons ?e31_0 (PD.repsK_cons ?e31_1 (PD.repsK_cons ?e31_2 PD.repsK_nil)); (case e31_0 => exact PD.repK_w rfl); (case e31_1 => (refine' PD.repK_tup ?l32 ?s32 ?r32; (case l32 => k_is); (case s32 => exact (by decide)); (case r32 => (refine' PD.repsK_cons ?e32_0 PD.repsK_nil; (case e32_0 => exact PD.repK_w rfl))))); (case e31_2 => exact PD.repK_w rfl))))); (case e30_1 => exact PD.repK_w rfl)))))
        (case w5_7 => rfl); (case k5_7 => k_is); (case v5_7 => (refine' PD.repK_tup ?l33 ?s33 ?r33; (case l33 => k_is); (case s33 => exact (by decide)); (case r33 => (refine' PD.repsK_cons ?e33_0 (PD.repsK_cons ?e33_1 PD.repsK_nil); (case e33_0 => (refine' PD.repK_tup ?l34 ?s34 ?r34; (case l34 => k_is); (case s34 => exact (by decide)); (case r34 => (refine' PD.repsK_cons ?e34_0 (PD.repsK_cons ?e34_1 (PD.repsK_cons ?e34_2 (PD.repsK_cons ?e34_3 PD.repsK_nil))); (case e34_0 => exact PD.repK_w rfl); (case e34_1 => exact PD.repK_w rfl); (case e34_2 => exact PD.repK_w rfl); (case e34_3 => exact PD.repK_w rfl))))); (case e33_1 => (refine' PD.repK_tup ?l35 ?s35 ?r35; (case l35 => k_is); (case s35 => exact (by decide)); (case r35 => (refine' PD.repsK_cons ?e35_0 (PD.repsK_cons ?e35_1 (PD.repsK_cons ?e35_2 PD.repsK_nil)); (case e35_0 => exact PD.repK_w rfl); (case e35_1 => (refine' PD.repK_tup ?l36 ?s36 ?r36; (case l36 => k_is); (case s36 => exact (by decide)); (case r36 => (refine' PD.repsK_cons ?e36_0 (PD.repsK_cons ?e36_1 (PD.repsK_cons ?e36_2 (PD.repsK_cons ?e36_3 PD.repsK_nil))); (case e36_0 => exact PD.repK_w rfl); (case e36_1 => exact PD.repK_w rfl); (case e36_2 => exact PD.repK_w rfl); (case e36_3 => exact PD.repK_w rfl))))); (case e35_2 => (refine' PD.repK_tup ?l37 ?s37 ?r37; (case l37 => k_is); (case s37 => exact (by decide)); (case r37 => (refine' PD.repsK_cons ?e37_0 (PD.repsK_cons ?e37_1 (PD.repsK_cons ?e37_2 (PD.repsK_cons ?e37_3 PD.repsK_nil))); (case e37_0 => exact PD.repK_w rfl); (case e37_1 => exact PD.repK_w rfl); (case e37_2 => exact PD.repK_w rfl); (case e37_3 => exact PD.repK_w rfl)))))))))))))
        (case w5_8 => rfl); (case k5_8 => k_is); (case v5_8 => (refine' PD.repK_tup ?l38 ?s38 ?r38; (case l38 => k_is); (case s38 => exact (by decide)); (case r38 => (refine' PD.repsK_cons ?e38_0 (PD.repsK_cons ?e38_1 PD.repsK_nil); (case e38_0 => (refine' PD.repK_tup ?l39 ?s39 ?r39; (case l39 => k_is); (case s39 => exact (by decide)); (case r39 => (refine' PD.repsK_cons ?e39_0 (PD.repsK_cons ?e39_1 (PD.repsK_cons ?e39_2 (PD.repsK_cons ?e39_3 PD.repsK_nil))); (case e39_0 => exact PD.repK_w rfl); (case e39_1 => (refine' PD.repK_tup ?l40 ?s40 ?r40; (case l40 => k_is); (case s40 => exact (by decide)); (case r40 => (refine' PD.repsK_cons ?e40_0 (PD.repsK_cons ?e40_1 (PD.repsK_cons ?e40_2 PD.repsK_nil)); (case e40_0 => exact PD.repK_w rfl); (case e40_1 => exact PD.repK_w rfl); (case e40_2 => exact PD.repK_w rfl))))); (case e39_2 => exact PD.repK_w rfl); (case e39_3 => exact PD.repK_w rfl))))); (case e38_1 => (refine' PD.repK_tup ?l41 ?s41 ?r41; (case l41 => k_is); (case s41 => exact (by decide)); (case r41 => (refine' PD.repsK_cons ?e41_0 (PD.repsK_cons ?e41_1 (PD.repsK_cons ?e41_2 PD.repsK_nil)); (case e41_0 => exact PD.repK_w rfl); (case e41_1 => (refine' PD.repK_tup ?l42 ?s42 ?r42; (case l42 => k_is); (case s42 => exact (by decide)); (case r42 => (refine' PD.repsK_cons ?e42_0 (PD.repsK_cons ?e42_1 (PD.repsK_cons ?e42_2 (PD.repsK_cons ?e42_3 PD.repsK_nil))); (case e42_0 => exact PD.repK_w rfl); (case e42_1 => exact PD.repK_w rfl); (case e42_2 => exact PD.repK_w rfl); (case e42_3 => exact PD.repK_w rfl))))); (case e41_2 => (refine' PD.repK_tup ?l43 ?s43 ?r43; (case l43 => k_is); (case s43 => exact (by decide)); (case r43 => (refine' PD.repsK_cons ?e43_0 (PD.repsK_cons ?e43_1 (PD.repsK_cons ?e43_2 (PD.repsK_cons ?e43_3 PD.repsK_nil))); (case e43_0 => exact PD.repK_w rfl); (case e43_1 => exact PD.repK_w rfl); (case e43_2 => exact PD.repK_w rfl); (case e43_3 => exact PD.repK_w rfl)))))))))))))
        (case w5_9 => rfl); (case k5_9 => k_is); (case v5_9 => (refine' PD.repK_tup ?l44 ?s44 ?r44; (case l44 => k_is); (case s44 => exact (by decide)); (case r44 => (refine' PD.repsK_cons ?e44_0 (PD.repsK_cons ?e44_1 PD.repsK_nil); (case e44_0 => (refine' PD.repK_tup ?l45 ?s45 ?r45; (case l45 => k_is); (case s45 => exact (by decide)); (case r45 => (refine' PD.repsK_cons ?e45_0 (PD.repsK_cons ?e45_1 (PD.repsK_cons ?e45_2 (PD.repsK_cons ?e45_3 PD.repsK_nil))); (case e45_0 => exact PD.repK_w rfl); (case e45_1 => (refine' PD.repK_tup ?l46 ?s46 ?r46; (case l46 => k_is); (case s46 => exact (by decide)); (case r46 => (refine' PD.repsK_cons ?e46_0 (PD.repsK_cons ?e46_1 PD.repsK_nil); (case e46_0 => exact PD.repK_w rfl); (case e46_1 => exact PD.repK_w rfl))))); (case e45_2 => exact PD.repK_w rfl); (case e45_3 => exact PD.repK_w rfl))))); (case e44_1 => (refine' PD.repK_tup ?l47 ?s47 ?r47; (case l47 => k_is); (case s47 => exact (by decide)); (case r47 => (refine' PD.repsK_cons ?e47_0 (PD.repsK_cons ?e47_1 PD.repsK_nil); (case e47_0 => exact PD.repK_w rfl); (case e47_1 => (refine' PD.repK_tup ?l48 ?s48 ?r48; (case l48 => k_is); (case s48 => exact (by decide)); (case r48 => (refine' PD.repsK_cons ?e48_0 (PD.repsK_cons ?e48_1 (PD.repsK_cons ?e48_2 (PD.repsK_cons ?e48_3 PD.repsK_nil))); (case e48_0 => exact PD.repK_w rfl); (case e48_1 => exact PD.repK_w rfl); (case e48_2 => exact PD.repK_w rfl); (case e48_3 => exact PD.repK_w rfl)))))))))))))
        (case w5_10 => rfl); (case k5_10 => k_is); (case v5_10 => (refine' PD.repK_tup ?l49 ?s49 ?r49; (case l49 => k_is); (case s49 => exact (by decide)); (case r49 => (refine' PD.repsK_cons ?e49_0 (PD.repsK_cons ?e49_1 PD.repsK_nil); (case e49_0 => (refine' PD.repK_tup ?l50 ?s50 ?r50; (case l50 => k_is); (case s50 => exact (by decide)); (case r50 => (refine' PD.repsK_cons ?e50_0 (PD.repsK_cons ?e50_1 (PD.repsK_cons ?e50_2 (PD.repsK_cons ?e50_3 PD.repsK_nil))); (case e50_0 => exact PD.repK_w rfl); (case e50_1 => (refine' PD.repK_tup ?l51 ?s51 ?r51; (case l51 => k_is); (case s51 => exact (by decide)); (case r51 => (refine' PD.repsK_cons ?e51_0 (PD.repsK_cons ?e51_1 PD.repsK_nil); (case e51_0 => exact PD.repK_w rfl); (case e51_1 => exact PD.repK_w rfl))))); (case e50_2 => exact PD.repK_w rfl); (case e50_3 => exact PD.repK_w rfl))))); (case e49_1 => (refine' PD.repK_tup ?l52 ?s52 ?r52; (case l52 => k_is); (case s52 => exact (by decide)); (case r52 => (refine' PD.repsK_cons ?e52_0 (PD.repsK_cons ?e52_1 PD.repsK_nil); (case e52_0 => exact PD.repK_w rfl); (case e52_1 => (refine' PD.repK_tup ?l53 ?s53 ?r53; (case l53 => k_is); (case s53 => exact (by decide)); (case r53 => (refine' PD.repsK_cons ?e53_0 (PD.repsK_cons ?e53_1 (PD.repsK_cons ?e53_2 (PD.repsK_cons ?e53_3 PD.repsK_nil))); (case e53_0 => exact PD.repK_w rfl); (case e53_1 => exact PD.repK_w rfl); (case e53_2 => exact PD.repK_w rfl); (case e53_3 => exact PD.repK_w rfl)))))))))))))
    case d0 => refine' PD.defK_mk ?a ?l ?c ?k; (case a => k_is); (case l => k_is); (case c => k_is); (case k => k_is)
    case d1 => refine' PD.defK_mk ?a ?l ?c ?k; (case a => k_is); (case l => k_is); (case c => k_is); (case k => k_is)
    case d2 => refine' PD.defK_mk ?a ?l ?c ?k; (case a => k_is); (case l => k_is); (case c => k_is); (case k => k_is)
    case d3 => refine' PD.defK_mk ?a ?l ?c ?k; (case a => k_is); (case l => k_is); (case c => k_is); (case k => k_is)
    case d4 => refine' PD.defK_mk ?a ?l ?c ?k; (case a => k_is); (case l => k_is); (case c => k_is); (case k => k_is)
    case d5 => refine' PD.defK_mk ?a ?l ?c ?k; (case a => k_is); (case l => k_is); (case c => k_is); (case k => k_is)
    case d6 => refine' PD.defK_mk ?a ?l ?c ?k; (case a => k_is); (case l => k_is); (case c => k_is); (case k => k_is)
    case d7 => refine' PD.defK_mk ?a ?l ?c ?k; (case a => k_is); (case l => k_is); (case c => k_is); (case k => k_is)
    case d8 => refine' PD.defK_mk ?a ?l ?c ?k; (case a => k_is); (case l => k_is); (case c => k_is); (case k => k_is)
    case d9 => refine' PD.defK_mk ?a ?l ?c ?k; (case a => k_is); (case l => k_is); (case c => k_is); (case k => k_is)
    case d10 => refine' PD.defK_mk ?a ?l ?c ?k; (case a => k_is); (case l => k_is); (case c => k_is); (case k => k_is)
    case d11 => refine' PD.defK_mk ?a ?l ?c ?k; (case a => k_is); (case l => k_is); (case c => k_is); (case k => k_is)
    case d12 => refine' PD.defK_mk ?a ?l ?c ?k; (case a => k_is); (case l => k_is); (case c => k_is); (case k => k_is)
    case d13 => refine' PD.defK_mk ?a ?l ?c ?k; (case a => k_is); (case l => k_is); (case c => k_is); (case k => k_is)
    case d14 => refine' PD.defK_mk ?a ?l ?c ?k; (case a => k_is); (case l => k_is); (case c => k_is); (case k => k_is)
    case d15 => refine' PD.defK_mk ?a ?l ?c ?k; (case a => k_is); (case l => k_is); (case c => k_is); (case k => k_is)
    case d16 => refine' PD.defK_mk ?a ?l ?c ?k; (case a => k_is); (case l => k_is); (case c => k_is); (case k => k_is)
    case d17 => refine' PD.defK_mk ?a ?l ?c ?k; (case a => k_is); (case l => k_is); (case c => k_is); (case k => k_is)
    case d18 => refine' PD.defK_mk ?a ?l ?c ?k; (case a => k_is); (case l => k_is); (case c => k_is); (case k => k_is)
    case d19 => refine' PD.defK_mk ?a ?l ?c ?k; (case a => k_is); (case l => k_is); (case c => k_is); (case k => k_is)
    case d20 => refine' PD.defK_mk ?a ?l ?c ?k; (case a => k_is); (case l => k_is); (case c => k_is); (case k => k_is)
    case d21 => refine' PD.defK_mk ?a ?l ?c ?k; (case a => k_is); (case l => k_is); (case c => k_is); (case k => k_is)
    case d22 => refine' PD.defK_mk ?a ?l ?c ?k; (case a => k_is); (case l => k_is); (case c => k_is); (case k => k_is)
    case d23 => refine' PD.defK_mk ?a ?l ?c ?k; (case a => k_is); (case l => k_is); (case c => k_is); (case k => k_is)
    case d24 => refine' PD.defK_mk ?a ?l ?c ?k; (case a => k_is); (case l => k_is); (case c => k_is); (case k => k_is)
    case d25 => refine' PD.defK_mk ?a ?l ?c ?k; (case a => k_is); (case l => k_is); (case c => k_is); (case k => k_is)
    case d26 => refine' PD.defK_mk ?a ?l ?c ?k; (case a => k_is); (case l => k_is); (case c => k_is); (case k => k_is)
    case d27 => refine' PD.defK_mk ?a ?l ?c ?k; (case a => k_is); (case l => k_is); (case c => k_is); (case k => k_is)
    case d28 => refine' PD.defK_mk ?a ?l ?c ?k; (case a => k_is); (case l => k_is); (case c => k_is); (case k => k_is)
    case d29 => refine' PD.defK_mk ?a ?l ?c ?k; (case a => k_is); (case l => k_is); (case c => k_is); (case k => k_is)
#print axioms PySem.Challenge.cw_kindmakes_k60_led_by_moves_of_this_and_b_holds
