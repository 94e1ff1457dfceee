import PyProof.Rows.All
import Wide.All
import OpenK.AllK
import Wide.FinOn
import HandS.Words
import HandS.Head0
import HandS.Head1
import HandS.Head2
import HandS.HeadHook1
import HandS.HeadHook2
import HandS.HeadHook3
import HandS.ForMost
import HandS.Conv
import HandS.SortInts
import HandS.TupAny
import HandS.TupMul
import HandS.Deep
import HandS.IsInst
import HandS.More
import HandS.Style
import PyProof.FactsAll.tuple_2
import HandS.Exc
import HandS.ExcOwn
import HandS.ExcInit
import HandS.ExcField
import HandS.ExcIs
import HandS.WordsExc
import HandS.WrittenGet
import KE.DataMinMax
import HandS.SortKw
import HandS.SetFor
import HandS.Strs
import HandS.Dict
import HandS.NoneIn
import HandS.Small
import KE.KExcIs
import HandS.Codes
import PySem.Challenge.RW_kindmakes_k59_too_wide_or_not_right
set_option Elab.async false
set_option linter.all false
set_option maxRecDepth 100000
set_option maxHeartbeats 4000000
/-! A small language of data: plain Lean, no program in sight. -/
namespace PD
inductive DK where
  | i (n : Int) | w (k : Nat)
  deriving DecidableEq, Repr
/-- data: w k is the k-th word of a table, rp d the text that repr tells of d -/
inductive D where
  | non | bl (b : Bool) | int (i : Int) | w (k : Nat) | rp (d : D) | scr (ns : List Int) | tup (xs : List D) | lst (xs : List D) | dic (ks : List DK) (vs : List D)
  deriving Repr
mutual
def D.same : D → D → Bool
  | .non, .non => true
  | .bl a, .bl b => a == b
  | .int a, .int b => a == b
  | .w a, .w b => a == b
  | .rp a, .rp b => D.same a b
  | .tup a, .tup b => D.sames a b
  | .lst a, .lst b => D.sames a b
  | .dic k a, .dic l b => decide (k = l) && D.sames a b
  | _, _ => false
def D.sames : List D → List D → Bool
  | [], [] => true
  | a :: r, b :: s => D.same a b && D.sames r s
  | _, _ => false
end
mutual
/-- python's equality of plain data -/
def D.eqv : D → D → Bool
  | .non, .non => true
  | .bl a, .bl b => a == b
  | .bl a, .int j => (if a then 1 else 0) == j
  | .int i, .bl b => i == (if b then 1 else 0)
  | .int a, .int b => a == b
  | .w a, .w b => a == b
  | .tup a, .tup b => D.eqvs a b
  | .lst a, .lst b => D.eqvs a b
  | _, _ => false
def D.eqvs : List D → List D → Bool
  | [], [] => true
  | a :: r, b :: s => D.eqv a b && D.eqvs r s
  | _, _ => false
end
mutual
/-- plain (no dict, no told text), at most so deep -/
def D.pl : Nat → D → Bool
  | _, .non => true
  | _, .bl _ => true
  | _, .int _ => true
  | _, .w _ => true
  | _, .rp _ => false
  | _, .scr _ => false
  | 0, .tup _ => false
  | n + 1, .tup xs => D.pls n xs
  | 0, .lst _ => false
  | n + 1, .lst xs => D.pls n xs
  | _, .dic _ _ => false
def D.pls : Nat → List D → Bool
  | _, [] => true
  | n, x :: r => D.pl n x && D.pls n r
end
/-- one word of data -/
def D.flat : D → Bool
  | .non => true
  | .bl _ => true
  | .int _ => true
  | .w _ => true
  | _ => false
mutual
/-- how much repr has to tell, at most -/
def D.wt : D → Nat
  | .int _ => 168
  | .w _ => 30
  | .tup xs => D.wts xs
  | .lst xs => D.wts xs
  | _ => 0
def D.wts : List D → Nat
  | [] => 0
  | x :: r => D.wt x + 1 + D.wts r
end
mutual
/-- numbers within 2^168 -/
def D.small : D → Bool
  | .int i => decide (i.natAbs < 2 ^ 168)
  | .tup xs => D.smalls xs
  | .lst xs => D.smalls xs
  | _ => true
def D.smalls : List D → Bool
  | [] => true
  | x :: r => D.small x && D.smalls r
end

inductive BOp where
  | add | sub | mul | mod | fdiv | pow
  deriving DecidableEq, Repr
inductive COp where
  | eq | ne | lt | le | gt | ge | isin | notin | isN | notN
  deriving DecidableEq, Repr
inductive BI where
  | len | tuple | list | int | sorted | sum | max | min | all | repr | set
  deriving DecidableEq, Repr
inductive B2 where
  | max | min
  deriving DecidableEq, Repr
inductive TY where
  | tup | str | int | bool | lst
  deriving DecidableEq, Repr
inductive TGt where
  | one (i : Nat) | two (i j : Nat)
  deriving DecidableEq, Repr

mutual
inductive IE where
  | var (i : Nat) | never
  | cI (i : Int) | cB (b : Bool) | cN | cW (k : Nat) | gl (g : Nat)
  | bin (op : BOp) (a b : IE) | neg (a : IE)
  | cmp (op : COp) (a b : IE) | ch (op1 op2 : COp) (a b c : IE)
  | and_ (a b : IE) | or_ (a b : IE) | not_ (a : IE) | ite (c a b : IE)
  | tup (es : IEs) | lst (es : IEs) | dnew
  | idx (a b : IE) | idxV (i : Nat) (b : IE) | slL (a lo : IE) | slU (a hi : IE) | slB (a lo hi : IE) | slR (a : IE)
  | call (f : Nat) (es : IEs) | bi (b : BI) (a : IE) | b2 (b : B2) (a c : IE) | isi (t : TY) (a : IE)
  | tupR (a : IE) | lstR (a : IE)
  | comp (t : TGt) (it : IT) (cs : IEs) (e : IE)
  | dget (i : Nat) (k : IE) | gget (g : Nat) (k : IE) | din (neg : Bool) (a : IE) (i : Nat)
  | dinG (neg : Bool) (a : IE) (g : Nat) (ms : List Nat) | maxD (a c : IE) | sset (a : IE) | eqE (neg : Bool) (i : Nat)
  | dlit (ks : List Nat) (es : IEs) | sortW (a : IE) (ks ss : List Nat) | getE (d k x : IE) | dgetE (d k : IE)
  | app (i : Nat) (e : IE) | ext (i : Nat) (e : IE) | popAt (i : Nat) (e : IE) | pop (i : Nat) | clear (i : Nat)
inductive IEs where
  | nil | cons (e : IE) (es : IEs)
inductive IT where
  | seq (e : IE) | rng1 (e : IE) | rng2 (a b : IE)
end
/-- an expression with a call that may raise -/
inductive IX where
  | call (f : Nat) (es : IEs) | pre (a : IE) (f : Nat) (es : IEs)
/-- what a suite of except says: is the exception one of these classes (words); its field (a word); others -/
inductive HX where
  | isE (cs : List Nat) | fld (f : Nat) | wd (k : Nat) | var (i : Nat)
inductive HV where
  | one (e : HX) | tup (es : List HX)
inductive HS where
  | nil | asg (i : Nat) (v : HV) (r : HS) | ite (cs : List (Bool × HX)) (t r : HS)
mutual
inductive IS where
  | asgX (i : Nat) (x : IX) | retX (x : IX) | exprX (x : IX) | raise (k f : Nat) (e : IE) | tryA (b : ISs) (c i : Nat) (xs : List (Nat × Nat)) (h : HS)
  | asgQ (i j l : Nat) (a b c : IE)
  | asg (i : Nat) (e : IE)
  | asgT (is : List Nat) (e : IE)
  | asgP (i j : Nat) (a b : IE)
  | setI (i : Nat) (k e : IE) | dput (i : Nat) (k e : IE) | dputP (i : Nat) (k1 k2 e : IE)
  | expr (e : IE)
  | ret (e : IE) | retV (i : Nat) | retN | pass | brk | cont | never
  | ite (c : IE) (t f : ISs)
  | for_ (t : TGt) (it : IT) (b : ISs)
  | whl (c : IE) (b : ISs)
inductive ISs where
  | nil | cons (s : IS) (r : ISs)
end

inductive Fl where
  | fro | own | lent | lfro
  deriving DecidableEq, Repr
abbrev Cell := Option (Fl × D)
abbrev Env := List Cell
inductive Flow where
  | nx | rt (own : Bool) (d : D) | bk | ct | ex (k f : Nat) (d : D)
/-- what a call tells of an exception: its class, its field, what the field holds -/
def mkX (k f : Nat) (d : D) : Bool × D := (true, .tup [.w k, .w f, d])
def isX : Bool × D → Option (Nat × Nat × D)
  | (true, .tup [.w k, .w f, d]) => some (k, f, d)
  | _ => none

/-! ### operations on data -/
def binD : BOp → D → D → Option D
  | .add, .int i, .int j => some (.int (i + j))
  | .sub, .int i, .int j => some (.int (i - j))
  | .mul, .int i, .int j => if (-(2 ^ 64) < i ∧ i < 2 ^ 64) ∨ (-(2 ^ 64) < j ∧ j < 2 ^ 64) then some (.int (i * j)) else none
  | .mod, .int i, .int j => if j ≠ 0 then some (.int (i.fmod j)) else none
  | .fdiv, .int i, .int j => if j ≠ 0 ∧ j.natAbs < 1073741824 then some (.int (i.fdiv j)) else none
  | .pow, .int i, .int j => if 0 ≤ j ∧ j ≤ 1000000 ∧ i.natAbs < 2 ^ 64 then some (.int (i ^ j.toNat)) else none
  | .add, .tup a, .tup b => if a.length + b.length ≤ 1000000 then some (.tup (a ++ b)) else none
  | .add, .lst a, .lst b => if a.length + b.length ≤ 1000000 then some (.lst (a ++ b)) else none
  | .mul, .tup a, .int k => if -1000 ≤ k ∧ k ≤ 1000 ∧ a.length ≤ 1000 then some (.tup (List.replicate k.toNat a).flatten) else none
  | .mul, .lst a, .int k => if -(2 ^ 62) ≤ k ∧ k < 2 ^ 62 ∧ a.length * k.toNat ≤ 1000000 then some (.lst (List.replicate k.toNat a).flatten) else none
  | _, _, _ => none
def insU (x : Int) : List Int → List Int
  | [] => [x]
  | y :: r => if x < y then x :: y :: r else if x = y then y :: r else y :: insU x r
/-- rising, each once -/
def sortU : List Int → List Int
  | [] => []
  | x :: r => insU x (sortU r)
def isL : D → Bool
  | .lst _ => true
  | _ => false
def inD (x : D) (ys : List D) : Bool := ys.any fun y => D.eqv y x
def findD : List DK → List D → DK → Option D
  | k :: ks, v :: vs, q => if k = q then some v else findD ks vs q
  | _, _, _ => none
def replD : List DK → List D → DK → D → List D
  | k :: ks, v :: vs, q, x => (if k = q then x else v) :: replD ks vs q x
  | _, _, _, _ => []
def putD (ks : List DK) (vs : List D) (q : DK) (x : D) : List DK × List D := if (findD ks vs q).isSome = true then (ks, replD ks vs q x) else (ks ++ [q], vs ++ [x])
def keyD : D → Option DK
  | .int i => some (.i i)
  | .w k => some (.w k)
  | _ => none
def eqTest (a b : D) : Option Bool :=
  match a, b with
  | .rp x, .rp y => if D.same x y then some true else none
  | .scr ns, .lst [] => some ns.isEmpty
  | _, _ => if (D.pl 500 a && D.pl 500 b) then some (D.eqv a b) else none
def cmpD : COp → D → D → Option Bool
  | .eq, a, b => eqTest a b
  | .ne, a, b => (eqTest a b).map (!·)
  | .lt, .int i, .int j => some (decide (i < j))
  | .le, .int i, .int j => some (decide (i ≤ j))
  | .gt, .int i, .int j => some (decide (j < i))
  | .ge, .int i, .int j => some (decide (j ≤ i))
  | .isin, x, .tup ys => if x.flat && ys.all D.flat then some (inD x ys) else none
  | .isin, x, .lst ys => if x.flat && ys.all D.flat then some (inD x ys) else none
  | .notin, x, .tup ys => if x.flat && ys.all D.flat then some (!inD x ys) else none
  | .notin, x, .lst ys => if x.flat && ys.all D.flat then some (!inD x ys) else none
  | .isN, .non, .non => some true
  | .isN, _, .non => some false
  | .notN, .non, .non => some false
  | .notN, _, .non => some true
  | _, _, _ => none
/-- a place in a row: from the end where it is below nought -/
def at_ {α : Type} (xs : List α) (i : Int) : Option α :=
  if 0 ≤ i then xs[i.toNat]? else if -(xs.length : Int) ≤ i then xs[(i + xs.length).toNat]? else none
def idxD : D → D → Option D
  | .tup xs, .int i => at_ xs i
  | .lst xs, .int i => at_ xs i
  | _, _ => none
def dgetD : D → D → Option D
  | .dic ks vs, k => (keyD k).bind (findD ks vs)
  | _, _ => none
def dinD : D → D → Option Bool
  | .dic ks vs, k => (keyD k).map fun q => (findD ks vs q).isSome
  | _, _ => none
/-- is a word a key of a written dict; ms: words that are none -/
def dinGD : D → List Nat → D → Option Bool
  | .dic ks vs, ms, .w k => if (findD ks vs (.w k)).isSome then some true else if ms.contains k then some false else none
  | _, _, _ => none
def clipI (n d : Nat) : Option Int → Nat
  | none => d
  | some v => if v < 0 then (v + n).toNat else min v.toNat n
def cut {α : Type} (xs : List α) (lo hi : Option Int) : List α := (xs.drop (clipI xs.length 0 lo)).take (clipI xs.length xs.length hi - clipI xs.length 0 lo)
def slD (lo hi : Option Int) : D → Option D
  | .tup xs => some (.tup (cut xs lo hi))
  | .lst xs => some (.lst (cut xs lo hi))
  | .scr xs => some (.lst ((cut xs lo hi).map D.int))
  | _ => none
def revD : D → Option D
  | .lst xs => some (.lst xs.reverse)
  | .tup xs => some (.tup xs.reverse)
  | _ => none
def intsD : List D → Option (List Int)
  | [] => some []
  | .int i :: r => (intsD r).map (i :: ·)
  | _ :: _ => none
def boolsD : List D → Option (List Bool)
  | [] => some []
  | .bl i :: r => (boolsD r).map (i :: ·)
  | _ :: _ => none
def insI (x : Int) : List Int → List Int
  | [] => [x]
  | y :: r => if x ≤ y then x :: y :: r else y :: insI x r
def sortI : List Int → List Int
  | [] => []
  | x :: r => insI x (sortI r)
def maxI : Int → List Int → Int
  | m, [] => m
  | m, x :: r => maxI (if m < x then x else m) r
def minI : Int → List Int → Int
  | m, [] => m
  | m, x :: r => minI (if x < m then x else m) r
/-- (new, what) -/
def biD : BI → D → Option (Bool × D)
  | .len, .tup xs => some (false, .int xs.length)
  | .len, .lst xs => some (false, .int xs.length)
  | .len, .dic ks _ => some (false, .int ks.length)
  | .tuple, .tup xs => some (false, .tup xs)
  | .tuple, .lst xs => some (false, .tup xs)
  | .list, .tup xs => some (true, .lst xs)
  | .list, .lst xs => some (true, .lst xs)
  | .int, .int i => some (false, .int i)
  | .int, .bl b => some (false, .int (if b then 1 else 0))
  | .sorted, .lst xs => (intsD xs).map fun ns => (true, .lst ((sortI ns).map D.int))
  | .sorted, .tup xs => (intsD xs).map fun ns => (true, .lst ((sortI ns).map D.int))
  | .sum, .lst xs => (intsD xs).map fun ns => (false, .int ns.sum)
  | .max, .lst xs => (intsD xs).bind fun ns => match ns with | [] => none | m :: r => some (false, .int (maxI m r))
  | .min, .lst xs => (intsD xs).bind fun ns => match ns with | [] => none | m :: r => some (false, .int (minI m r))
  | .all, .lst xs => (boolsD xs).map fun bs => (false, .bl (bs.all id))
  | .repr, .tup xs => if D.pl 500 (.tup xs) && D.small (.tup xs) && decide (D.wt (.tup xs) ≤ 90000) then some (false, .rp (.tup xs)) else none
  | .repr, .lst xs => if D.pl 500 (.lst xs) && D.small (.lst xs) && decide (D.wt (.lst xs) ≤ 90000) then some (false, .rp (.lst xs)) else none
  | .repr, .int i => if i.natAbs < 2 ^ 168 then some (false, .rp (.int i)) else none
  | _, _ => none
def b2D : B2 → D → D → Option D
  | .max, .int i, .int j => some (.int (if j > i then j else i))
  | .min, .int i, .int j => some (.int (if j < i then j else i))
  | _, _, _ => none
def isiD : TY → D → Option Bool
  | .tup, .tup _ => some true
  | .tup, .w _ => some false
  | .tup, .int _ => some false
  | .tup, .bl _ => some false
  | .tup, .non => some false
  | .tup, .lst _ => some false
  | .str, .w _ => some true
  | .str, .tup _ => some false
  | .str, .int _ => some false
  | .str, .bl _ => some false
  | .str, .non => some false
  | .str, .lst _ => some false
  | .int, .int _ => some true
  | .int, .bl _ => some true
  | .int, .w _ => some false
  | .int, .tup _ => some false
  | .int, .non => some false
  | .int, .lst _ => some false
  | .bool, .bl _ => some true
  | .bool, .int _ => some false
  | .bool, .w _ => some false
  | .bool, .tup _ => some false
  | .bool, .non => some false
  | .bool, .lst _ => some false
  | _, _ => none
def trD : D → Option Bool
  | .non => some false
  | .bl b => some b
  | .int i => some (i != 0)
  | .tup xs => some (!xs.isEmpty)
  | .lst xs => some (!xs.isEmpty)
  | _ => none
/-- lo, lo + 1, .. -/
def upto (lo : Int) : Nat → List Int
  | 0 => []
  | n + 1 => lo :: upto (lo + 1) n

/-! ### places -/
def getC (env : Env) (i : Nat) : Option (Fl × D) := match env[i]? with
  | some (some c) => some c
  | _ => none
def frz : Fl → Fl
  | .own => .fro
  | .lent => .lfro
  | f => f
/-- a name's value, from now on held by more than the name -/
def readV (env : Env) (i : Nat) : Option (D × Env) := match getC env i with
  | some (.fro, d) => some (d, env)
  | some (.lfro, d) => some (d, env)
  | some (f, d) => some (d, env.set i (some (frz f, d)))
  | none => none
/-- a name's value, only looked at -/
def lookV (env : Env) (i : Nat) : Option D := (getC env i).map (·.2)
/-- a place that may be given another value -/
def freeC (env : Env) (i : Nat) : Bool := match env[i]? with
  | some none => true
  | some (some (.fro, _)) => true
  | some (some (.own, _)) => true
  | _ => false
def putC (env : Env) (i : Nat) (own : Bool) (d : D) : Option Env :=
  if freeC env i then some (env.set i (some (if own then .own else .fro, d))) else none
/-- what a name holds that may be changed -/
def ownC (env : Env) (i : Nat) : Option (Fl × D) := match getC env i with
  | some (.own, d) => some (.own, d)
  | some (.lent, d) => some (.lent, d)
  | _ => none

/-! ### calls -/
inductive Arg where
  | v (d : D) | s (i : Nat)
/-- the arguments as they are handed in: lent or not -/
def argsOf (env : Env) : List Arg → Option (List (Bool × D))
  | [] => some []
  | .v d :: r => (argsOf env r).map ((false, d) :: ·)
  | .s i :: r => match getC env i with
    | some (.own, d) => (argsOf env r).map ((true, d) :: ·)
    | some (.lent, d) => (argsOf env r).map ((true, d) :: ·)
    | some (_, d) => (argsOf env r).map ((false, d) :: ·)
    | none => none
def lentAt (env : Env) : List Arg → List Nat
  | [] => []
  | .v _ :: r => lentAt env r
  | .s i :: r => match getC env i with
    | some (.own, _) => i :: lentAt env r
    | some (.lent, _) => i :: lentAt env r
    | _ => lentAt env r
def nodupN : List Nat → Bool
  | [] => true
  | x :: r => !r.contains x && nodupN r
def postArg (env : Env) (i : Nat) (p : Bool × D) : Env := match getC env i with
  | some (.own, _) => env.set i (some (if p.1 then .own else .fro, p.2))
  | some (.lent, _) => env.set i (some (if p.1 then .lent else .lfro, p.2))
  | _ => env
def posts : List Arg → List (Bool × D) → Env → Env
  | .v _ :: r, _ :: ps, env => posts r ps env
  | .s i :: r, p :: ps, env => posts r ps (postArg env i p)
  | _, _, env => env
abbrev Phi := Nat → List (Bool × D) → Option ((Bool × D) × List (Bool × D))

/-! ### loops -/
def cloop (f : D → Env → Option (Option D × Env)) : List D → Env → Option (List D × Env)
  | [], env => some ([], env)
  | x :: r, env => match f x env with
    | none => none
    | some (o, env1) => match cloop f r env1 with
      | none => none
      | some (ys, env2) => some (match o with | some y => y :: ys | none => ys, env2)
def floop (f : D → Env → Option (Env × Flow)) : List D → Env → Option (Env × Flow)
  | [], env => some (env, .nx)
  | x :: r, env => match f x env with
    | none => none
    | some (env1, .nx) => floop f r env1
    | some (env1, .ct) => floop f r env1
    | some (env1, .bk) => some (env1, .nx)
    | some (env1, .rt o d) => some (env1, .rt o d)
    | some (env1, .ex k g d) => some (env1, .ex k g d)
def wloop (c : Env → Option (Bool × Env)) (f : Env → Option (Env × Flow)) : Nat → Env → Option (Env × Flow)
  | 0, _ => none
  | n + 1, env => match c env with
    | none => none
    | some (false, env1) => some (env1, .nx)
    | some (true, env1) => match f env1 with
      | none => none
      | some (env2, .nx) => wloop c f n env2
      | some (env2, .ct) => wloop c f n env2
      | some (env2, .bk) => some (env2, .nx)
      | some (env2, .rt o d) => some (env2, .rt o d)
      | some (env2, .ex k g d) => some (env2, .ex k g d)
/-- a target's places -/
def TGt.is : TGt → List Nat
  | .one i => [i]
  | .two i j => [i, j]
def putT : TGt → D → Env → Option Env
  | .one i, d, env => putC env i false d
  | .two i j, .tup [a, b], env => (putC env i false a).bind fun e => putC e j false b
  | _, _, _ => none
def putTs : List Nat → List D → Env → Option Env
  | [], [], env => some env
  | i :: is, d :: ds, env => (putC env i false d).bind fun e => putTs is ds e
  | _, _, _ => none
def unset (env : Env) (i : Nat) : Bool := match env[i]? with
  | some none => true
  | _ => false
def clearAt : List Nat → Env → Env
  | [], env => env
  | i :: is, env => clearAt is (env.set i none)

/-- the frozen cells that a comprehension hid come back -/
def back (e0 : Env) : List Nat → Env → Env
  | [], env => env
  | i :: is, env => back e0 is (match e0[i]? with | some (some (.fro, d)) => env.set i (some (.fro, d)) | _ => env)
/-- what an expression does: its value; its value when it is only looked at; its truth; it as an argument -/
structure Sm where
  ev : Env → Option (Bool × D × Env)
  lk : Env → Option (D × Env)
  t : Env → Option (Bool × Env)
  ar : Env → Option (Arg × Env)
/-- all from the value -/
def Sm.of (f : Env → Option (Bool × D × Env)) : Sm where
  ev := f
  lk := fun env => (f env).map fun p => (p.2.1, p.2.2)
  t := fun env => (f env).bind fun p => (trD p.2.1).map fun b => (b, p.2.2)
  ar := fun env => (f env).map fun p => (.v p.2.1, p.2.2)
def Sm.va (i : Nat) : Sm where
  ev := fun env => (readV env i).map fun p => (false, p.1, p.2)
  lk := fun env => (lookV env i).map fun d => (d, env)
  t := fun env => (lookV env i).bind fun d => (trD d).map fun b => (b, env)
  ar := fun env => (getC env i).map fun _ => (.s i, env)
abbrev SmA := Env → Option (List Arg × Env)
/-- several: values, arguments, tests -/
structure Sms where
  ev : Env → Option (List D × Env)
  ar : Env → Option (List Arg × Env)
  t : Env → Option (Bool × Env)
section
variable (Φ : Phi) (gv : Nat → D) (wf : Nat)
mutual
def sem : IE → Sm
  | .var i => Sm.va i
  | .never => Sm.of fun _ => none
  | .cI i => Sm.of fun env => some (false, .int i, env)
  | .cB b => Sm.of fun env => some (false, .bl b, env)
  | .cN => Sm.of fun env => some (false, .non, env)
  | .cW k => Sm.of fun env => some (false, .w k, env)
  | .gl g => Sm.of fun env => some (false, gv g, env)
  | .bin op a b => Sm.of fun env => ((sem a).ev env).bind fun p => ((sem b).ev p.2.2).bind fun q => (binD op p.2.1 q.2.1).map fun d => (isL d, d, q.2.2)
  | .neg a => Sm.of fun env => ((sem a).ev env).bind fun p => match p.2.1 with | .int i => some (false, .int (-i), p.2.2) | _ => none
  | .cmp op a b => Sm.of fun env => ((sem a).ev env).bind fun p => ((sem b).lk p.2.2).bind fun q => (cmpD op p.2.1 q.1).map fun r => (false, .bl r, q.2)
  | .ch o1 o2 a b c => Sm.of fun env => ((sem a).ev env).bind fun p => ((sem b).ev p.2.2).bind fun q => (cmpD o1 p.2.1 q.2.1).bind fun r =>
      if r then ((sem c).ev q.2.2).bind fun s => (cmpD o2 q.2.1 s.2.1).map fun t => (false, .bl t, s.2.2) else some (false, .bl false, q.2.2)
  | .and_ a b => { Sm.of (fun env => ((sem a).ev env).bind fun p => match p.2.1 with
      | .bl true => ((sem b).ev p.2.2).bind fun q => match q.2.1 with | .bl c => some (false, .bl c, q.2.2) | _ => none
      | .bl false => some (false, .bl false, p.2.2)
      | _ => none) with t := fun env => ((sem a).t env).bind fun p => if p.1 then (sem b).t p.2 else some (false, p.2) }
  | .or_ a b => { Sm.of (fun env => ((sem a).ev env).bind fun p => match p.2.1 with
      | .bl false => ((sem b).ev p.2.2).bind fun q => match q.2.1 with | .bl c => some (false, .bl c, q.2.2) | _ => none
      | .bl true => some (false, .bl true, p.2.2)
      | _ => none) with t := fun env => ((sem a).t env).bind fun p => if p.1 then some (true, p.2) else (sem b).t p.2 }
  | .not_ a => { Sm.of (fun env => ((sem a).ev env).bind fun p => match p.2.1 with | .bl c => some (false, .bl (!c), p.2.2) | _ => none) with
      t := fun env => ((sem a).t env).map fun p => (!p.1, p.2) }
  | .ite c a b => { Sm.of (fun env => ((sem c).t env).bind fun p => if p.1 then (sem a).ev p.2 else (sem b).ev p.2) with t := fun _ => none }
  | .tup es => Sm.of fun env => ((sems es).ev env).map fun p => (false, .tup p.1, p.2)
  | .lst es => Sm.of fun env => ((sems es).ev env).map fun p => (true, .lst p.1, p.2)
  | .dnew => Sm.of fun env => some (true, .dic [] [], env)
  | .idx a b => Sm.of fun env => ((sem a).ev env).bind fun p => ((sem b).ev p.2.2).bind fun q => (idxD p.2.1 q.2.1).map fun d => (false, d, q.2.2)
  | .idxV i b => Sm.of fun env => (lookV env i).bind fun _ => ((sem b).ev env).bind fun q => (lookV q.2.2 i).bind fun x => (idxD x q.2.1).map fun d => (false, d, q.2.2)
  | .slL a lo => Sm.of fun env => ((sem a).ev env).bind fun p => ((sem lo).ev p.2.2).bind fun q => match q.2.1 with
      | .int i => (slD (some i) none p.2.1).map fun d => (isL d, d, q.2.2) | _ => none
  | .slU a hi => Sm.of fun env => ((sem a).ev env).bind fun p => ((sem hi).ev p.2.2).bind fun q => match q.2.1 with
      | .int i => (slD none (some i) p.2.1).map fun d => (isL d, d, q.2.2) | _ => none
  | .slB a lo hi => Sm.of fun env => ((sem a).ev env).bind fun p => ((sem lo).ev p.2.2).bind fun q => ((sem hi).ev q.2.2).bind fun r => match q.2.1, r.2.1 with
      | .int i, .int j => (slD (some i) (some j) p.2.1).map fun d => (isL d, d, r.2.2) | _, _ => none
  | .slR a => Sm.of fun env => ((sem a).ev env).bind fun p => (revD p.2.1).map fun d => (isL d, d, p.2.2)
  | .call f es => Sm.of fun env => ((sems es).ar env).bind fun p => (argsOf p.2 p.1).bind fun as =>
      if nodupN (lentAt p.2 p.1) then (Φ f as).bind fun r => match isX r.1 with | some _ => none | none => some (r.1.1, r.1.2, posts p.1 r.2 p.2) else none
  | .bi b a => Sm.of fun env => ((sem a).lk env).bind fun p => (biD b p.1).map fun r => (r.1, r.2, p.2)
  | .b2 b a c => Sm.of fun env => ((sem a).ev env).bind fun p => ((sem c).ev p.2.2).bind fun q => (b2D b p.2.1 q.2.1).map fun d => (false, d, q.2.2)
  | .isi t a => Sm.of fun env => ((sem a).ev env).bind fun p => (isiD t p.2.1).map fun r => (false, .bl r, p.2.2)
  | .tupR a => Sm.of fun env => ((sem a).ev env).bind fun p => match p.2.1 with
      | .int n => if -1000000 ≤ n ∧ n ≤ 1000000 then some (false, .tup ((upto 0 n.toNat).map D.int), p.2.2) else none
      | _ => none
  | .lstR a => Sm.of fun env => ((sem a).ev env).bind fun p => match p.2.1 with
      | .int n => if -1000000 ≤ n ∧ n ≤ 1000000 then some (true, .lst ((upto 0 n.toNat).map D.int), p.2.2) else none
      | _ => none
  | .comp t it cs e => Sm.of fun env => (semI it env).bind fun p =>
      if p.1.length ≤ 1000000 then
        (cloop (fun x en => (putT t x en).bind fun e1 => ((sems cs).t e1).bind fun b =>
          if b.1 then ((sem e).ev b.2).map fun q => (some q.2.1, clearAt t.is q.2.2) else some (none, clearAt t.is b.2)) p.1 (clearAt t.is p.2)).map fun r => (true, .lst r.1, back p.2 t.is r.2)
      else none
  | .dget i b => Sm.of fun env => (lookV env i).bind fun _ => ((sem b).ev env).bind fun q => (lookV q.2.2 i).bind fun x => (dgetD x q.2.1).map fun d => (false, d, q.2.2)
  | .gget g b => Sm.of fun env => ((sem b).ev env).bind fun q => (dgetD (gv g) q.2.1).map fun d => (false, d, q.2.2)
  | .din neg a i => Sm.of fun env => ((sem a).ev env).bind fun q => (lookV q.2.2 i).bind fun x => (dinD x q.2.1).map fun b => (false, .bl (if neg then !b else b), q.2.2)
  | .dinG neg a g ms => Sm.of fun env => ((sem a).ev env).bind fun q => (dinGD (gv g) ms q.2.1).map fun b => (false, .bl (if neg then !b else b), q.2.2)
  | .dlit ks es => Sm.of fun env => ((sems es).ev env).bind fun p => if ks.length = p.1.length ∧ ks.Nodup then some (true, .dic (ks.map DK.w) p.1, p.2) else none
  | .sortW a ks ss => Sm.of fun env => ((sem a).ev env).bind fun p => match p.2.1 with
      | .dic l _ => if l = ks.map DK.w then some (true, .lst (ss.map D.w), p.2.2) else none
      | _ => none
  | .getE d k x => Sm.of fun env => ((sem d).ev env).bind fun p => ((sem k).ev p.2.2).bind fun q => ((sem x).ev q.2.2).bind fun r => match p.2.1, keyD q.2.1 with
      | .dic ks vs, some y => some (false, (findD ks vs y).getD r.2.1, r.2.2)
      | _, _ => none
  | .dgetE d k => Sm.of fun env => ((sem d).ev env).bind fun p => ((sem k).ev p.2.2).bind fun q => (dgetD p.2.1 q.2.1).map fun v => (false, v, q.2.2)
  | .eqE neg i => Sm.of fun env => (lookV env i).bind fun x => (cmpD (if neg then .ne else .eq) x (.lst [])).map fun r => (false, .bl r, env)
  | .maxD a c => Sm.of fun env => ((sem a).ev env).bind fun p => ((sem c).ev p.2.2).bind fun q => match p.2.1, q.2.1 with
      | .lst xs, .int d => (intsD xs).map fun ns => (false, .int (match ns with | [] => d | m :: r => maxI m r), q.2.2)
      | _, _ => none
  | .sset a => Sm.of fun env => ((sem a).ev env).bind fun p => match p.2.1 with
      | .lst xs => (intsD xs).bind fun ns => if ns.length < 64 then some (true, .lst ((sortU ns).map D.int), p.2.2) else none
      | _ => none
  | .app i e => Sm.of fun env => ((lookV env i).bind fun z => if isL z then some z else none).bind fun _ => ((sem e).ev env).bind fun p => match ownC p.2.2 i with
      | some (f, .lst xs) => if xs.length < 1000000 then some (false, .non, p.2.2.set i (some (f, .lst (xs ++ [p.2.1])))) else none
      | _ => none
  | .ext i e => Sm.of fun env => ((lookV env i).bind fun z => if isL z then some z else none).bind fun _ => ((sem e).ev env).bind fun p => match ownC p.2.2 i, p.2.1 with
      | some (f, .lst xs), .lst ys => if xs.length + ys.length ≤ 1000000 then some (false, .non, p.2.2.set i (some (f, .lst (xs ++ ys)))) else none
      | _, _ => none
  | .popAt i e => Sm.of fun env => ((lookV env i).bind fun z => if isL z then some z else none).bind fun _ => ((sem e).ev env).bind fun p => match ownC p.2.2 i, p.2.1 with
      | some (f, .lst xs), .int k => if 0 ≤ k ∧ k < 2 ^ 62 then (xs[k.toNat]?).map fun x => (false, x, p.2.2.set i (some (f, .lst (xs.eraseIdx k.toNat)))) else none
      | _, _ => none
  | .pop i => Sm.of fun env => match ownC env i with
      | some (f, .lst xs) => (xs[xs.length - 1]?).map fun x => (false, x, env.set i (some (f, .lst xs.dropLast)))
      | _ => none
  | .clear i => Sm.of fun env => match ownC env i with
      | some (f, .lst _) => some (false, .non, env.set i (some (f, .lst [])))
      | _ => none
def sems : IEs → Sms
  | .nil => { ev := fun env => some ([], env), ar := fun env => some ([], env), t := fun env => some (true, env) }
  | .cons e es => {
      ev := fun env => ((sem e).ev env).bind fun p => ((sems es).ev p.2.2).map fun q => (p.2.1 :: q.1, q.2)
      ar := fun env => ((sem e).ar env).bind fun p => ((sems es).ar p.2).map fun q => (p.1 :: q.1, q.2)
      t := fun env => ((sem e).t env).bind fun p => if p.1 then (sems es).t p.2 else some (false, p.2) }
def semI : IT → Env → Option (List D × Env)
  | .seq e => fun env => ((sem e).ev env).bind fun p => match p.2.1 with
      | .lst xs => some (xs, p.2.2)
      | .tup xs => some (xs, p.2.2)
      | _ => none
  | .rng1 e => fun env => ((sem e).ev env).bind fun p => match p.2.1 with
      | .int n => if -1000000 ≤ n ∧ n ≤ 1000000 then some ((upto 0 n.toNat).map D.int, p.2.2) else none
      | _ => none
  | .rng2 a b => fun env => ((sem a).ev env).bind fun p => ((sem b).ev p.2.2).bind fun q => match p.2.1, q.2.1 with
      | .int m, .int n => if -1000000 ≤ m ∧ m ≤ 1000000 ∧ -1000000 ≤ n ∧ n ≤ 1000000 then some ((upto m (n - m).toNat).map D.int, q.2.2) else none
      | _, _ => none
end
/-- a value, or an exception -/
abbrev XO := (Bool × D) ⊕ (Nat × Nat × D)
def semC (f : Nat) (es : IEs) : Env → Option (XO × Env) := fun env => ((sems Φ gv es).ar env).bind fun p => (argsOf p.2 p.1).bind fun as =>
  if nodupN (lentAt p.2 p.1) then (Φ f as).map fun r => match isX r.1 with | some x => (.inr x, posts p.1 r.2 p.2) | none => (.inl r.1, posts p.1 r.2 p.2) else none
def semX : IX → Env → Option (XO × Env)
  | .call f es => semC Φ gv f es
  | .pre a f es => fun env => ((sem Φ gv a).ev env).bind fun p => (semC Φ gv f es p.2.2).map fun q => match q.1 with
      | .inl r => (.inl (false, .tup [p.2.1, r.2]), q.2)
      | .inr x => (.inr x, q.2)
end
section
variable (k f : Nat) (d : D)
/-- in a suite of except; the class 0 stands for the base of all, 1 for what stands above it -/
def hx : HX → Env → Option D
  | .isE cs => fun _ => some (.bl (cs.any fun c => c == k || c == 0 || c == 1))
  | .fld g => fun _ => if g = f then some d else none
  | .wd j => fun _ => some (.w j)
  | .var i => fun env => match getC env i with | some (.fro, x) => some x | _ => none
def hxs : List HX → Env → Option (List D)
  | [] => fun _ => some []
  | e :: r => fun env => (hx k f d e env).bind fun d => (hxs r env).map (d :: ·)
def hv : HV → Env → Option D
  | .one e => hx k f d e
  | .tup es => fun env => (hxs k f d es env).map D.tup
def hts : List (Bool × HX) → Env → Option Bool
  | [] => fun _ => some true
  | (n, e) :: r => fun env => match hx k f d e env with
    | some (.bl b) => if (if n then !b else b) then hts r env else some false
    | _ => none
def hs : HS → Env → Option Env
  | .nil => fun env => some env
  | .asg i v r => fun env => (hv k f d v env).bind fun x => (putC env i false x).bind fun e => hs r e
  | .ite cs t r => fun env => (hts k f d cs env).bind fun b => if b then (hs t env).bind fun e => hs r e else hs r env
end
section
variable (Φ : Phi) (gv : Nat → D) (wf : Nat)
/-- d[k] = x of a local dict -/
def putI (i : Nat) (k : IE) (x : D) (env : Env) : Option Env := (lookV env i).bind fun _ => ((sem Φ gv k).ev env).bind fun q => match ownC q.2.2 i with
  | some (f, .dic ks vs) => (keyD q.2.1).bind fun y => if ks.length < 1000000 then some (q.2.2.set i (some (f, .dic (putD ks vs y x).1 (putD ks vs y x).2))) else none
  | _ => none
mutual
def ex : IS → Env → Option (Env × Flow)
  | .asgX i x => fun env => (semX Φ gv x env).bind fun q => match q.1 with
      | .inl r => (putC q.2 i r.1 r.2).map fun e1 => (e1, .nx)
      | .inr (k, f, d) => some (q.2, .ex k f d)
  | .retX x => fun env => (semX Φ gv x env).map fun q => match q.1 with
      | .inl r => (q.2, .rt r.1 r.2)
      | .inr (k, f, d) => (q.2, .ex k f d)
  | .exprX x => fun env => (semX Φ gv x env).map fun q => match q.1 with
      | .inl _ => (q.2, .nx)
      | .inr (k, f, d) => (q.2, .ex k f d)
  | .raise k f e => fun env => ((sem Φ gv e).ev env).map fun p => (p.2.2, .ex k f p.2.1)
  | .tryA b c i xs h => fun env => (exs b env).bind fun q => match q.2 with
      | .ex k f d => if (xs.contains (k, f) && unset q.1 i) = true then (if c = k ∨ c = 0 then (hs k f d h q.1).map fun e1 => (e1, .nx) else some (q.1, .ex k f d)) else none
      | fl => some (q.1, fl)
  | .asgQ i j l a b c => fun env => ((sem Φ gv a).ev env).bind fun p => ((sem Φ gv b).ev p.2.2).bind fun q => ((sem Φ gv c).ev q.2.2).bind fun r =>
      (putC r.2.2 i false p.2.1).bind fun e1 => (putC e1 j false q.2.1).bind fun e2 => (putC e2 l false r.2.1).map fun e3 => (e3, .nx)
  | .asg i e => fun env => ((sem Φ gv e).ev env).bind fun p => (putC p.2.2 i p.1 p.2.1).map fun e1 => (e1, .nx)
  | .asgT is e => fun env => ((sem Φ gv e).ev env).bind fun p => match p.2.1 with
      | .tup xs => (putTs is xs p.2.2).map fun e1 => (e1, .nx)
      | .lst xs => (putTs is xs p.2.2).map fun e1 => (e1, .nx)
      | _ => none
  | .asgP i j a b => fun env => ((sem Φ gv a).ev env).bind fun p => ((sem Φ gv b).ev p.2.2).bind fun q =>
      (putC q.2.2 i false p.2.1).bind fun e1 => (putC e1 j false q.2.1).map fun e2 => (e2, .nx)
  | .setI i k e => fun env => ((sem Φ gv e).ev env).bind fun p => (lookV p.2.2 i).bind fun _ => ((sem Φ gv k).ev p.2.2).bind fun q => match ownC q.2.2 i with
      | some (f, .lst xs) => match q.2.1 with
        | .int n => if 0 ≤ n ∧ n < xs.length then some (q.2.2.set i (some (f, .lst (xs.set n.toNat p.2.1))), .nx) else none
        | _ => none
      | _ => none
  | .dput i k e => fun env => ((sem Φ gv e).ev env).bind fun p => (lookV p.2.2 i).bind fun _ => ((sem Φ gv k).ev p.2.2).bind fun q => match ownC q.2.2 i with
      | some (f, .dic ks vs) => (keyD q.2.1).bind fun y =>
          if ks.length < 1000000 then some (q.2.2.set i (some (f, .dic (putD ks vs y p.2.1).1 (putD ks vs y p.2.1).2)), .nx) else none
      | _ => none
  | .dputP i k1 k2 e => fun env => ((sem Φ gv e).ev env).bind fun p => match p.2.1 with
      | .tup [x, y] => (putI Φ gv i k1 x p.2.2).bind fun e1 => (putI Φ gv i k2 y e1).map fun e2 => (e2, .nx)
      | _ => none
  | .expr e => fun env => ((sem Φ gv e).ev env).map fun p => (p.2.2, .nx)
  | .ret e => fun env => ((sem Φ gv e).ev env).map fun p => (p.2.2, .rt p.1 p.2.1)
  | .retV i => fun env => match getC env i with
      | some (.own, d) => some (env.set i none, .rt true d)
      | _ => (readV env i).map fun p => (p.2, .rt false p.1)
  | .retN => fun env => some (env, .rt false .non)
  | .pass => fun env => some (env, .nx)
  | .never => fun _ => none
  | .brk => fun env => some (env, .bk)
  | .cont => fun env => some (env, .ct)
  | .ite c t f => fun env => ((sem Φ gv c).t env).bind fun p => if p.1 then exs t p.2 else exs f p.2
  | .for_ t it b => fun env => (semI Φ gv it env).bind fun p => floop (fun x en => (putT t x en).bind fun e1 => exs b e1) p.1 p.2
  | .whl c b => fun env => wloop (fun en => (sem Φ gv c).t en) (fun en => exs b en) wf env
def exs : ISs → Env → Option (Env × Flow)
  | .nil => fun env => some (env, .nx)
  | .cons s r => fun env => (ex s env).bind fun p => match p.2 with
      | .nx => exs r p.1
      | fl => some (p.1, fl)
end
end

/-! ### defs -/
structure Fn where
  np : Nat
  ns : Nat
  body : ISs
def startEnv (fn : Fn) (as : List (Bool × D)) : Env := as.map (fun p => some (if p.1 then .lent else .fro, p.2)) ++ List.replicate (fn.ns - as.length) none
def postOf (env : Env) : List (Bool × D) → Nat → Option (List (Bool × D))
  | [], _ => some []
  | (false, d) :: r, i => (postOf env r (i + 1)).map ((false, d) :: ·)
  | (true, _) :: r, i => match getC env i with
    | some (.lent, d) => (postOf env r (i + 1)).map ((true, d) :: ·)
    | some (.lfro, d) => (postOf env r (i + 1)).map ((false, d) :: ·)
    | _ => none
def runF (Φ : Phi) (gv : Nat → D) (wf : Nat) (fn : Fn) (as : List (Bool × D)) : Option ((Bool × D) × List (Bool × D)) :=
  if as.length = fn.np then
    match exs Φ gv wf fn.body (startEnv fn as) with
    | some (env, .rt o d) => (postOf env as 0).map fun ps => ((o, d), ps)
    | some (env, .nx) => (postOf env as 0).map fun ps => ((false, .non), ps)
    | some (env, .ex k f d) => (postOf env as 0).map fun ps => (mkX k f d, ps)
    | _ => none
  else none
def callF (fns : Nat → Option Fn) (gv : Nat → D) (wf : Nat) : Nat → Phi
  | 0 => fun _ _ => none
  | n + 1 => fun f as => match fns f with
    | some fn => runF (callF fns gv wf n) gv wf fn as
    | none => none
end PD
/-! The facts of the top, read by a Hook of its own off one run of the top: what is looked at. -/
namespace PD
open PySem L2
open He (ba eqO eqO_ok)
mutual
def repB (K : PySem.W.Frag) (W : List Str) : D → Value → Bool
  | .non, .none => true
  | .bl b, .bool c => b == c
  | .int i, .int j _ => decide (i = j)
  | .w k, .str x _ => decide (W[k]? = some x)
  | .tup ds, .ref a => (match K.lookup a with
    | some ⟨.type c, _, .seq its _, _⟩ => decide (c = "tuple") && (decide (its.size ≤ 1000) && repsB K W ds its.toList)
    | _ => false)
  | _, _ => false
def repsB (K : PySem.W.Frag) (W : List Str) : List D → List Value → Bool
  | [], [] => true
  | d :: ds, u :: us => repB K W d u && repsB K W ds us
  | _, _ => false
end
def nsB (K : PySem.W.Frag) (W : List Str) (a : Addr) (x : Str) (d : D) : Bool := match PySem.W.nsIn K a x with
  | some (some u) => repB K W d u
  | _ => false
def entB (K : PySem.W.Frag) (W : List Str) (a : Addr) : List DK → List D → Bool
  | [], [] => true
  | .w k :: ks, d :: ds => (match W[k]? with
    | some x => nsB K W a x d
    | none => false) && entB K W a ks ds
  | _, _ => false
/-! ### facts -/
inductive Fx where
  | free (x : Str) | glo (x : Str) | gl (x : Str) (d : D) | dc (x : Str) (ks : List DK) (vs : List D) | mis (x z : Str) | cls (nm fn bas : Str) | xis (nm c : Str) (r : Bool)
def clB (K : PySem.W.Frag) (C : Addr) : Bool := match K.lookup C with
  | some ⟨.type c, _, .cls cd, ⟨[_, _, _, _, some (.builtin z), _]⟩⟩ => decide (c = "type") && ((match cd.mro with
    | .ref b :: bm => decide (b = C) && PySem.HandSPX.refsVE bm
    | _ => false) && (cd.hasDict && (!cd.hasDel && decide (z = "ValueError.__new__"))))
  | _ => false
def klsB (K : PySem.W.Frag) (nm fn bas : Str) : Bool :=
  eqO (PySem.W.nsIn K mainGlobals nm) (some (some (.ref (He.ga K nm)))) && (eqO (PySem.W.nsIn K mainGlobals bas) (some (some (.ref (He.ga K bas)))) && (clB K (He.ga K nm) && (
  eqO (PySem.W.findIn K (.ref (He.ga K nm)) "__setattr__") (some (some (.builtin "object.__setattr__"))) && (eqO (PySem.W.findIn K (.ref (He.ga K nm)) "__getattribute__") (some (some (.builtin "BaseException.__getattribute__"))) && (
  eqO (PySem.W.findIn K (.ref (He.ga K nm)) "__getattr__") (some none) && (eqO (PySem.W.findIn K (.ref (He.ga K nm)) fn) (some none) && (
  eqO (PySem.W.findIn K (.ref (He.ga K nm)) "__init__") (some (some (.ref (He.ma K (He.ga K nm) "__init__")))) && (decide (PySem.W.typeIn K (.ref (He.ma K (He.ga K nm) "__init__")) = some (.type "function")) && (
  PySem.W.keepIn K (.ref (He.ga K nm)) && (decide (PySem.W.subIn K (.ref (He.ga K nm)) (.type "BaseException") = some true) && (decide (PySem.W.typeIn K (.ref (He.ga K nm)) = some (.type "type")) && (PySem.W.hasDictIn K (He.ga K nm) && (
  eqO (PySem.W.findIn K (.ref (He.ga K nm)) "__class__") (some (some (.builtin "object.__class__"))) && (eqO (PySem.W.specialIn K (.builtin "object.__class__") "__get__") (some (some (.builtin "getset_descriptor.__get__"))) && (
  decide (PySem.W.takesIn K (.builtin "object.__class__") = some true) && (decide (PySem.W.mroIn K (He.ga K nm) (.type "object") = some true) && (decide (PySem.W.kitOne K (.ref (He.ga K nm)) (.type "ValueError") = some true) && (
  eqO (PySem.W.specialIn K (.ref (He.ga K bas)) "__getattribute__") (some (some (.builtin "type.__getattribute__"))) && (PySem.W.readsIn K (He.ga K bas) (.type "type") && (match PySem.W.findCls K (.ref (He.ga K bas)) (.type "type") "__init__" with
    | some (.val (.builtin z)) => decide (z = "ValueError.__init__")
    | _ => false))))))))))))))))))))
def Fx.ok (K : PySem.W.Frag) (W : List Str) : Fx → Bool
  | .free x => eqO (PySem.W.nsIn K mainGlobals x) (some none)
  | .glo x => eqO (PySem.W.nsIn K mainGlobals x) (some (some (.ref (He.ga K x))))
  | .gl x d => nsB K W mainGlobals x d
  | .dc x ks vs => eqO (PySem.W.nsIn K mainGlobals x) (some (some (.ref (He.ga K x)))) && entB K W (He.ga K x) ks vs
  | .mis x z => eqO (PySem.W.nsIn K (He.ga K x) z) (some none)
  | .cls nm fn bas => klsB K nm fn bas
  | .xis nm c r => eqO (PySem.W.nsIn K mainGlobals c) (some (some (.ref (He.ga K c)))) && (decide (PySem.W.kitOne K (.ref (He.ga K nm)) (.ref (He.ga K c)) = some r) && decide (PySem.W.exmOne K (.ref (He.ga K nm)) (.ref (He.ga K c)) = some r))
/-- all objects below n, the last first -/
def downA : Nat → List Addr
  | 0 => []
  | n + 1 => n :: downA n
/-! as: the objects looked at -/
abbrev AlP : Type := Bool × He.AlT
def obsP (fx : List Fx) (W : List Str) (fn : List He.DefD) (ts : List He.Tab) (K : PySem.W.Frag) : AlP := (fx.all fun f => f.ok K W, He.obsT [] fn ts K)
structure SaysP (fx : List Fx) (W : List Str) (fn : List He.DefD) (ts : List He.Tab) (w : World) (K : PySem.W.Frag) : Prop where
  e : obsP fx W fn ts K = (true, He.valT fn ts w)
def hookP (as : List Addr) (fx : List Fx) (W : List Str) (fn : List He.DefD) (ts : List He.Tab) : PySem.W.Hook where
  α := AlP
  obs := fun s => obsP fx W fn ts (He.frG s.heap.get? as)
  val := fun w => (true, He.valT fn ts w)
  says := fun w h => ∃ K : PySem.W.Frag, K.In h ∧ SaysP fx W fn ts w K
  of := fun _ _ e => ⟨_, He.frG_in, ⟨e⟩⟩
  keeps := fun _ _ _ ⟨K, hK, c⟩ k => ⟨K, PySem.W.Frag.In.keeps hK k, c⟩
def obP (as : List Addr) (fx : List Fx) (W : List Str) (fn : List He.DefD) (ts : List He.Tab) (s : PySem.W.SharedT) : AlP := obsP fx W fn ts (He.frG (HandSHeadRun.getT s) as)
end PD
namespace K59
open PySem PySem.W PySem.Calls PyProof.Rows L2 PD
/-- SUM_WORDS -/
def g0 : D := .tup [(.w 51), (.w 50), (.w 49), (.w 48), (.w 20), (.w 30), (.w 28), (.w 52)]
/-- IN_WORDS -/
def g1 : D := .tup [(.w 53), (.w 54), (.w 55), (.w 38), (.w 56), (.w 35), (.w 37), (.w 57), (.w 58)]
/-- BARE_WORDS -/
def g2 : D := .tup [(.w 59), (.w 31), (.w 60), (.w 61), (.w 62), (.w 63), (.w 23), (.w 64)]
/-- HOLE_WORDS -/
def g3 : D := .tup [(.w 65), (.w 66), (.w 67), (.w 68), (.w 22)]
/-- SIZE_WORDS -/
def g4 : D := .tup [(.w 41), (.w 69), (.w 70), (.w 43), (.w 32)]
/-- LOSING -/
def g5 : D := .tup [(.w 28), (.w 35), (.w 37)]
/-- BARE -/
def g6 : D := .tup [(.w 25), (.w 34), (.w 18), (.w 26), (.w 31), (.w 71)]
/-- TWOFOLD -/
def g7 : D := .tup [(.w 21), (.w 17), (.w 27)]
/-- SINGLE -/
def g8 : D := .tup [(.w 22), (.w 29)]
/-- MOST_KINDS -/
def g9 : D := .int 400
/-- MOST_DEEP -/
def g10 : D := .int 40
/-- MOST_HOLES -/
def g11 : D := .int 3
/-- MOST_PATH -/
def g12 : D := .int 40
/-- MOST_SIZE_steps -/
def g13 : D := .int 20
/-- MOST_LOW -/
def g14 : D := .int 20
/-- PAIRED -/
def g15 : D := .tup [(.w 21), (.w 17), (.w 27)]
/-- MOST_SIZE_sides -/
def g16 : D := .int 20
/-- SIDES -/
def g17 : D := .dic [.w 20, .w 30, .w 28, .w 38, .w 35, .w 37, .w 23, .w 22] [(.tup [(.tup [(.w 17), (.w 42), (.tup [(.w 21), (.w 72), (.w 73)])]), (.tup [(.w 21), (.tup [(.w 17), (.w 42), (.w 72)]), (.tup [(.w 17), (.w 42), (.w 73)])])]), (.tup [(.tup [(.w 21), (.tup [(.w 25)]), (.w 42)]), (.w 42)]), (.tup [(.tup [(.w 17), (.tup [(.w 25)]), (.w 42)]), (.tup [(.w 25)])]), (.tup [(.tup [(.w 27), (.tup [(.w 18)]), (.w 42)]), (.w 42)]), (.tup [(.tup [(.w 27), (.tup [(.w 34)]), (.w 42)]), (.tup [(.w 34)])]), (.tup [(.tup [(.w 27), (.tup [(.w 25)]), (.w 42)]), (.tup [(.w 25)])]), (.tup [(.tup [(.w 29), (.tup [(.w 34)])]), (.tup [(.w 25)])]), (.tup [(.tup [(.w 22), (.w 42)]), (.tup [(.w 17), (.tup [(.w 18)]), (.tup [(.w 29), (.w 42)])])])]
/-- BARE_LOWS -/
def g18 : D := .dic [.w 25, .w 34, .w 18, .w 26, .w 31, .w 71] [(.int 20), (.int 0), (.int 1), (.int 0), (.int 0), (.int 1)]
def wd : List Str := [("KindError" : Str), ("ValueError" : Str), ("told" : Str), ("NoMove" : Str), ("word" : Str), ("NoExchange" : Str), ("NoKind" : Str), ("NoPaper" : Str), ("TooMany" : Str), ("NoPlace" : Str), ("NoDraw" : Str), ("NoName" : Str), ("NoText" : Str), ("NoRow" : Str), ("NoLevel" : Str), ("no" : Str), ("another" : Str), ("both" : Str), ("one" : Str), ("wide" : Str), ("part" : Str), ("this" : Str), ("point" : Str), ("hole-unit" : Str), ("right" : Str), ("void" : Str), ("set" : Str), ("in" : Str), ("no-both" : Str), ("hole" : Str), ("no-this" : Str), ("row" : Str), ("rule" : Str), ("side" : Str), ("unit" : Str), ("in-unit" : Str), ("sized" : Str), ("in-void" : Str), ("in-one" : Str), ("path" : Str), ("step" : Str), ("cut" : Str), ("K" : Str), ("size-hole" : Str), ("c" : Str), ("b" : Str), ("d" : Str), ("a" : Str), ("join-both" : Str), ("turn-both" : Str), ("join-this" : Str), ("turn-this" : Str), ("unit-both" : Str), ("in-this" : Str), ("in-both" : Str), ("in-in" : Str), ("of-one" : Str), ("of-void" : Str), ("set-this" : Str), ("set-none" : Str), ("hole-row" : Str), ("hole-set" : Str), ("hole-round" : Str), ("hole-one" : Str), ("hole-void" : Str), ("hole-this" : Str), ("hole-both" : Str), ("hole-in" : Str), ("turn-hole" : Str), ("size-this" : Str), ("size-point" : Str), ("round" : Str), ("L" : Str), ("M" : Str)]
def top (i : Nat) : Stmt := PySem.Challenge.pw_kindmakes_k59_too_wide_or_not_right.main.body.getD i (.Pass ⟨0, 0, 0, 0⟩)
def dl : List He.DefD := [
  ⟨(("_law_feed" : Str), none), ("_law_feed" : Str), ("_law_feed" : Str), defArgs (top 126), defBody (top 126), defScope (top 126), [], []⟩,
  ⟨(("_law_take" : Str), none), ("_law_take" : Str), ("_law_take" : Str), defArgs (top 127), defBody (top 127), defScope (top 127), [], []⟩,
  ⟨(("_law_told" : Str), none), ("_law_told" : Str), ("_law_told" : Str), defArgs (top 128), defBody (top 128), defScope (top 128), [], []⟩,
  ⟨(("_law_tree" : Str), none), ("_law_tree" : Str), ("_law_tree" : Str), defArgs (top 129), defBody (top 129), defScope (top 129), [], []⟩,
  ⟨(("_law_chain" : Str), none), ("_law_chain" : Str), ("_law_chain" : Str), defArgs (top 130), defBody (top 130), defScope (top 130), [], []⟩,
  ⟨(("_law_many_right" : Str), none), ("_law_many_right" : Str), ("_law_many_right" : Str), defArgs (top 131), defBody (top 131), defScope (top 131), [], []⟩,
  ⟨(("_law_deep_right" : Str), none), ("_law_deep_right" : Str), ("_law_deep_right" : Str), defArgs (top 132), defBody (top 132), defScope (top 132), [], []⟩,
  ⟨(("_law_holes_right" : Str), none), ("_law_holes_right" : Str), ("_law_holes_right" : Str), defArgs (top 133), defBody (top 133), defScope (top 133), [], []⟩,
  ⟨(("_law_rule_right" : Str), none), ("_law_rule_right" : Str), ("_law_rule_right" : Str), defArgs (top 134), defBody (top 134), defScope (top 134), [], []⟩,
  ⟨(("_law_blocks_right" : Str), none), ("_law_blocks_right" : Str), ("_law_blocks_right" : Str), defArgs (top 135), defBody (top 135), defScope (top 135), [], []⟩,
  ⟨(("_law_long_right" : Str), none), ("_law_long_right" : Str), ("_law_long_right" : Str), defArgs (top 136), defBody (top 136), defScope (top 136), [], []⟩,
  ⟨(("law" : Str), none), ("law" : Str), ("law" : Str), defArgs (top 137), defBody (top 137), defScope (top 137), [], []⟩,
  ⟨(("moved_by" : Str), none), ("moved_by" : Str), ("moved_by" : Str), defArgs (top 66), defBody (top 66), defScope (top 66), [], []⟩,
  ⟨(("is_step" : Str), none), ("is_step" : Str), ("is_step" : Str), defArgs (top 60), defBody (top 60), defScope (top 60), [], []⟩,
  ⟨(("is_word" : Str), none), ("is_word" : Str), ("is_word" : Str), defArgs (top 57), defBody (top 57), defScope (top 57), [], []⟩,
  ⟨(("is_path" : Str), none), ("is_path" : Str), ("is_path" : Str), defArgs (top 58), defBody (top 58), defScope (top 58), [], []⟩,
  ⟨(("is_whole" : Str), none), ("is_whole" : Str), ("is_whole" : Str), defArgs (top 52), defBody (top 52), defScope (top 52), [], []⟩,
  ⟨(("is_extra" : Str), none), ("is_extra" : Str), ("is_extra" : Str), defArgs (top 59), defBody (top 59), defScope (top 59), [], []⟩,
  ⟨(("is_wide" : Str), none), ("is_wide" : Str), ("is_wide" : Str), defArgs (top 56), defBody (top 56), defScope (top 56), [], []⟩,
  ⟨(("measured" : Str), none), ("measured" : Str), ("measured" : Str), defArgs (top 54), defBody (top 54), defScope (top 54), [], []⟩,
  ⟨(("inner_of" : Str), none), ("inner_of" : Str), ("inner_of" : Str), defArgs (top 53), defBody (top 53), defScope (top 53), [], []⟩,
  ⟨(("fits_wide" : Str), none), ("fits_wide" : Str), ("fits_wide" : Str), defArgs (top 55), defBody (top 55), defScope (top 55), [], []⟩,
  ⟨(("part_at" : Str), none), ("part_at" : Str), ("part_at" : Str), defArgs (top 63), defBody (top 63), defScope (top 63), [], []⟩,
  ⟨(("parts_many" : Str), none), ("parts_many" : Str), ("parts_many" : Str), defArgs (top 62), defBody (top 62), defScope (top 62), [], []⟩,
  ⟨(("put_at" : Str), none), ("put_at" : Str), ("put_at" : Str), defArgs (top 64), defBody (top 64), defScope (top 64), [], []⟩,
  ⟨(("other_side" : Str), none), ("other_side" : Str), ("other_side" : Str), defArgs (top 36), defBody (top 36), defScope (top 36), [], []⟩,
  ⟨(("ruled_side" : Str), none), ("ruled_side" : Str), ("ruled_side" : Str), defArgs (top 35), defBody (top 35), defScope (top 35), [], []⟩,
  ⟨(("fits" : Str), none), ("fits" : Str), ("fits" : Str), defArgs (top 32), defBody (top 32), defScope (top 32), [], []⟩,
  ⟨(("filled" : Str), none), ("filled" : Str), ("filled" : Str), defArgs (top 33), defBody (top 33), defScope (top 33), [], []⟩,
  ⟨(("sizes_fit" : Str), none), ("sizes_fit" : Str), ("sizes_fit" : Str), defArgs (top 34), defBody (top 34), defScope (top 34), [], []⟩,
  ⟨(("is_right" : Str), none), ("is_right" : Str), ("is_right" : Str), defArgs (top 28), defBody (top 28), defScope (top 28), [], []⟩,
  ⟨(("found_told" : Str), none), ("found_told" : Str), ("found_told" : Str), defArgs (top 27), defBody (top 27), defScope (top 27), [], []⟩,
  ⟨(("greatest_lows" : Str), none), ("greatest_lows" : Str), ("greatest_lows" : Str), defArgs (top 26), defBody (top 26), defScope (top 26), [], []⟩,
  ⟨(("low_of" : Str), none), ("low_of" : Str), ("low_of" : Str), defArgs (top 21), defBody (top 21), defScope (top 21), [], []⟩,
  ⟨(("by_parts" : Str), none), ("by_parts" : Str), ("by_parts" : Str), defArgs (top 20), defBody (top 20), defScope (top 20), [], []⟩,
  ⟨(("stands_by" : Str), none), ("stands_by" : Str), ("stands_by" : Str), defArgs (top 24), defBody (top 24), defScope (top 24), [], []⟩,
  ⟨(("kinds_in" : Str), none), ("kinds_in" : Str), ("kinds_in" : Str), defArgs (top 16), defBody (top 16), defScope (top 16), [], []⟩,
  ⟨(("inner_kinds" : Str), none), ("inner_kinds" : Str), ("inner_kinds" : Str), defArgs (top 15), defBody (top 15), defScope (top 15), [], []⟩,
  ⟨(("needs_of" : Str), none), ("needs_of" : Str), ("needs_of" : Str), defArgs (top 23), defBody (top 23), defScope (top 23), [], []⟩,
  ⟨(("needed" : Str), none), ("needed" : Str), ("needed" : Str), defArgs (top 22), defBody (top 22), defScope (top 22), [], []⟩,
  ⟨(("led_by" : Str), none), ("led_by" : Str), ("led_by" : Str), defArgs (top 121), defBody (top 121), defScope (top 121), [], []⟩,
  ⟨(("led_at" : Str), none), ("led_at" : Str), ("led_at" : Str), defArgs (top 120), defBody (top 120), defScope (top 120), [], []⟩,
  ⟨(("led_part" : Str), none), ("led_part" : Str), ("led_part" : Str), defArgs (top 119), defBody (top 119), defScope (top 119), [], []⟩,
  ⟨(("led_sum" : Str), none), ("led_sum" : Str), ("led_sum" : Str), defArgs (top 116), defBody (top 116), defScope (top 116), [], []⟩,
  ⟨(("gone" : Str), none), ("gone" : Str), ("gone" : Str), defArgs (top 65), defBody (top 65), defScope (top 65), [], []⟩,
  ⟨(("way_back" : Str), none), ("way_back" : Str), ("way_back" : Str), defArgs (top 124), defBody (top 124), defScope (top 124), [], []⟩,
  ⟨(("extra_turned" : Str), none), ("extra_turned" : Str), ("extra_turned" : Str), defArgs (top 123), defBody (top 123), defScope (top 123), [], []⟩,
  ⟨(("NoMove" : Str), some "__init__"), "__init__", "NoMove.__init__", defArgs (inClass (top 8) 0), defBody (inClass (top 8) 0), defScope (inClass (top 8) 0), [], []⟩]
def fxs : List Fx := [
  .free ("len" : Str),
  .free ("tuple" : Str),
  .free ("list" : Str),
  .free ("int" : Str),
  .free ("sorted" : Str),
  .free ("sum" : Str),
  .free ("max" : Str),
  .free ("min" : Str),
  .free ("all" : Str),
  .free ("repr" : Str),
  .free ("set" : Str),
  .free ("isinstance" : Str),
  .free ("range" : Str),
  .free ("str" : Str),
  .free ("bool" : Str),
  .free ("dict" : Str),
  .free ("zip" : Str),
  .free ("enumerate" : Str),
  .free ("reversed" : Str),
  .glo ("_law_feed" : Str),
  .glo ("_law_take" : Str),
  .glo ("_law_told" : Str),
  .glo ("_law_tree" : Str),
  .glo ("_law_chain" : Str),
  .glo ("_law_many_right" : Str),
  .glo ("_law_deep_right" : Str),
  .glo ("_law_holes_right" : Str),
  .glo ("_law_rule_right" : Str),
  .glo ("_law_blocks_right" : Str),
  .glo ("_law_long_right" : Str),
  .glo ("law" : Str),
  .glo ("moved_by" : Str),
  .glo ("is_step" : Str),
  .glo ("is_word" : Str),
  .glo ("is_path" : Str),
  .glo ("is_whole" : Str),
  .glo ("is_extra" : Str),
  .glo ("is_wide" : Str),
  .glo ("measured" : Str),
  .glo ("inner_of" : Str),
  .glo ("fits_wide" : Str),
  .glo ("part_at" : Str),
  .glo ("parts_many" : Str),
  .glo ("put_at" : Str),
  .glo ("other_side" : Str),
  .glo ("ruled_side" : Str),
  .glo ("fits" : Str),
  .glo ("filled" : Str),
  .glo ("sizes_fit" : Str),
  .glo ("is_right" : Str),
  .glo ("found_told" : Str),
  .glo ("greatest_lows" : Str),
  .glo ("low_of" : Str),
  .glo ("by_parts" : Str),
  .glo ("stands_by" : Str),
  .glo ("kinds_in" : Str),
  .glo ("inner_kinds" : Str),
  .glo ("needs_of" : Str),
  .glo ("needed" : Str),
  .glo ("led_by" : Str),
  .glo ("led_at" : Str),
  .glo ("led_part" : Str),
  .glo ("led_sum" : Str),
  .glo ("gone" : Str),
  .glo ("way_back" : Str),
  .glo ("extra_turned" : Str),
  .glo ("SIDES" : Str),
  .glo ("BARE_LOWS" : Str),
  .gl ("SUM_WORDS" : Str) g0,
  .gl ("IN_WORDS" : Str) g1,
  .gl ("BARE_WORDS" : Str) g2,
  .gl ("HOLE_WORDS" : Str) g3,
  .gl ("SIZE_WORDS" : Str) g4,
  .gl ("LOSING" : Str) g5,
  .gl ("BARE" : Str) g6,
  .gl ("TWOFOLD" : Str) g7,
  .gl ("SINGLE" : Str) g8,
  .gl ("MOST_KINDS" : Str) g9,
  .gl ("MOST_DEEP" : Str) g10,
  .gl ("MOST_HOLES" : Str) g11,
  .gl ("MOST_PATH" : Str) g12,
  .gl ("MOST_SIZE_steps" : Str) g13,
  .gl ("MOST_LOW" : Str) g14,
  .gl ("PAIRED" : Str) g15,
  .gl ("MOST_SIZE_sides" : Str) g16,
  .dc ("SIDES" : Str) (match g17 with | .dic ks _ => ks | _ => []) (match g17 with | .dic _ vs => vs | _ => []),
  .dc ("BARE_LOWS" : Str) (match g18 with | .dic ks _ => ks | _ => []) (match g18 with | .dic _ vs => vs | _ => []),
  .mis ("BARE_LOWS" : Str) ("this" : Str),
  .mis ("BARE_LOWS" : Str) ("both" : Str),
  .mis ("BARE_LOWS" : Str) ("in" : Str),
  .mis ("BARE_LOWS" : Str) ("point" : Str),
  .mis ("BARE_LOWS" : Str) ("hole" : Str),
  .mis ("BARE_LOWS" : Str) ("sized" : Str),
  .cls ("NoMove" : Str) ("word" : Str) "KindError",
  .xis ("NoMove" : Str) ("KindError" : Str) true,
  .xis ("NoMove" : Str) ("NoExchange" : Str) false,
  .xis ("NoMove" : Str) ("NoKind" : Str) false,
  .xis ("NoMove" : Str) ("NoPaper" : Str) false,
  .xis ("NoMove" : Str) ("TooMany" : Str) false,
  .xis ("NoMove" : Str) ("NoPlace" : Str) false,
  .xis ("NoMove" : Str) ("NoDraw" : Str) false,
  .xis ("NoMove" : Str) ("NoMove" : Str) true,
  .xis ("NoMove" : Str) ("NoName" : Str) false,
  .xis ("NoMove" : Str) ("NoText" : Str) false,
  .xis ("NoMove" : Str) ("NoRow" : Str) false,
  .xis ("NoMove" : Str) ("NoLevel" : Str) false,
  .free "ValueError"]
def tbs : List He.Tab := [(fun K => He.ga K ("SIDES" : Str), [("turn-this" : Str), ("join-this" : Str), ("turn-both" : Str), ("join-both" : Str), ("part" : Str), ("no-this" : Str), ("no-both" : Str), ("unit-both" : Str), ("in-this" : Str), ("in-both" : Str), ("in-in" : Str), ("in-one" : Str), ("of-one" : Str), ("in-unit" : Str), ("in-void" : Str), ("of-void" : Str), ("set-this" : Str), ("set-none" : Str), ("row" : Str), ("hole-row" : Str), ("hole-set" : Str), ("hole-round" : Str), ("hole-one" : Str), ("hole-unit" : Str), ("hole-void" : Str), ("hole-this" : Str), ("hole-both" : Str), ("hole-in" : Str), ("turn-hole" : Str), ("point" : Str), ("cut" : Str), ("size-this" : Str), ("size-point" : Str), ("size-hole" : Str)]), (fun K => He.ga K ("BARE_LOWS" : Str), [("void" : Str), ("unit" : Str), ("one" : Str), ("set" : Str), ("row" : Str), ("round" : Str)])]
def nm0 : List PySem.Str := [("KindError" : Str), ("NoExchange" : Str), ("NoKind" : Str), ("NoPaper" : Str), ("TooMany" : Str), ("NoPlace" : Str), ("NoDraw" : Str), ("NoMove" : Str), ("NoName" : Str), ("NoText" : Str), ("NoRow" : Str), ("NoLevel" : Str), ("PAIRED" : Str), ("inner_kinds" : Str), ("kinds_in" : Str), ("MOST_LOW" : Str), ("BARE_LOWS" : Str), ("by_parts" : Str), ("low_of" : Str), ("needed" : Str), ("needs_of" : Str), ("stands_by" : Str), ("greatest_lows" : Str), ("found_told" : Str), ("is_right" : Str), ("SIDES" : Str), ("MOST_SIZE_sides" : Str), ("fits" : Str), ("filled" : Str), ("sizes_fit" : Str), ("ruled_side" : Str), ("other_side" : Str), ("BARE" : Str), ("TWOFOLD" : Str), ("SINGLE" : Str), ("MOST_KINDS" : Str), ("MOST_DEEP" : Str), ("MOST_HOLES" : Str), ("MOST_PATH" : Str), ("MOST_SIZE_steps" : Str)]
def nm1 : List PySem.Str := [("SUM_WORDS" : Str), ("IN_WORDS" : Str), ("BARE_WORDS" : Str), ("HOLE_WORDS" : Str), ("SIZE_WORDS" : Str), ("LOSING" : Str), ("is_whole" : Str), ("inner_of" : Str), ("measured" : Str), ("fits_wide" : Str), ("is_wide" : Str), ("is_word" : Str), ("is_path" : Str), ("is_extra" : Str), ("is_step" : Str), ("parts_many" : Str), ("part_at" : Str), ("put_at" : Str), ("gone" : Str), ("moved_by" : Str), ("HOLE" : Str), ("hole_of" : Str), ("hole_of_structs" : Str), ("names_of" : Str), ("from_least" : Str), ("hole_put" : Str), ("in_put" : Str), ("put_by" : Str), ("carried_by" : Str), ("put_on" : Str), ("closed_up" : Str), ("ranks_of" : Str), ("laid" : Str), ("picked" : Str), ("in_this_led" : Str), ("in_both_there" : Str), ("in_both_back" : Str), ("in_in_there" : Str), ("in_in_back" : Str), ("of_one_led" : Str)]
def nm2 : List PySem.Str := [("set_of" : Str), ("set_this_led" : Str), ("led_in" : Str), ("hole_of_holeleads" : Str), ("without" : Str), ("turned_to" : Str), ("holed" : Str), ("row_led" : Str), ("hole_row_led" : Str), ("hole_round_led" : Str), ("led_bare" : Str), ("hole_both_there" : Str), ("unholed" : Str), ("hole_both_back" : Str), ("hole_in_there" : Str), ("hole_in_back" : Str), ("turn_hole_led" : Str), ("point_led" : Str), ("led_hole" : Str), ("join_this_there" : Str), ("join_this_back" : Str), ("join_both_led" : Str), ("part_led" : Str), ("led_sum" : Str), ("led_size" : Str), ("led_part" : Str), ("led_at" : Str), ("led_by" : Str), ("extra_turned" : Str), ("way_back" : Str), ("_law_feed" : Str), ("_law_take" : Str), ("_law_told" : Str), ("_law_tree" : Str), ("_law_chain" : Str), ("_law_many_right" : Str), ("_law_deep_right" : Str), ("_law_holes_right" : Str), ("_law_rule_right" : Str), ("_law_blocks_right" : Str)]
def nm3 : List PySem.Str := [("_law_long_right" : Str)]
def nms : List PySem.Str := nm0 ++ nm1 ++ nm2 ++ nm3
abbrev R : OpenRow := OpenLaw.row PySem.Challenge.rw_kindmakes_k59_too_wide_or_not_right
def ads : List Addr := [3, 2, 301, 252, 24, 44, 63, 82, 101, 120, 139, 158, 177, 196, 215, 234, 23, 43, 62, 81, 100, 119, 138, 157, 176, 195, 214, 233, 22, 25, 41, 42, 60, 61, 79, 80, 98, 99, 117, 118, 136, 137, 155, 156, 174, 175, 193, 194, 212, 213, 231, 232, 40, 59, 78, 97, 116, 135, 154, 173, 192, 211, 230, 918, 925, 932, 939, 946, 953, 960, 967, 974, 981, 988, 995, 603, 568, 549, 554, 514, 561, 542, 528, 521, 535, 582, 575, 589, 498, 491, 472, 477, 484, 300, 293, 288, 264, 259, 283, 251, 244, 278, 271, 897, 890, 885, 871, 596, 911, 904, 917, 924, 931, 938, 945, 952, 959, 966, 973, 980, 987, 994, 602, 567, 548, 553, 513, 560, 541, 527, 520, 534, 581, 574, 588, 497, 490, 471, 476, 483, 299, 292, 287, 263, 258, 282, 250, 243, 277, 270, 896, 889, 884, 870, 595, 910, 903, 502, 503, 504, 505, 506, 507, 499, 500, 501, 237, 323, 326, 330, 353, 360, 364, 411, 446, 319, 322, 325, 328, 329, 352, 358, 359, 362, 363, 409, 410, 442, 445, 318, 320, 321, 324, 327, 351, 357, 361, 408, 443, 444]
abbrev hk : Hook := hookP ads fxs wd dl tbs
abbrev ob : SharedT → AlP := obP ads fxs wd dl tbs
theorem run_false (w : World) : HandSHeadRun.RunEq R (view R.prog [137]) hk ob 12000 nms (w.withFollow "special-get-raises" false) := by
  intro os
  kernel_rfl
theorem run_true (w : World) : HandSHeadRun.RunEq R (view R.prog [137]) hk ob 12000 nms (w.withFollow "special-get-raises" true) := by
  intro os
  kernel_rfl
theorem run (w : World) : HandSHeadRun.RunEq R (view R.prog [137]) hk ob 12000 nms w :=
  byRow2 "special-get-raises" (P := fun w => HandSHeadRun.RunEq R (view R.prog [137]) hk ob 12000 nms w) run_false run_true w
end K59
/-! How data lie in the abstract heap. -/
namespace PD
open PySem L2

/-- what is fixed through a law: the written part, the words, the written constants -/
structure Cs where
  K : PySem.W.Frag
  W : List Str
  w : World
def Cs.key (c : Cs) : DK → Option Key
  | .i n => some (.inl n)
  | .w k => (c.W[k]?).map .inr
mutual
def toPy (W : List Str) : D → PyData
  | .non => .none
  | .bl b => .bool b
  | .int i => .int i
  | .w k => .str (W.getD k ⟨#[]⟩)
  | .rp _ => .none
  | .scr _ => .none
  | .tup xs => .tuple (toPys W xs)
  | .lst xs => .list (toPys W xs)
  | .dic _ _ => .none
def toPys (W : List Str) : List D → List PyData
  | [] => []
  | x :: r => toPy W x :: toPys W r
end
/-- a dict's pairs by keys and values -/
inductive Keys (c : Cs) : List (Key × V) → List DK → Prop where
  | nil : Keys c [] []
  | cons {k : Key} {v : V} {kvs : List (Key × V)} {q : DK} {qs : List DK} : c.key q = some k → Keys c kvs qs → Keys c ((k, v) :: kvs) (q :: qs)
mutual
inductive Rep (c : Cs) (G : Hp) : V → D → Prop where
  | non : Rep c G .non .non
  | bl (b : Bool) : Rep c G (.bl b) (.bl b)
  | int (i : Int) : Rep c G (.int i) (.int i)
  | w {k : Nat} {x : Str} : c.W[k]? = some x → Rep c G (.str x) (.w k)
  | rp {d : D} {x : Str} : x = (toPy c.W d).shown → Rep c G (.str x) (.rp d)
  | tup {a : Addr} {xs : List V} {ds : List D} : SqT c.K G a xs → Reps c G xs ds → Rep c G (.ref a) (.tup ds)
  | scr {a : Addr} {ns : List Int} : SqL c.K G a (ns.map V.int) → Rep c G (.ref a) (.scr ns)
  | lst {a : Addr} {xs : List V} {ds : List D} : G a = some (.lst xs) → Reps c G xs ds → Rep c G (.ref a) (.lst ds)
  | dic {a : Addr} {kvs : List (Key × V)} {ks : List DK} {ds : List D} : G a = some (.dK kvs) → Keys c kvs ks → Reps c G (kvs.map (·.2)) ds → Rep c G (.ref a) (.dic ks ds)
inductive Reps (c : Cs) (G : Hp) : List V → List D → Prop where
  | nil : Reps c G [] []
  | cons {v : V} {vs : List V} {d : D} {ds : List D} : Rep c G v d → Reps c G vs ds → Reps c G (v :: vs) (d :: ds)
end
section
variable {c : Cs} {G G' H H' : Hp}
theorem same_t {K : PySem.W.Frag} {a : Addr} {xs : List V} (e : Same H H') (h : SqT K H a xs) : SqT K H' a xs := by
  rcases h with (h | ⟨o, h⟩) | h
  · exact .inl (.inl (e _ _ h))
  · exact .inl (.inr ⟨o, e _ _ h⟩)
  · exact .inr h
mutual
theorem Rep.mono (e : Same G G') : ∀ {v : V} {d : D}, Rep c G v d → Rep c G' v d
  | _, _, .non => .non
  | _, _, .bl b => .bl b
  | _, _, .int i => .int i
  | _, _, .w h => .w h
  | _, _, .rp h => .rp h
  | _, _, .tup h r => .tup (same_t e h) (Reps.mono e r)
  | _, _, .scr h => .scr (e.seq h)
  | _, _, .lst h r => .lst (e _ _ h) (Reps.mono e r)
  | _, _, .dic h k r => .dic (e _ _ h) k (Reps.mono e r)
theorem Reps.mono (e : Same G G') : ∀ {v : List V} {d : List D}, Reps c G v d → Reps c G' v d
  | _, _, .nil => .nil
  | _, _, .cons h r => .cons (Rep.mono e h) (Reps.mono e r)
end
theorem Reps.length : ∀ {vs : List V} {ds : List D}, Reps c G vs ds → vs.length = ds.length
  | _, _, .nil => rfl
  | _, _, .cons _ r => congrArg (· + 1) (Reps.length r)
theorem Reps.get : ∀ {vs : List V} {ds : List D} {i : Nat} {d : D}, Reps c G vs ds → ds[i]? = some d → ∃ v, vs[i]? = some v ∧ Rep c G v d
  | _, _, _, _, .nil, h => by simp at h
  | _, _, 0, _, .cons h _, e => by
    simp at e
    subst e
    exact ⟨_, rfl, h⟩
  | _, _, i + 1, _, .cons _ r, e => by
    obtain ⟨v, h1, h2⟩ := Reps.get (i := i) r (by simpa using e)
    exact ⟨v, by simpa using h1, h2⟩
theorem Reps.app : ∀ {vs us : List V} {ds es : List D}, Reps c G vs ds → Reps c G us es → Reps c G (vs ++ us) (ds ++ es)
  | _, _, _, _, .nil, s => s
  | _, _, _, _, .cons h r, s => .cons h (Reps.app r s)
theorem Reps.take : ∀ (n : Nat) {vs : List V} {ds : List D}, Reps c G vs ds → Reps c G (vs.take n) (ds.take n)
  | 0, _, _, _ => .nil
  | _ + 1, _, _, .nil => .nil
  | n + 1, _, _, .cons h r => .cons h (Reps.take n r)
theorem Reps.drop : ∀ (n : Nat) {vs : List V} {ds : List D}, Reps c G vs ds → Reps c G (vs.drop n) (ds.drop n)
  | 0, _, _, r => r
  | _ + 1, _, _, .nil => .nil
  | n + 1, _, _, .cons _ r => Reps.drop n r
theorem Reps.set {v : V} {d : D} (h : Rep c G v d) : ∀ (n : Nat) {vs : List V} {ds : List D}, Reps c G vs ds → Reps c G (vs.set n v) (ds.set n d)
  | _, _, _, .nil => .nil
  | 0, _, _, .cons _ r => .cons h r
  | n + 1, _, _, .cons q r => .cons q (Reps.set h n r)
theorem Reps.erase : ∀ (n : Nat) {vs : List V} {ds : List D}, Reps c G vs ds → Reps c G (vs.eraseIdx n) (ds.eraseIdx n)
  | _, _, _, .nil => .nil
  | 0, _, _, .cons _ r => r
  | n + 1, _, _, .cons q r => .cons q (Reps.erase n r)
theorem Reps.dropLast : ∀ {vs : List V} {ds : List D}, Reps c G vs ds → Reps c G vs.dropLast ds.dropLast
  | _, _, .nil => .nil
  | _, _, .cons _ .nil => .nil
  | _, _, .cons h (.cons h2 r) => .cons h (Reps.dropLast (.cons h2 r))
theorem Reps.rev : ∀ {vs : List V} {ds : List D}, Reps c G vs ds → Reps c G vs.reverse ds.reverse
  | _, _, .nil => .nil
  | _, _, .cons h r => by
    rw [List.reverse_cons, List.reverse_cons]
    exact Reps.app (Reps.rev r) (.cons h .nil)
theorem Reps.rep (n : Nat) {vs : List V} {ds : List D} (h : Reps c G vs ds) : Reps c G (List.replicate n vs).flatten (List.replicate n ds).flatten := by
  induction n with
  | zero => exact .nil
  | succ n ih =>
    rw [List.replicate_succ, List.replicate_succ, List.flatten_cons, List.flatten_cons]
    exact Reps.app h ih
theorem Reps.nilI {vs : List V} {ds : List D} (h : Reps c G vs ds) : vs = [] ↔ ds = [] := by
  cases h with
  | nil => simp
  | cons _ _ => simp
theorem Reps.mem : ∀ {vs : List V} {ds : List D}, Reps c G vs ds → ∀ v ∈ vs, ∃ d ∈ ds, Rep c G v d
  | _, _, .nil, v, h => by simp at h
  | _, _, .cons q r, v, h => by
    rcases List.mem_cons.mp h with e | h
    · subst e
      exact ⟨_, List.mem_cons_self, q⟩
    · obtain ⟨d, hd, k⟩ := Reps.mem r v h
      exact ⟨d, List.mem_cons_of_mem _ hd, k⟩
theorem Reps.toInts : ∀ {vs : List V} {ds : List D} {ns : List Int}, Reps c G vs ds → intsD ds = some ns → vs = ns.map V.int
  | _, _, _, .nil, h => by
    simp [PD.intsD] at h
    subst h
    rfl
  | _, _, _, .cons (d := .int i) (ds := ds) q r, h => by
    unfold PD.intsD at h
    obtain ⟨ms, h1, h2⟩ := Option.map_eq_some_iff.mp h
    subst h2
    cases q
    rw [Reps.toInts r h1]
    rfl
  | _, _, _, .cons (d := .non) q r, h | _, _, _, .cons (d := .bl _) q r, h | _, _, _, .cons (d := .w _) q r, h | _, _, _, .cons (d := .rp _) q r, h | _, _, _, .cons (d := .scr _) q r, h
  | _, _, _, .cons (d := .tup _) q r, h | _, _, _, .cons (d := .lst _) q r, h | _, _, _, .cons (d := .dic _ _) q r, h => by simp [PD.intsD] at h
theorem Reps.ofInts : ∀ (ns : List Int), Reps c G (ns.map V.int) (ns.map D.int)
  | [] => .nil
  | n :: r => .cons (.int n) (Reps.ofInts r)

/-! ### an object that may be changed -/
def OwnAt (c : Cs) (H G : Hp) (a : Addr) : D → Prop
  | .lst ds => ∃ vs, H a = some (.lst vs) ∧ Reps c G vs ds
  | .dic ks ds => ∃ kvs, H a = some (.dK kvs) ∧ Keys c kvs ks ∧ Reps c G (kvs.map (·.2)) ds
  | _ => False
theorem OwnAt.some {a : Addr} {d : D} (h : OwnAt c H G a d) : ∃ o, H a = some o := by
  cases d with
  | lst ds => obtain ⟨vs, e, _⟩ := h; exact ⟨_, e⟩
  | dic ks ds => obtain ⟨vs, e, _⟩ := h; exact ⟨_, e⟩
  | _ => exact h.elim
theorem OwnAt.mono {a : Addr} {d : D} (h : OwnAt c H G a d) (e : H' a = H a) (g : Same G G') : OwnAt c H' G' a d := by
  cases d with
  | lst ds => obtain ⟨vs, q, r⟩ := h; exact ⟨vs, by rw [e]; exact q, r.mono g⟩
  | dic ks ds => obtain ⟨vs, q, k, r⟩ := h; exact ⟨vs, by rw [e]; exact q, k, r.mono g⟩
  | _ => exact h.elim
/-- it is changed no more -/
theorem OwnAt.rep {a : Addr} {d : D} (h : OwnAt c H G a d) (g : Same G G') (e : G' a = H a) : Rep c G' (.ref a) d := by
  cases d with
  | lst ds => obtain ⟨vs, q, r⟩ := h; exact .lst (by rw [e]; exact q) (r.mono g)
  | dic ks ds => obtain ⟨vs, q, k, r⟩ := h; exact .dic (by rw [e]; exact q) k (r.mono g)
  | _ => exact h.elim
/-- it is looked at -/
theorem OwnAt.seen {a : Addr} {d : D} (h : OwnAt c H G a d) (g : Same G H) : Rep c H (.ref a) d := h.rep g rfl

/-! ### what a body knows -/
structure Bs where
  cs : Cs
  H0 : Hp
  G0 : Hp
  L : List (Nat × Addr)
def isOwn : Fl → Bool
  | .own => true
  | .lent => true
  | _ => false
def CellAt (b : Bs) (H G : Hp) (i : Nat) (d : D) (v : V) : Fl → Prop
  | .fro => Rep b.cs G v d
  | .lfro => Rep b.cs G v d ∧ ∃ a, v = .ref a ∧ (i, a) ∈ b.L
  | .own => ∃ a, v = .ref a ∧ G a = none ∧ b.H0 a = none ∧ OwnAt b.cs H G a d
  | .lent => ∃ a, v = .ref a ∧ G a = none ∧ (i, a) ∈ b.L ∧ OwnAt b.cs H G a d
structure Sat (b : Bs) (σ : L2.St) (H G : Hp) (env : Env) : Prop where
  len : env.length = σ.length
  ex : Same G H
  ex0 : Same b.G0 G
  keep : ∀ p o, b.H0 p = some o → (∀ q ∈ b.L, q.2 ≠ p) → H p = some o
  new : ∀ p o, G p = some o → b.G0 p = some o ∨ b.H0 p = none ∨ ∃ q ∈ b.L, q.2 = p
  lents : ∀ q ∈ b.L, ∃ o, H q.2 = some o
  slot : ∀ (i : Nat) (f : Fl) (d : D), env[i]? = some (some (f, d)) → ∃ v, σ[i]? = some (some v) ∧ CellAt b H G i d v f
  apart : ∀ (i j : Nat) (f g : Fl) (d e : D) (a : Addr), env[i]? = some (some (f, d)) → env[j]? = some (some (g, e)) → isOwn f = true → isOwn g = true → σ[i]? = some (some (V.ref a)) → σ[j]? = some (some (V.ref a)) → i = j
/-- a value as it comes -/
def ResAt (b : Bs) (σ : L2.St) (H G : Hp) (env : Env) (v : V) (d : D) : Bool → Prop
  | false => Rep b.cs G v d
  | true => ∃ a, v = .ref a ∧ G a = none ∧ b.H0 a = none ∧ OwnAt b.cs H G a d ∧ ∀ (i : Nat) (f : Fl) (e : D), env[i]? = some (some (f, e)) → isOwn f = true → σ[i]? ≠ some (some (V.ref a))
variable {b : Bs} {σ : L2.St} {env env' : Env}
theorem CellAt.mono {i : Nat} {d : D} {v : V} {f : Fl} (h : CellAt b H G i d v f) (g : Same G G') (k : ∀ a, v = .ref a → G a = none → (∃ o, H a = some o) → isOwn f = true → G' a = none ∧ H' a = H a) : CellAt b H' G' i d v f := by
  cases f with
  | fro => exact Rep.mono g h
  | lfro => exact ⟨Rep.mono g h.1, h.2⟩
  | own =>
    obtain ⟨a, e, n, m, o⟩ := h
    obtain ⟨k1, k2⟩ := k a e n o.some rfl
    exact ⟨a, e, k1, m, o.mono k2 g⟩
  | lent =>
    obtain ⟨a, e, n, m, o⟩ := h
    obtain ⟨k1, k2⟩ := k a e n o.some rfl
    exact ⟨a, e, k1, m, o.mono k2 g⟩
theorem CellAt.isRef {i : Nat} {d : D} {v : V} {f : Fl} (h : CellAt b H G i d v f) (hf : isOwn f = true) : ∃ a, v = .ref a ∧ G a = none ∧ OwnAt b.cs H G a d ∧ (b.H0 a = none ∨ (i, a) ∈ b.L) := by
  cases f with
  | fro => cases hf
  | lfro => cases hf
  | own => obtain ⟨a, e, n, m, o⟩ := h; exact ⟨a, e, n, o, .inl m⟩
  | lent => obtain ⟨a, e, n, m, o⟩ := h; exact ⟨a, e, n, o, .inr m⟩
/-- a new object, known from now on -/
theorem Sat.laid (S : Sat b σ H G env) {p : Addr} {o : HO} (hp : H p = none) : Same G (upd G p o) ∧ Sat b σ (upd H p o) (upd G p o) env := by
  have gp : G p = none := S.ex.free hp
  have g1 : Same G (upd G p o) := fun a u e => by rw [upd_ne (ne_of_none e gp)]; exact e
  refine ⟨g1, S.len, fun a u e => ?_, S.ex0.trans g1, fun a u e k => ?_, fun a u e => ?_, fun q hq => ?_, fun i f d e => ?_, S.apart⟩
  · by_cases h : a = p
    · subst h; rw [upd_same] at e ⊢; exact e
    · rw [upd_ne h] at e ⊢; exact S.ex _ _ e
  · have h := S.keep a u e k
    rw [upd_ne (ne_of_none h hp)]; exact h
  · by_cases h : a = p
    · subst h
      cases q : b.H0 a with
      | none => exact .inr (.inl rfl)
      | some z =>
        by_cases hl : ∃ q ∈ b.L, q.2 = a
        · exact .inr (.inr hl)
        · have := S.keep a z q fun r hr er => hl ⟨r, hr, er⟩
          rw [hp] at this; cases this
    · rw [upd_ne h] at e; exact S.new _ _ e
  · obtain ⟨z, hz⟩ := S.lents q hq
    exact ⟨z, by rw [upd_ne (ne_of_none hz hp)]; exact hz⟩
  · obtain ⟨v, hv, k⟩ := S.slot i f d e
    refine ⟨v, hv, k.mono g1 fun a ea n ⟨z, hz⟩ _ => ?_⟩
    have ne : a ≠ p := ne_of_none hz hp
    exact ⟨by rw [upd_ne ne]; exact n, by rw [upd_ne ne]⟩
/-- a new object of one's own -/
theorem Sat.made (S : Sat b σ H G env) {p : Addr} {o : HO} (hp : H p = none) : Sat b σ (upd H p o) G env ∧ G p = none ∧ b.H0 p = none ∧ ∀ (i : Nat) (f : Fl) (e : D), env[i]? = some (some (f, e)) → isOwn f = true → σ[i]? ≠ some (some (V.ref p)) := by
  have gp : G p = none := S.ex.free hp
  have h0 : b.H0 p = none := by
    cases q : b.H0 p with
    | none => rfl
    | some z =>
      by_cases hl : ∃ q ∈ b.L, q.2 = p
      · obtain ⟨r, hr, er⟩ := hl
        obtain ⟨u, hu⟩ := S.lents r hr
        rw [er, hp] at hu; cases hu
      · have := S.keep p z q fun r hr er => hl ⟨r, hr, er⟩
        rw [hp] at this; cases this
  refine ⟨⟨S.len, fun a u e => ?_, S.ex0, fun a u e k => ?_, S.new, fun q hq => ?_, fun i f d e => ?_, S.apart⟩, gp, h0, fun i f e he hf hs => ?_⟩
  · rw [upd_ne (ne_of_none e gp)]; exact S.ex _ _ e
  · have h := S.keep a u e k
    rw [upd_ne (ne_of_none h hp)]; exact h
  · obtain ⟨z, hz⟩ := S.lents q hq
    exact ⟨z, by rw [upd_ne (ne_of_none hz hp)]; exact hz⟩
  · obtain ⟨v, hv, k⟩ := S.slot i f d e
    refine ⟨v, hv, k.mono (Same.refl G) fun a ea n ⟨z, hz⟩ _ => ?_⟩
    have ne : a ≠ p := ne_of_none hz hp
    exact ⟨n, by rw [upd_ne ne]⟩
  · obtain ⟨v, hv, k⟩ := S.slot i f e he
    rw [hs] at hv; cases hv
    obtain ⟨a, ea, _, ow, _⟩ := k.isRef hf
    cases ea
    obtain ⟨z, hz⟩ := ow.some
    rw [hp] at hz; cases hz
/-- an object of one's own, or a lent one, is changed -/
theorem Sat.write (S : Sat b σ H G env) {i : Nat} {f : Fl} {d d' : D} {a : Addr} {o : HO} (he : env[i]? = some (some (f, d))) (hf : isOwn f = true) (hs : σ[i]? = some (some (V.ref a))) (ow : OwnAt b.cs (upd H a o) G a d') :
    Sat b σ (upd H a o) G (env.set i (some (f, d'))) := by
  obtain ⟨v, hv, k⟩ := S.slot i f d he
  rw [hs] at hv; cases hv
  obtain ⟨a', ea, ga, _, hh⟩ := k.isRef hf
  cases ea
  have hi : i < env.length := (List.getElem?_eq_some_iff.mp he).1
  refine ⟨by rw [List.length_set]; exact S.len, fun p u e => ?_, S.ex0, fun p u e kk => ?_, S.new, fun q hq => ?_, fun j g e hj => ?_, fun j l g g' e e' x hj hl h1 h2 s1 s2 => ?_⟩
  · rw [upd_ne (ne_of_none e ga)]; exact S.ex _ _ e
  · have ne : p ≠ a := by
      rintro rfl
      rcases hh with h | h
      · rw [e] at h; cases h
      · exact kk _ h rfl
    rw [upd_ne ne]; exact S.keep _ _ e kk
  · by_cases h : q.2 = a
    · exact ⟨o, by rw [h, upd_same]⟩
    · obtain ⟨z, hz⟩ := S.lents q hq
      exact ⟨z, by rw [upd_ne h]; exact hz⟩
  · by_cases hij : j = i
    · subst hij
      rw [List.getElem?_set_self hi] at hj
      cases hj
      refine ⟨.ref a, hs, ?_⟩
      cases f with
      | fro => cases hf
      | lfro => cases hf
      | own => obtain ⟨x, ex, n, m, _⟩ := k; cases ex; exact ⟨_, rfl, n, m, ow⟩
      | lent => obtain ⟨x, ex, n, m, _⟩ := k; cases ex; exact ⟨_, rfl, n, m, ow⟩
    · rw [List.getElem?_set_ne (Ne.symm hij)] at hj
      obtain ⟨u, hu, ku⟩ := S.slot j g e hj
      refine ⟨u, hu, ku.mono (Same.refl G) fun x ex n _ og => ⟨n, ?_⟩⟩
      have ne : x ≠ a := by
        rintro rfl
        subst ex
        exact hij (S.apart j i g f e d _ hj he og hf hu hs)
      rw [upd_ne ne]
  · have hj' : ∃ e0 g0, env[j]? = some (some (g0, e0)) ∧ isOwn g0 = true := by
      by_cases hji : j = i
      · subst hji; exact ⟨d, f, he, hf⟩
      · rw [List.getElem?_set_ne (Ne.symm hji)] at hj; exact ⟨_, _, hj, h1⟩
    have hl' : ∃ e0 g0, env[l]? = some (some (g0, e0)) ∧ isOwn g0 = true := by
      by_cases hli : l = i
      · subst hli; exact ⟨d, f, he, hf⟩
      · rw [List.getElem?_set_ne (Ne.symm hli)] at hl; exact ⟨_, _, hl, h2⟩
    obtain ⟨e1, g1, q1, o1⟩ := hj'
    obtain ⟨e2, g2, q2, o2⟩ := hl'
    exact S.apart j l g1 g2 e1 e2 x q1 q2 o1 o2 s1 s2
/-- from now on it is held by more than its name -/
theorem Sat.frozen (S : Sat b σ H G env) {i : Nat} {f : Fl} {d : D} (he : env[i]? = some (some (f, d))) : ∃ G' v, Same G G' ∧ Sat b σ H G' (env.set i (some (frz f, d))) ∧ σ[i]? = some (some v) ∧ Rep b.cs G' v d := by
  obtain ⟨v, hv, k⟩ := S.slot i f d he
  have hi : i < env.length := (List.getElem?_eq_some_iff.mp he).1
  by_cases hf : isOwn f = true
  · obtain ⟨a, ea, ga, ow, hh⟩ := k.isRef hf
    subst ea
    obtain ⟨z, hz⟩ := ow.some
    have g1 : Same G (upd G a z) := fun p u e => by rw [upd_ne (ne_of_none e ga)]; exact e
    have r1 : Rep b.cs (upd G a z) (.ref a) d := ow.rep g1 (by rw [upd_same, hz])
    refine ⟨upd G a z, .ref a, g1, ⟨by rw [List.length_set]; exact S.len, fun p u e => ?_, S.ex0.trans g1, S.keep, fun p u e => ?_, S.lents, fun j g e hj => ?_, fun j l g g' e e' x hj hl h1 h2 s1 s2 => ?_⟩, hv, r1⟩
    · by_cases h : p = a
      · subst h; rw [upd_same] at e; cases e; exact hz
      · rw [upd_ne h] at e; exact S.ex _ _ e
    · by_cases h : p = a
      · subst h
        rcases hh with q | q
        · exact .inr (.inl q)
        · exact .inr (.inr ⟨_, q, rfl⟩)
      · rw [upd_ne h] at e; exact S.new _ _ e
    · by_cases hij : j = i
      · subst hij
        rw [List.getElem?_set_self hi] at hj
        cases hj
        refine ⟨.ref a, hv, ?_⟩
        cases f with
        | fro => cases hf
        | lfro => cases hf
        | own => exact r1
        | lent => obtain ⟨x, ex, n, m, _⟩ := k; cases ex; exact ⟨r1, _, rfl, m⟩
      · rw [List.getElem?_set_ne (Ne.symm hij)] at hj
        obtain ⟨u, hu, ku⟩ := S.slot j g e hj
        refine ⟨u, hu, ku.mono g1 fun x ex n _ og => ⟨?_, rfl⟩⟩
        have ne : x ≠ a := by
          rintro rfl
          subst ex
          exact hij (S.apart j i g f e d _ hj he og hf hu hv)
        rw [upd_ne ne]; exact n
    · have up : ∀ {m : Nat} {g : Fl} {e : D}, (env.set i (some (frz f, d)))[m]? = some (some (g, e)) → isOwn g = true → env[m]? = some (some (g, e)) := by
        intro m g e hm hg
        by_cases hmi : m = i
        · subst hmi
          rw [List.getElem?_set_self hi] at hm
          cases hm
          cases f <;> cases hg
        · rw [List.getElem?_set_ne (Ne.symm hmi)] at hm; exact hm
      exact S.apart j l g g' e e' x (up hj h1) (up hl h2) h1 h2 s1 s2
  · have e1 : frz f = f := by cases f <;> first | rfl | exact absurd rfl hf
    have e2 : env.set i (some (frz f, d)) = env := by
      rw [e1]
      exact List.ext_getElem? fun j => by
        by_cases hij : j = i
        · subst hij; rw [List.getElem?_set_self hi, he]
        · rw [List.getElem?_set_ne (Ne.symm hij)]
    rw [e2]
    refine ⟨G, v, Same.refl G, S, hv, ?_⟩
    cases f with
    | fro => exact k
    | lfro => exact k.1
    | own => exact absurd rfl hf
    | lent => exact absurd rfl hf
theorem Sat.tail (S : Sat b σ H G env) {own : Bool} {v : V} {d : D} (r : ResAt b σ H G env v d own) : ∃ G', Same G G' ∧ Sat b σ H G' env ∧ Rep b.cs G' v d := by
  cases own with
  | false => exact ⟨G, Same.refl G, S, r⟩
  | true =>
    obtain ⟨a, ea, ga, ha, ow, hn⟩ := r
    subst ea
    obtain ⟨z, hz⟩ := ow.some
    have g1 : Same G (upd G a z) := fun p u e => by rw [upd_ne (ne_of_none e ga)]; exact e
    refine ⟨upd G a z, g1, ⟨S.len, fun p u e => ?_, S.ex0.trans g1, S.keep, fun p u e => ?_, S.lents, fun j g e hj => ?_, S.apart⟩, ow.rep g1 (by rw [upd_same, hz])⟩
    · by_cases h : p = a
      · subst h; rw [upd_same] at e; cases e; exact hz
      · rw [upd_ne h] at e; exact S.ex _ _ e
    · by_cases h : p = a
      · subst h; exact .inr (.inl ha)
      · rw [upd_ne h] at e; exact S.new _ _ e
    · obtain ⟨u, hu, ku⟩ := S.slot j g e hj
      refine ⟨u, hu, ku.mono g1 fun x ex n _ og => ⟨?_, rfl⟩⟩
      have ne : x ≠ a := by
        rintro rfl
        subst ex
        exact hn j g e hj og hu
      rw [upd_ne ne]; exact n
end
end PD
set_option maxHeartbeats 4000000
/-! tuple * int, any int. -/
namespace PD
open PySem L2 PySem.Spec PyProof.Rows
theorem tup_mul1 (l : Addr) (items : Array Value) (n : Nat) (sl : Array (Option Value)) (dd : Option Addr) (x : Int) (u : Tok) (c0 : (decide (x < -(2 ^ 63)) || decide (x ≥ 2 ^ 63)) = false) (c1 : (items.isEmpty || x == 1) = true) :
    Meets (Builtin.«tuple.__mul__» ⟨[.ref l, .int x u], []⟩) (fun _ R s => s.heap.get? l = some { cls := .type "tuple", dict := dd, data := .seq items n, slots := sl } ∧ ∀ t', R (.ok (.ret (Value.ref l))) { s with toks := t' }) :=
  .of_wp fun prog w A R s h => by
    obtain ⟨hp, g, d, tk, os⟩ := s
    obtain ⟨hl, h⟩ := h
    have f1 := AutoSeq1.idx_int
    wp_walk using wpAny_loadPart' hl
    repeat (first
      | (refine wpAny_ite_false (decide_eq_false (by rw [c0]; exact Bool.false_ne_true)) ?_; wp_walk using wpAny_loadPart' hl)
      | (refine wpAny_ite_true (decide_eq_true (by rw [c1])) ?_; wp_walk using wpAny_loadPart' hl))
    exact ⟨_, rfl, h _⟩
theorem tup_mul0 (l : Addr) (items : Array Value) (n : Nat) (dd : Option Addr) (sl : Array (Option Value)) (x : Int) (u : Tok) (c0 : (decide (x < -(2 ^ 63)) || decide (x ≥ 2 ^ 63)) = false) (c1 : (items.isEmpty || x == 1) = false) (c2 : (decide (x ≤ 0) || items.isEmpty) = true) :
    Meets (Builtin.«tuple.__mul__» ⟨[.ref l, .int x u], []⟩) (fun _ R s => s.heap.get? l = some { cls := .type "tuple", dict := dd, data := .seq items n, slots := sl } ∧
      R (.ok (.ret (Value.ref s.heap.objs.size))) { s with heap := s.heap.push { cls := Value.type "tuple", data := Data.seq #[] }, toks := s.toks }) :=
  .of_wp fun prog w A R s h => by
    obtain ⟨hp, g, d, tk, os⟩ := s
    obtain ⟨hl, h⟩ := h
    have f1 := AutoSeq1.idx_int
    wp_walk using wpAny_loadPart' hl
    repeat (first
      | (refine wpAny_ite_false (decide_eq_false (by rw [c0]; exact Bool.false_ne_true)) ?_; wp_walk using wpAny_loadPart' hl)
      | (refine wpAny_ite_false (decide_eq_false (by rw [c1]; exact Bool.false_ne_true)) ?_; wp_walk using wpAny_loadPart' hl)
      | (refine wpAny_ite_true (decide_eq_true (by rw [c2])) ?_; wp_walk using wpAny_loadPart' hl))
    exact ⟨_, rfl, h⟩
def rRepA (K : PySem.W.Frag) : R2 := fun x y H Q => ∃ l k xs, x = .ref l ∧ y = .int k ∧ SqT K H l xs ∧ -1000 ≤ k ∧ k ≤ 1000 ∧ xs.length ≤ 1000 ∧ ((k = 1 ∨ xs = []) → Q (.ref l) H) ∧ (¬ (k = 1 ∨ xs = []) → ∀ p, H p = none → Q (.ref p) (upd H p (.tup (List.replicate k.toNat xs).flatten)))
theorem op_repA {X : Cx} : OpR X (binaryOp .Mult) (rRepA X.K) := by
  intro pins s σ H x y v u Q I rx ry h
  obtain ⟨l, k, xs, rfl, rfl, hT, h1, h2, hz, q1, q2⟩ := h
  by_cases big : 2 ≤ k ∧ xs ≠ []
  · exact op_repT pins s σ H _ _ v u Q I rx ry ⟨l, k, xs, rfl, rfl, hT, big.2, big.1, h2, hz, q2 fun z => z.elim (fun e => by omega) big.2⟩
  cases rx
  obtain ⟨t, rfl⟩ := ry
  obtain ⟨its, r, ⟨⟨cls, dd, data, sl⟩, ho, hc, n, hd⟩, hs⟩ := I.tuple hT
  simp only at hc hd
  subst hc hd
  have hle : its.length = xs.length := r.length.symm
  have c0 : (decide (k < -(2 ^ 63)) || decide (k ≥ 2 ^ 63)) = false := by
    rw [decide_eq_false (by omega), decide_eq_false (by omega)] <;> rfl
  have hi : its.toArray.isEmpty = xs.isEmpty := by
    cases its with
    | nil =>
      cases xs with
      | nil => rfl
      | cons _ _ => simp at hle
    | cons a b =>
      cases xs with
      | nil => simp at hle
      | cons _ _ => rfl
  by_cases one : k = 1 ∨ xs = []
  · have c1 : (its.toArray.isEmpty || k == 1) = true := by
      rw [hi]
      rcases one with e | e
      · subst e; simp
      · subst e; rfl
    refine wpAny_binaryOp_repeat_ref (T := "tuple") (U := "int") (by decide) ⟨_, ho, rfl⟩ (fun s' => typeIs_int s' k t) noFill_tuple_mul F.fills_int_mul F.slot_int_rmul repeat_tuple F.slot_int_index.lookup
      (call_meets F.slot_int_rmul (typeIs_int s k t) F.entry_int_rmul (F.args_int_rmul_2 _ _) (int_rmul_tuple k t l its.toArray n dd sl)
        ⟨ho, rfl, ⟨_, ho, rfl⟩, call_meets F.slot_tuple_mul ⟨_, ho, rfl⟩ F.entry_tuple_mul (F.args_tuple_mul_2 _ _) (tup_mul1 l its.toArray n sl dd k t c0 c1) ⟨ho, fun t' => ?_⟩⟩)
    exact ⟨.ref l, H, I.kept (t' := t') fun _ _ z => z, rfl, q1 one⟩
  · have hne : xs ≠ [] := fun e => one (.inr e)
    have k0 : k ≤ 0 := by
      have : ¬ (2 ≤ k) := fun z => big ⟨z, hne⟩
      have : k ≠ 1 := fun z => one (.inl z)
      omega
    have hie : xs.isEmpty = false := by
      cases xs with
      | nil => exact absurd rfl hne
      | cons _ _ => rfl
    have c1 : (its.toArray.isEmpty || k == 1) = false := by
      rw [hi, hie, Bool.false_or]
      exact beq_eq_false_iff_ne.mpr (by omega)
    have c2 : (decide (k ≤ 0) || its.toArray.isEmpty) = true := by
      rw [decide_eq_true k0]; rfl
    refine wpAny_binaryOp_repeat_ref (T := "tuple") (U := "int") (by decide) ⟨_, ho, rfl⟩ (fun s' => typeIs_int s' k t) noFill_tuple_mul F.fills_int_mul F.slot_int_rmul repeat_tuple F.slot_int_index.lookup
      (call_meets F.slot_int_rmul (typeIs_int s k t) F.entry_int_rmul (F.args_int_rmul_2 _ _) (int_rmul_tuple k t l its.toArray n dd sl)
        ⟨ho, rfl, ⟨_, ho, rfl⟩, call_meets F.slot_tuple_mul ⟨_, ho, rfl⟩ F.entry_tuple_mul (F.args_tuple_mul_2 _ _) (tup_mul0 l its.toArray n dd sl k t c0 c1 c2) ⟨ho, ?_⟩⟩)
    have e : (List.replicate k.toNat xs).flatten = [] := by
      rw [show k.toNat = 0 by omega]; rfl
    have q := q2 one
    rw [e] at q
    refine ⟨.ref s.heap.objs.size, _, I.laid (t' := s.toks) (o := .tup []) (fun b ob q => Heap.get?_push_of_some _ q) (Nat.le_refl _) ?_, rfl, q _ (I.hok.fresh (Nat.le_refl _))⟩
    exact ⟨Nat.zero_le _, _, .nil, IsTup.new _ _⟩
end PD
/-! Operations: what the rules ask, answered by data. -/
namespace PD
open PySem L2

/-- what comes next takes any value that stands for d -/
def Kon (b : Bs) (σ : L2.St) (env : Env) (G : Hp) (own : Bool) (d : D) (Q : VK) : Prop :=
  ∀ v H' G', Same G G' → Sat b σ H' G' env → ResAt b σ H' G' env v d own → Q v H'
section
variable {b : Bs} {σ : L2.St} {env : Env} {H G : Hp} {Q : VK}
theorem Kon.rep (k : Kon b σ env G false d Q) (S : Sat b σ H G env) {v : V} (r : Rep b.cs G v d) : Q v H := k v H G (Same.refl G) S r
theorem Kon.tupN {vs : List V} {ds : List D} (k : Kon b σ env G false (.tup ds) Q) (S : Sat b σ H G env) (r : Reps b.cs G vs ds) {p : Addr} (hp : H p = none) : Q (.ref p) (upd H p (.tup vs)) := by
  obtain ⟨g, S'⟩ := S.laid (o := .tup vs) hp
  exact k _ _ _ g S' (.tup (.of upd_same) (r.mono g))
theorem Kon.lstN {vs : List V} {ds : List D} (k : Kon b σ env G true (.lst ds) Q) (S : Sat b σ H G env) (r : Reps b.cs G vs ds) {p : Addr} (hp : H p = none) : Q (.ref p) (upd H p (.lst vs)) := by
  obtain ⟨S', h1, h2, h3⟩ := S.made (o := .lst vs) hp
  exact k _ _ _ (Same.refl G) S' ⟨p, rfl, h1, h2, ⟨vs, upd_same, r⟩, h3⟩
theorem SqT.seen {K : PySem.W.Frag} {a : Addr} {xs : List V} (S : Sat b σ H G env) (h : SqT K G a xs) : SqT K H a xs := same_t S.ex h

/-! ### operators -/
def rBin (K : PySem.W.Frag) : BOp → R2
  | .add => fun x y H Q => (rI0 fun i j => .int (i + j)) x y H Q ∨ rCatA K x y H Q ∨ rCat x y H Q
  | .sub => rI0 fun i j => .int (i - j)
  | .mul => fun x y H Q => (rI CMul fun i j => .int (i * j)) x y H Q ∨ rRepA K x y H Q ∨ rRep x y H Q
  | .mod => rI (fun _ j => j ≠ 0) fun i j => .int (i.fmod j)
  | .fdiv => rI CDivN fun i j => .int (i.fdiv j)
  | .pow => rI CPow fun i j => .int (i ^ j.toNat)
def pOp : BOp → Operator
  | .add => .Add
  | .sub => .Sub
  | .mul => .Mult
  | .mod => .Mod
  | .fdiv => .FloorDiv
  | .pow => .Pow
theorem op_bin {X : Cx} : ∀ op, OpR X (binaryOp (pOp op)) (rBin X.K op)
  | .add => op_add.or (op_catA.or op_cat)
  | .sub => op_sub
  | .mul => op_mul.or (op_repA.or op_rep)
  | .mod => op_modN
  | .fdiv => op_fdivN
  | .pow => op_pow
theorem le_line {n : Nat} (h : n ≤ 1000000) : n ≤ sizeLine := by rw [sizeLine_eq]; omega
theorem lt_line {n : Nat} (h : n < 1000000) : n < sizeLine := by rw [sizeLine_eq]; omega
theorem bin_ok {op : BOp} {x y d : D} {vx vy : V} (hd : binD op x y = some d) (S : Sat b σ H G env) (rx : Rep b.cs G vx x) (ry : Rep b.cs G vy y) (k : Kon b σ env G (isL d) d Q) : rBin b.cs.K op vx vy H Q := by
  unfold binD at hd
  split at hd
  · cases hd; cases rx; cases ry
    exact .inl ⟨_, _, rfl, rfl, k.rep S (.int _)⟩
  · cases hd; cases rx; cases ry
    exact ⟨_, _, rfl, rfl, k.rep S (.int _)⟩
  · split at hd
    · rename_i hc
      cases hd; cases rx; cases ry
      exact .inl ⟨_, _, rfl, rfl, hc, k.rep S (.int _)⟩
    · cases hd
  · split at hd
    · rename_i hc
      cases hd; cases rx; cases ry
      exact ⟨_, _, rfl, rfl, hc, k.rep S (.int _)⟩
    · cases hd
  · split at hd
    · rename_i hc
      cases hd; cases rx; cases ry
      exact ⟨_, _, rfl, rfl, hc, k.rep S (.int _)⟩
    · cases hd
  · split at hd
    · rename_i hc
      cases hd; cases rx; cases ry
      exact ⟨_, _, rfl, rfl, hc, k.rep S (.int _)⟩
    · cases hd
  · split at hd
    · rename_i hc
      cases hd
      cases rx with
      | tup h1 r1 =>
        cases ry with
        | tup h2 r2 =>
          refine .inr (.inl ⟨_, _, _, _, rfl, rfl, SqT.seen S h1, SqT.seen S h2, ?_, fun e => ?_, fun _ e => ?_, fun _ _ p hp => ?_⟩)
          · rw [r1.length, r2.length]; exact le_line hc
          · subst e
            cases r1
            exact k.rep S (.tup h2 r2)
          · subst e
            cases r2
            exact k.rep S (.tup h1 (by rw [List.append_nil]; exact r1))
          · exact k.tupN S (r1.app r2) hp
    · cases hd
  · split at hd
    · rename_i hc
      cases hd
      cases rx with
      | lst h1 r1 =>
        cases ry with
        | lst h2 r2 =>
          refine .inr (.inr ⟨_, _, _, _, rfl, rfl, S.ex _ _ h1, S.ex _ _ h2, ?_, fun p hp => ?_⟩)
          · rw [r1.length, r2.length]; exact le_line hc
          · exact k.lstN S (r1.app r2) hp
    · cases hd
  · split at hd
    · rename_i hc
      cases hd
      cases ry
      cases rx with
      | tup h1 r1 =>
        refine .inr (.inl ⟨_, _, _, rfl, rfl, SqT.seen S h1, hc.1, hc.2.1, ?_, fun e => ?_, fun _ p hp => ?_⟩)
        · rw [r1.length]; exact hc.2.2
        · rcases e with e | e
          · subst e
            refine k.rep S (.tup h1 ?_)
            rw [show (1 : Int).toNat = 1 from rfl, List.replicate_one, List.flatten_singleton]
            exact r1
          · have e2 := r1.nilI.mp e
            subst e e2
            rename_i j _
            refine k.rep S (.tup h1 ?_)
            rw [show (List.replicate j.toNat ([] : List D)).flatten = [] by simp]
            exact .nil
        · exact k.tupN S (r1.rep _) hp
    · cases hd
  · split at hd
    · rename_i hc
      cases hd
      cases ry
      cases rx with
      | lst h1 r1 =>
        refine .inr (.inr ⟨_, _, _, rfl, rfl, S.ex _ _ h1, ?_, ?_, ?_, fun p hp => ?_⟩)
        · have := hc.1; omega
        · have := hc.2.1; omega
        · rw [r1.length]; exact le_line hc.2.2
        · exact k.lstN S (r1.rep _) hp
    · cases hd
  · cases hd

/-! ### comparisons -/
mutual
theorem Rep.dp (nd : b.cs.W.Nodup) : ∀ {n : Nat} {v : V} {d : D}, Rep b.cs G v d → D.pl n d = true → Dp b.cs.K G v (toPy b.cs.W d)
  | _, _, _, .non, _ => by unfold toPy; exact .non
  | _, _, _, .bl x, _ => by unfold toPy; exact .bl x
  | _, _, _, .int x, _ => by unfold toPy; exact .int x
  | _, _, _, .w h, _ => by
    unfold toPy
    rw [List.getD_eq_getElem?_getD, h]
    exact .str _
  | _, _, _, .rp _, h => by unfold D.pl at h; cases h
  | _, _, _, .scr _, h => by unfold D.pl at h; cases h
  | 0, _, _, .tup _ _, h => by unfold D.pl at h; cases h
  | n + 1, _, _, .tup q r, h => by
    unfold toPy
    unfold D.pl at h
    exact .tup q (Reps.dp nd r h)
  | 0, _, _, .lst _ _, h => by unfold D.pl at h; cases h
  | n + 1, _, _, .lst q r, h => by
    unfold toPy
    unfold D.pl at h
    exact .lst (.of q) (Reps.dp nd r h)
  | 0, _, _, .dic _ _ _, h => by unfold D.pl at h; cases h
  | n + 1, _, _, .dic _ _ _, h => by unfold D.pl at h; cases h
theorem Reps.dp (nd : b.cs.W.Nodup) : ∀ {n : Nat} {v : List V} {d : List D}, Reps b.cs G v d → D.pls n d = true → DpAll b.cs.K G v (toPys b.cs.W d)
  | _, _, _, .nil, _ => by unfold toPys; exact .nil
  | n, _, _, .cons q r, h => by
    unfold toPys
    unfold D.pls at h
    rw [Bool.and_eq_true] at h
    exact .cons (Rep.dp nd q h.1) (Reps.dp nd r h.2)
end
end

/-! ### comparisons of data -/
structure WOk (W : List Str) : Prop where
  nd : W.Nodup
  ok : ∀ x ∈ W, PyData.strOk x = true
  ln : ∀ x ∈ W, x.cps.size ≤ 30
section
variable {b : Bs} {σ : L2.St} {env : Env} {H G : Hp} {Q : VK}
mutual
theorem Rep.lay (ok : WOk b.cs.W) : ∀ {n : Nat} {v : V} {d : D}, Rep b.cs G v d → D.pl n d = true → (toPy b.cs.W d).canLay0 = true ∧ (toPy b.cs.W d).depth ≤ n ∧ (toPy b.cs.W d).hasDict = false
  | _, _, _, .non, _ => by simp [toPy, PyData.canLay0, PyData.depth, PyData.hasDict]
  | _, _, _, .bl x, _ => by simp [toPy, PyData.canLay0, PyData.depth, PyData.hasDict]
  | _, _, _, .int x, _ => by simp [toPy, PyData.canLay0, PyData.depth, PyData.hasDict]
  | _, _, _, .w h, _ => by
    unfold toPy
    rw [List.getD_eq_getElem?_getD, h]
    refine ⟨?_, by simp [PyData.depth], by simp [PyData.hasDict]⟩
    simp only [PyData.canLay0, Option.getD_some]
    exact ok.ok _ (List.mem_of_getElem? h)
  | _, _, _, .rp _, h => by unfold D.pl at h; cases h
  | _, _, _, .scr _, h => by unfold D.pl at h; cases h
  | 0, _, _, .tup _ _, h => by unfold D.pl at h; cases h
  | n + 1, _, _, .tup q r, h => by
    unfold D.pl at h
    obtain ⟨h1, h2, h3⟩ := Reps.lay ok r h
    unfold toPy
    simp only [PyData.canLay0, PyData.depth, PyData.hasDict]
    exact ⟨h1, Nat.succ_le_succ h2, h3⟩
  | 0, _, _, .lst _ _, h => by unfold D.pl at h; cases h
  | n + 1, _, _, .lst q r, h => by
    unfold D.pl at h
    obtain ⟨h1, h2, h3⟩ := Reps.lay ok r h
    unfold toPy
    simp only [PyData.canLay0, PyData.depth, PyData.hasDict]
    exact ⟨h1, Nat.succ_le_succ h2, h3⟩
  | 0, _, _, .dic _ _ _, h => by unfold D.pl at h; cases h
  | n + 1, _, _, .dic _ _ _, h => by unfold D.pl at h; cases h
theorem Reps.lay (ok : WOk b.cs.W) : ∀ {n : Nat} {v : List V} {d : List D}, Reps b.cs G v d → D.pls n d = true → PyData.canLayAll0 (toPys b.cs.W d) = true ∧ PyData.depthAll (toPys b.cs.W d) ≤ n ∧ PyData.hasDictAll (toPys b.cs.W d) = false
  | _, _, _, .nil, _ => by simp [toPys, PyData.canLayAll0, PyData.depthAll, PyData.hasDictAll]
  | n, _, _, .cons q r, h => by
    unfold D.pls at h
    rw [Bool.and_eq_true] at h
    obtain ⟨h1, h2, h3⟩ := Rep.lay ok q h.1
    obtain ⟨g1, g2, g3⟩ := Reps.lay ok r h.2
    unfold toPys
    simp only [PyData.canLayAll0, PyData.depthAll, PyData.hasDictAll, h1, g1, h3, g3]
    exact ⟨rfl, Nat.max_le.mpr ⟨h2, g2⟩, rfl⟩
end
theorem str_inj {W : List Str} (nd : W.Nodup) {j k : Nat} {x : Str} (h1 : W[j]? = some x) (h2 : W[k]? = some x) : j = k := by
  obtain ⟨a, e1⟩ := List.getElem?_eq_some_iff.mp h1
  obtain ⟨c, e2⟩ := List.getElem?_eq_some_iff.mp h2
  exact (List.getElem_inj nd).mp (e1.trans e2.symm)
theorem str_beq {W : List Str} (nd : W.Nodup) {j k : Nat} {x y : Str} (h1 : W[j]? = some x) (h2 : W[k]? = some y) : (x == y) = (j == k) := by
  by_cases e : j = k
  · subst e
    rw [h1] at h2
    cases h2
    simp
  · have ne : ¬ x = y := fun q => e (str_inj nd h1 (q ▸ h2))
    rw [beq_eq_false_iff_ne.mpr ne, beq_eq_false_iff_ne.mpr e]
mutual
theorem Rep.eqv (nd : b.cs.W.Nodup) : ∀ {n m : Nat} {v u : V} {d e : D}, Rep b.cs G v d → Rep b.cs G u e → D.pl n d = true → D.pl m e = true → PyData.eqv (toPy b.cs.W d) (toPy b.cs.W e) = D.eqv d e
  | _, _, _, _, _, _, .rp _, _, h, _ => by unfold D.pl at h; cases h
  | _, _, _, _, _, _, _, .rp _, _, h => by unfold D.pl at h; cases h
  | _, _, _, _, _, _, .scr _, _, h, _ => by unfold D.pl at h; cases h
  | _, _, _, _, _, _, _, .scr _, _, h => by unfold D.pl at h; cases h
  | n, _, _, _, _, _, .dic _ _ _, _, h, _ => by cases n <;> (unfold D.pl at h; cases h)
  | _, m, _, _, _, _, _, .dic _ _ _, _, h => by cases m <;> (unfold D.pl at h; cases h)
  | _, _, _, _, _, _, .w h1, .w h2, _, _ => by
    simp only [toPy, PyData.eqv, D.eqv]
    rw [List.getD_eq_getElem?_getD, List.getD_eq_getElem?_getD, h1, h2]
    exact str_beq nd h1 h2
  | n, m, _, _, _, _, .tup _ r1, .tup _ r2, h1, h2 => by
    simp only [toPy, PyData.eqv, D.eqv]
    cases n with
    | zero => unfold D.pl at h1; cases h1
    | succ n =>
      cases m with
      | zero => unfold D.pl at h2; cases h2
      | succ m =>
        unfold D.pl at h1 h2
        exact Reps.eqv nd r1 r2 h1 h2
  | n, m, _, _, _, _, .lst _ r1, .lst _ r2, h1, h2 => by
    simp only [toPy, PyData.eqv, D.eqv]
    cases n with
    | zero => unfold D.pl at h1; cases h1
    | succ n =>
      cases m with
      | zero => unfold D.pl at h2; cases h2
      | succ m =>
        unfold D.pl at h1 h2
        exact Reps.eqv nd r1 r2 h1 h2
  | _, _, _, _, _, _, .non, .non, _, _ | _, _, _, _, _, _, .non, .bl _, _, _ | _, _, _, _, _, _, .non, .int _, _, _ | _, _, _, _, _, _, .non, .w _, _, _ | _, _, _, _, _, _, .non, .tup _ _, _, _ | _, _, _, _, _, _, .non, .lst _ _, _, _
  | _, _, _, _, _, _, .bl _, .non, _, _ | _, _, _, _, _, _, .bl _, .bl _, _, _ | _, _, _, _, _, _, .bl _, .int _, _, _ | _, _, _, _, _, _, .bl _, .w _, _, _ | _, _, _, _, _, _, .bl _, .tup _ _, _, _ | _, _, _, _, _, _, .bl _, .lst _ _, _, _
  | _, _, _, _, _, _, .int _, .non, _, _ | _, _, _, _, _, _, .int _, .bl _, _, _ | _, _, _, _, _, _, .int _, .int _, _, _ | _, _, _, _, _, _, .int _, .w _, _, _ | _, _, _, _, _, _, .int _, .tup _ _, _, _ | _, _, _, _, _, _, .int _, .lst _ _, _, _
  | _, _, _, _, _, _, .w _, .non, _, _ | _, _, _, _, _, _, .w _, .bl _, _, _ | _, _, _, _, _, _, .w _, .int _, _, _ | _, _, _, _, _, _, .w _, .tup _ _, _, _ | _, _, _, _, _, _, .w _, .lst _ _, _, _
  | _, _, _, _, _, _, .tup _ _, .non, _, _ | _, _, _, _, _, _, .tup _ _, .bl _, _, _ | _, _, _, _, _, _, .tup _ _, .int _, _, _ | _, _, _, _, _, _, .tup _ _, .w _, _, _ | _, _, _, _, _, _, .tup _ _, .lst _ _, _, _
  | _, _, _, _, _, _, .lst _ _, .non, _, _ | _, _, _, _, _, _, .lst _ _, .bl _, _, _ | _, _, _, _, _, _, .lst _ _, .int _, _, _ | _, _, _, _, _, _, .lst _ _, .w _, _, _ | _, _, _, _, _, _, .lst _ _, .tup _ _, _, _ => by simp only [toPy, PyData.eqv, D.eqv]
theorem Reps.eqv (nd : b.cs.W.Nodup) : ∀ {n m : Nat} {v u : List V} {d e : List D}, Reps b.cs G v d → Reps b.cs G u e → D.pls n d = true → D.pls m e = true → PyData.eqvAll (toPys b.cs.W d) (toPys b.cs.W e) = D.eqvs d e
  | _, _, _, _, _, _, .nil, .nil, _, _ => by simp only [toPys, PyData.eqvAll, D.eqvs]
  | _, _, _, _, _, _, .nil, .cons _ _, _, _ => by simp only [toPys, PyData.eqvAll, D.eqvs]
  | _, _, _, _, _, _, .cons _ _, .nil, _, _ => by simp only [toPys, PyData.eqvAll, D.eqvs]
  | _, _, _, _, _, _, .cons q1 r1, .cons q2 r2, h1, h2 => by
    unfold D.pls at h1 h2
    rw [Bool.and_eq_true] at h1 h2
    simp only [toPys, PyData.eqvAll, D.eqvs]
    rw [Rep.eqv nd q1 q2 h1.1 h2.1, Reps.eqv nd r1 r2 h1.2 h2.2]
end
mutual
theorem D.same_eq : ∀ {x y : D}, D.same x y = true → x = y
  | .non, .non, _ => rfl
  | .bl a, .bl b, h => by simp only [D.same, beq_iff_eq] at h; rw [h]
  | .int a, .int b, h => by simp only [D.same, beq_iff_eq] at h; rw [h]
  | .w a, .w b, h => by simp only [D.same, beq_iff_eq] at h; rw [h]
  | .rp a, .rp b, h => by simp only [D.same] at h; rw [D.same_eq h]
  | .tup a, .tup b, h => by simp only [D.same] at h; rw [D.sames_eq h]
  | .lst a, .lst b, h => by simp only [D.same] at h; rw [D.sames_eq h]
  | .dic k a, .dic l b, h => by
    simp only [D.same, Bool.and_eq_true, decide_eq_true_eq] at h
    rw [h.1, D.sames_eq h.2]
  | .scr _, y, h => by cases y <;> (simp only [D.same] at h; cases h)
  | .non, .bl _, h | .non, .int _, h | .non, .w _, h | .non, .rp _, h | .non, .scr _, h | .non, .tup _, h | .non, .lst _, h | .non, .dic _ _, h
  | .bl _, .non, h | .bl _, .int _, h | .bl _, .w _, h | .bl _, .rp _, h | .bl _, .scr _, h | .bl _, .tup _, h | .bl _, .lst _, h | .bl _, .dic _ _, h
  | .int _, .non, h | .int _, .bl _, h | .int _, .w _, h | .int _, .rp _, h | .int _, .scr _, h | .int _, .tup _, h | .int _, .lst _, h | .int _, .dic _ _, h
  | .w _, .non, h | .w _, .bl _, h | .w _, .int _, h | .w _, .rp _, h | .w _, .scr _, h | .w _, .tup _, h | .w _, .lst _, h | .w _, .dic _ _, h
  | .rp _, .non, h | .rp _, .bl _, h | .rp _, .int _, h | .rp _, .w _, h | .rp _, .scr _, h | .rp _, .tup _, h | .rp _, .lst _, h | .rp _, .dic _ _, h
  | .tup _, .non, h | .tup _, .bl _, h | .tup _, .int _, h | .tup _, .w _, h | .tup _, .rp _, h | .tup _, .scr _, h | .tup _, .lst _, h | .tup _, .dic _ _, h
  | .lst _, .non, h | .lst _, .bl _, h | .lst _, .int _, h | .lst _, .w _, h | .lst _, .rp _, h | .lst _, .scr _, h | .lst _, .tup _, h | .lst _, .dic _ _, h
  | .dic _ _, .non, h | .dic _ _, .bl _, h | .dic _ _, .int _, h | .dic _ _, .w _, h | .dic _ _, .rp _, h | .dic _ _, .scr _, h | .dic _ _, .tup _, h | .dic _ _, .lst _, h => by simp only [D.same] at h; cases h
theorem D.sames_eq : ∀ {x y : List D}, D.sames x y = true → x = y
  | [], [], _ => rfl
  | a :: r, c :: s, h => by
    simp only [D.sames, Bool.and_eq_true] at h
    rw [D.same_eq h.1, D.sames_eq h.2]
  | [], _ :: _, h => by simp only [D.sames] at h; cases h
  | _ :: _, [], h => by simp only [D.sames] at h; cases h
end
end
end PD
namespace PD
open PySem L2
/-! ### comparisons: the rules -/
def rEqA (K : PySem.W.Frag) (neg : Bool) : R2 := fun x y H Q => ∃ d e, Dp K H x d ∧ Dp K H y e ∧ d.canLay0 = true ∧ e.canLay0 = true ∧ min d.depth e.depth ≤ 500 ∧ Q (.bl (if neg then !PyData.eqv d e else PyData.eqv d e)) H
section
variable {X : Cx}
theorem op_eqA (hu : X.A.units + 600 < cLine) : OpR X (compareOp .Eq) (rEqA X.K false) := by
  intro pins s σ H x y v u Q I rx ry h
  obtain ⟨d, e, hd, he, c1, c2, m, q⟩ := h
  obtain ⟨as, r1⟩ := Dp.reads I d x v hd rx
  obtain ⟨bs, r2⟩ := Dp.reads I e y u he ry
  exact SeqAt.compareEq_reads r1 r2 c1 c2 (by omega) ⟨.bl _, H, I, rfl, q⟩
theorem op_neA (hu : X.A.units + 600 < cLine) : OpR X (compareOp .NotEq) (rEqA X.K true) := by
  intro pins s σ H x y v u Q I rx ry h
  obtain ⟨d, e, hd, he, c1, c2, m, q⟩ := h
  obtain ⟨as, r1⟩ := Dp.reads I d x v hd rx
  obtain ⟨bs, r2⟩ := Dp.reads I e y u he ry
  exact SeqAt.compareNe_reads r1 r2 c1 c2 (by omega) ⟨.bl _, H, I, rfl, q⟩
end
def rCmp (K : PySem.W.Frag) : COp → R2
  | .eq => fun x y H Q => rEqA K false x y H Q ∨ rEq x y H Q
  | .ne => fun x y H Q => rEqA K true x y H Q ∨ rNe x y H Q
  | .lt => rI0 fun i j => .bl (decide (i < j))
  | .le => rI0 fun i j => .bl (decide (i ≤ j))
  | .gt => rI0 fun i j => .bl (decide (j < i))
  | .ge => rI0 fun i j => .bl (decide (j ≤ i))
  | .isin => rIn K false
  | .notin => rIn K true
  | .isN => fun x y H Q => y = .non ∧ Q (.bl (decide (x = .non))) H
  | .notN => fun x y H Q => y = .non ∧ Q (.bl (!decide (x = .non))) H
def pCmp : COp → CmpOp
  | .eq => .Eq
  | .ne => .NotEq
  | .lt => .Lt
  | .le => .LtE
  | .gt => .Gt
  | .ge => .GtE
  | .isin => .In
  | .notin => .NotIn
  | .isN => .Is
  | .notN => .IsNot
theorem op_cmp {X : Cx} (hu : X.A.units + 600 < cLine) : ∀ op, OpR X (compareOp (pCmp op)) (rCmp X.K op)
  | .eq => (op_eqA hu).or op_eq
  | .ne => (op_neA hu).or op_ne
  | .lt => op_lt
  | .le => op_le
  | .gt => op_gt
  | .ge => op_ge
  | .isin => op_in_seq
  | .notin => op_notIn_seq
  | .isN => op_isN
  | .notN => op_notN
section
variable {b : Bs} {σ : L2.St} {env : Env} {H G : Hp} {Q : VK}
theorem dp_scr {K : PySem.W.Frag} : ∀ {ns : List Int}, DpAll K H (ns.map V.int) (ns.map PyData.int)
  | [] => .nil
  | n :: r => .cons (.int n) dp_scr
theorem lay_scr : ∀ ns : List Int, PyData.canLayAll0 (ns.map PyData.int) = true ∧ PyData.depthAll (ns.map PyData.int) = 0
  | [] => by simp [PyData.canLayAll0, PyData.depthAll]
  | n :: r => by
    obtain ⟨h1, h2⟩ := lay_scr r
    simp [PyData.canLayAll0, PyData.depthAll, PyData.canLay0, PyData.depth, h1, h2]
theorem Rep.flat {v : V} {d : D} (r : Rep b.cs G v d) (h : d.flat = true) : flatV v = true := by
  cases r <;> first | rfl | (unfold D.flat at h; cases h)
theorem Reps.flat : ∀ {vs : List V} {ds : List D}, Reps b.cs G vs ds → ds.all D.flat = true → vs.all flatV = true
  | _, _, .nil, _ => rfl
  | _, _, .cons q r, h => by
    rw [List.all_cons, Bool.and_eq_true] at h
    rw [List.all_cons, Bool.and_eq_true]
    exact ⟨q.flat h.1, r.flat h.2⟩
theorem Rep.eqF (nd : b.cs.W.Nodup) {v u : V} {d e : D} (r : Rep b.cs G v d) (s : Rep b.cs G u e) (h1 : d.flat = true) (h2 : e.flat = true) : eqV v u = D.eqv d e := by
  cases r with
  | rp _ => unfold D.flat at h1; cases h1
  | scr _ => unfold D.flat at h1; cases h1
  | tup _ _ => unfold D.flat at h1; cases h1
  | lst _ _ => unfold D.flat at h1; cases h1
  | dic _ _ _ => unfold D.flat at h1; cases h1
  | w hw =>
    cases s with
    | w hw' => simp only [eqV, D.eqv]; exact str_beq nd hw hw'
    | rp _ => unfold D.flat at h2; cases h2
    | scr _ => unfold D.flat at h2; cases h2
    | tup _ _ => unfold D.flat at h2; cases h2
    | lst _ _ => unfold D.flat at h2; cases h2
    | dic _ _ _ => unfold D.flat at h2; cases h2
    | _ => simp only [eqV, D.eqv]
  | _ =>
    cases s with
    | rp _ => unfold D.flat at h2; cases h2
    | scr _ => unfold D.flat at h2; cases h2
    | tup _ _ => unfold D.flat at h2; cases h2
    | lst _ _ => unfold D.flat at h2; cases h2
    | dic _ _ _ => unfold D.flat at h2; cases h2
    | _ => simp only [eqV, D.eqv]
theorem Reps.inV (nd : b.cs.W.Nodup) {u : V} {e : D} (s : Rep b.cs G u e) (h2 : e.flat = true) : ∀ {vs : List V} {ds : List D}, Reps b.cs G vs ds → ds.all D.flat = true → L2.inV u vs = inD e ds
  | _, _, .nil, _ => rfl
  | _, _, .cons q r, h => by
    rw [List.all_cons, Bool.and_eq_true] at h
    have := Reps.inV nd s h2 r h.2
    unfold L2.inV inD at this ⊢
    rw [List.any_cons, List.any_cons, this, q.eqF nd s h.1 h2]
theorem eq_ok (ok : WOk b.cs.W) {x y : D} {r : Bool} {vx vy : V} (hd : eqTest x y = some r) (rx : Rep b.cs H vx x) (ry : Rep b.cs H vy y) {Q : VK} :
    (Q (.bl r) H → rEqA b.cs.K false vx vy H Q ∨ rEq vx vy H Q) ∧ (Q (.bl (!r)) H → rEqA b.cs.K true vx vy H Q ∨ rNe vx vy H Q) := by
  unfold eqTest at hd
  split at hd
  · split at hd
    · rename_i hs
      cases hd
      have e := D.same_eq hs
      cases rx with
      | rp h1 =>
        cases ry with
        | rp h2 =>
          subst h1
          subst h2
          rw [e]
          refine ⟨fun q => .inr ⟨rfl, ?_⟩, fun q => .inr ⟨rfl, ?_⟩⟩
          · rw [decide_eq_true rfl]; exact q
          · rw [decide_eq_true rfl]; exact q
    · cases hd
  · cases hd
    cases rx with
    | scr h1 =>
      cases ry with
      | lst h2 r2 =>
        cases r2
        rename_i ns a _
        obtain ⟨l1, l2⟩ := lay_scr ns
        have ev : PyData.eqv (.list (ns.map PyData.int)) (.list []) = ns.isEmpty := by cases ns <;> simp [PyData.eqv, PyData.eqvAll]
        have all : ∀ neg, Q (.bl (if neg then !ns.isEmpty else ns.isEmpty)) H → rEqA b.cs.K neg _ _ H Q := fun neg q =>
          ⟨.list (ns.map PyData.int), .list [], .lst h1 dp_scr, .lst (.of h2) .nil, by simp only [PyData.canLay0]; exact l1, by simp [PyData.canLay0, PyData.canLayAll0], by simp only [PyData.depth, PyData.depthAll]; omega, by rw [ev]; exact q⟩
        exact ⟨fun q => .inl (all false q), fun q => .inl (all true q)⟩
  · split at hd
    · rename_i hp
      cases hd
      rw [Bool.and_eq_true] at hp
      obtain ⟨a1, a2, _⟩ := rx.lay ok hp.1
      obtain ⟨c1, c2, _⟩ := ry.lay ok hp.2
      have ev := rx.eqv ok.nd ry hp.1 hp.2
      have all : ∀ neg, Q (.bl (if neg then !D.eqv x y else D.eqv x y)) H → rEqA b.cs.K neg _ _ H Q := fun neg q =>
        ⟨_, _, rx.dp ok.nd hp.1, ry.dp ok.nd hp.2, a1, c1, by omega, by rw [ev]; exact q⟩
      exact ⟨fun q => .inl (all false q), fun q => .inl (all true q)⟩
    · cases hd
theorem cmp_ok (ok : WOk b.cs.W) {op : COp} {x y : D} {r : Bool} {vx vy : V} (hd : cmpD op x y = some r) (rx : Rep b.cs H vx x) (ry : Rep b.cs H vy y) (k : Q (.bl r) H) : rCmp b.cs.K op vx vy H Q := by
  unfold cmpD at hd
  split at hd
  · exact (eq_ok ok hd rx ry).1 k
  · obtain ⟨r', h1, h2⟩ := Option.map_eq_some_iff.mp hd
    subst h2
    exact (eq_ok ok h1 rx ry).2 k
  · cases hd; cases rx; cases ry; exact ⟨_, _, rfl, rfl, k⟩
  · cases hd; cases rx; cases ry; exact ⟨_, _, rfl, rfl, k⟩
  · cases hd; cases rx; cases ry; exact ⟨_, _, rfl, rfl, k⟩
  · cases hd; cases rx; cases ry; exact ⟨_, _, rfl, rfl, k⟩
  · split at hd
    · rename_i hf
      cases hd
      rw [Bool.and_eq_true] at hf
      cases ry with
      | tup h2 r2 => exact ⟨_, _, rfl, .inr h2, rx.flat hf.1, r2.flat hf.2, by rw [r2.inV ok.nd rx hf.1 hf.2]; exact k⟩
    · cases hd
  · split at hd
    · rename_i hf
      cases hd
      rw [Bool.and_eq_true] at hf
      cases ry with
      | lst h2 r2 => exact ⟨_, _, rfl, .inl (.of h2), rx.flat hf.1, r2.flat hf.2, by rw [r2.inV ok.nd rx hf.1 hf.2]; exact k⟩
    · cases hd
  · split at hd
    · rename_i hf
      cases hd
      rw [Bool.and_eq_true] at hf
      cases ry with
      | tup h2 r2 => exact ⟨_, _, rfl, .inr h2, rx.flat hf.1, r2.flat hf.2, by rw [r2.inV ok.nd rx hf.1 hf.2]; exact k⟩
    · cases hd
  · split at hd
    · rename_i hf
      cases hd
      rw [Bool.and_eq_true] at hf
      cases ry with
      | lst h2 r2 => exact ⟨_, _, rfl, .inl (.of h2), rx.flat hf.1, r2.flat hf.2, by rw [r2.inV ok.nd rx hf.1 hf.2]; exact k⟩
    · cases hd
  · cases hd; cases rx; cases ry; exact ⟨rfl, k⟩
  · rename_i hn
    cases hd
    cases ry
    refine ⟨rfl, ?_⟩
    have : vx ≠ .non := by
      intro e
      subst e
      cases rx
      exact hn rfl
    rw [decide_eq_false this]
    exact k
  · cases hd; cases rx; cases ry; exact ⟨rfl, k⟩
  · rename_i hn
    cases hd
    cases ry
    refine ⟨rfl, ?_⟩
    have : vx ≠ .non := by
      intro e
      subst e
      cases rx
      exact hn rfl
    rw [decide_eq_false this]
    exact k
  · cases hd

/-! ### places, slices -/
theorem at_iff {α : Type} {xs : List α} {i : Int} {x : α} (h : at_ xs i = some x) : atI xs i = some x := by
  unfold at_ at h
  unfold atI ixN
  split at h
  · rename_i h0
    have hl : i.toNat < xs.length := (List.getElem?_eq_some_iff.mp h).1
    rw [if_pos h0, if_pos (by omega)]
    exact h
  · rename_i h0
    split at h
    · rename_i h1
      rw [if_neg h0, if_pos h1]
      exact h
    · cases h
theorem at_get {vs : List V} {ds : List D} {i : Int} {d : D} (r : Reps b.cs G vs ds) (h : at_ ds i = some d) : ∃ v, atI vs i = some v ∧ Rep b.cs G v d := by
  have hl := r.length
  have : ∃ v, at_ vs i = some v ∧ Rep b.cs G v d := by
    unfold at_ at h ⊢
    rw [hl]
    split at h
    · rename_i h0
      rw [if_pos h0]
      exact r.get h
    · rename_i h0
      rw [if_neg h0]
      split at h
      · rename_i h1
        rw [if_pos h1]
        exact r.get h
      · cases h
  obtain ⟨v, h1, h2⟩ := this
  exact ⟨v, at_iff h1, h2⟩
theorem clip_eq (n d : Nat) (o : Option Int) : HT.sIx n d o = clipI n d o := by
  cases o with
  | none => rfl
  | some v =>
    unfold HT.sIx clipI
    first | rfl | (simp only []; split <;> omega)
theorem Reps.cut {vs : List V} {ds : List D} (r : Reps b.cs G vs ds) (lo hi : Option Int) : Reps b.cs G (cutV vs lo hi) (PD.cut ds lo hi) := by
  unfold cutV PD.cut
  rw [clip_eq, clip_eq, r.length]
  exact (r.drop _).take _
def rIdx (K : PySem.W.Frag) : R2 := fun x y H Q => rIxL K x y H Q ∨ rIxT K x y H Q
theorem ix_idx {X : Cx} : IxR X (rIdx X.K) := ix_list.or ix_tup
/-- x as it is seen now; its parts are known -/
theorem idx_ok {x y d : D} {vx vy : V} (hd : idxD x y = some d) (S : Sat b σ H G env) (rx : (∃ a, vx = .ref a ∧ OwnAt b.cs H G a x) ∨ Rep b.cs G vx x) (ry : Rep b.cs G vy y) (k : Kon b σ env G false d Q) : rIdx b.cs.K vx vy H Q := by
  unfold idxD at hd
  split at hd
  · cases ry
    rcases rx with ⟨a, rfl, ow⟩ | rx
    · exact ow.elim
    · cases rx with
      | tup h r =>
        obtain ⟨v, h1, h2⟩ := at_get r hd
        exact .inr ⟨_, _, _, v, rfl, rfl, SqT.seen S h, h1, k.rep S h2⟩
  · cases ry
    rcases rx with ⟨a, rfl, vs, e, r⟩ | rx
    · obtain ⟨v, h1, h2⟩ := at_get r hd
      exact .inl ⟨_, _, _, v, rfl, rfl, .of e, h1, k.rep S h2⟩
    · cases rx with
      | lst h r =>
        obtain ⟨v, h1, h2⟩ := at_get r hd
        exact .inl ⟨_, _, _, v, rfl, rfl, .of (S.ex _ _ h), h1, k.rep S h2⟩
  · cases hd
def rSli (K : PySem.W.Frag) : V → Option Int → Option Int → Hp → VK → Prop := fun x lo hi H Q => rSlL K x lo hi H Q ∨ rSlA K x lo hi H Q
theorem sl_sli {X : Cx} : SlR X (rSli X.K) := sl_list.or sl_tupA
theorem cut_whole {α : Type} {xs : List α} {lo hi : Option Int} (h : clipI xs.length 0 lo = 0 ∧ clipI xs.length xs.length hi = xs.length) : PD.cut xs lo hi = xs := by
  unfold PD.cut
  rw [h.1, h.2]
  simp
theorem cut_map {α β : Type} (f : α → β) (xs : List α) (lo hi : Option Int) : PD.cut (xs.map f) lo hi = (PD.cut xs lo hi).map f := by
  unfold PD.cut
  rw [List.length_map, List.map_take, List.map_drop]
theorem sl_ok {lo hi : Option Int} {x d : D} {vx : V} (hd : slD lo hi x = some d) (S : Sat b σ H G env) (rx : Rep b.cs G vx x) (k : Kon b σ env G (isL d) d Q) : rSli b.cs.K vx lo hi H Q := by
  unfold slD at hd
  split at hd
  · cases hd
    cases rx with
    | tup h r =>
      refine .inr ⟨_, _, rfl, SqT.seen S h, fun e => ?_, fun _ p hp => ?_⟩
      · rw [clip_eq, clip_eq, r.length] at e
        refine k.rep S (.tup h ?_)
        rw [cut_whole e]
        exact r
      · exact k.tupN S (r.cut lo hi) hp
  · cases hd
    cases rx with
    | lst h r => exact .inl ⟨_, _, rfl, .of (S.ex _ _ h), fun p hp => k.lstN S (r.cut lo hi) hp⟩
  · cases hd
    cases rx with
    | scr h =>
      refine .inl ⟨_, _, rfl, S.ex.seq h, fun p hp => k.lstN S ?_ hp⟩
      rename_i ns _
      have := (Reps.ofInts (c := b.cs) (G := G) ns).cut lo hi
      rw [cut_map] at this
      exact this
  · cases hd
end
end PD
namespace PD
open PySem L2
/-! ### built-ins of one argument -/
section
variable {b : Bs} {σ : L2.St} {env : Env} {H G : Hp} {Q : VK}
theorem sortI_perm : ∀ l : List Int, (sortI l).Perm l := by
  have ins : ∀ (x : Int) (l : List Int), (insI x l).Perm (x :: l) := by
    intro x l
    induction l with
    | nil => exact List.Perm.refl _
    | cons y r ih =>
      unfold insI
      split
      · exact List.Perm.refl _
      · exact (List.Perm.cons y ih).trans (List.Perm.swap x y r)
  intro l
  induction l with
  | nil => exact List.Perm.refl _
  | cons x r ih => exact (ins x _).trans (List.Perm.cons x ih)
theorem insI_pair {x : Int} : ∀ {l : List Int}, l.Pairwise (· ≤ ·) → (insI x l).Pairwise (· ≤ ·)
  | [], _ => by unfold insI; exact List.pairwise_singleton _ _
  | y :: r, h => by
    obtain ⟨h1, h2⟩ := List.pairwise_cons.mp h
    unfold insI
    split
    · rename_i hx
      refine List.pairwise_cons.mpr ⟨fun z hz => ?_, h⟩
      rcases List.mem_cons.mp hz with e | hz
      · rw [e]; exact hx
      · exact Int.le_trans hx (h1 z hz)
    · rename_i hx
      refine List.pairwise_cons.mpr ⟨fun z hz => ?_, insI_pair h2⟩
      have : z ∈ x :: r := by
        have hp : (insI x r).Perm (x :: r) := by
          clear h h1 h2 hz hx
          induction r with
          | nil => exact List.Perm.refl _
          | cons y r ih =>
            unfold insI
            split
            · exact List.Perm.refl _
            · exact (List.Perm.cons y ih).trans (List.Perm.swap x y r)
        exact hp.mem_iff.mp hz
      rcases List.mem_cons.mp this with e | q
      · rw [e]; omega
      · exact h1 z q
theorem sortI_pair : ∀ l : List Int, (sortI l).Pairwise (· ≤ ·)
  | [] => List.Pairwise.nil
  | x :: r => insI_pair (sortI_pair r)
theorem sort_one {l m : List Int} (p : l.Perm m) (h1 : l.Pairwise (· ≤ ·)) (h2 : m.Pairwise (· ≤ ·)) : l = m := p.eq_of_pairwise (fun a b _ _ h g => Int.le_antisymm h g) h1 h2
theorem sort_is {l m : List Int} (p : l.Perm m) (h1 : l.Pairwise (· ≤ ·)) : l = sortI m := sort_one (p.trans (sortI_perm m).symm) h1 (sortI_pair m)
theorem maxI_mem : ∀ (l : List Int) (m : Int), maxI m l ∈ m :: l ∧ ∀ y ∈ m :: l, y ≤ maxI m l
  | [], m => by unfold maxI; simp
  | x :: r, m => by
    unfold maxI
    have key : ∀ z : Int, (z = if m < x then x else m) → maxI z r ∈ m :: x :: r ∧ ∀ y ∈ m :: x :: r, y ≤ maxI z r := by
      intro z hz
      obtain ⟨h1, h2⟩ := maxI_mem r z
      have hh := h2 _ List.mem_cons_self
      refine ⟨?_, fun y hy => ?_⟩
      · rcases List.mem_cons.mp h1 with e | h
        · rw [e, hz]; split <;> simp
        · exact List.mem_cons_of_mem _ (List.mem_cons_of_mem _ h)
      · rcases List.mem_cons.mp hy with e | hy
        · rw [e]; split at hz <;> omega
        · rcases List.mem_cons.mp hy with e | hy
          · rw [e]; split at hz <;> omega
          · exact h2 y (List.mem_cons_of_mem _ hy)
    exact key _ rfl
theorem minI_mem : ∀ (l : List Int) (m : Int), minI m l ∈ m :: l ∧ ∀ y ∈ m :: l, minI m l ≤ y
  | [], m => by unfold minI; simp
  | x :: r, m => by
    unfold minI
    have key : ∀ z : Int, (z = if x < m then x else m) → minI z r ∈ m :: x :: r ∧ ∀ y ∈ m :: x :: r, minI z r ≤ y := by
      intro z hz
      obtain ⟨h1, h2⟩ := minI_mem r z
      have hh := h2 _ List.mem_cons_self
      refine ⟨?_, fun y hy => ?_⟩
      · rcases List.mem_cons.mp h1 with e | h
        · rw [e, hz]; split <;> simp
        · exact List.mem_cons_of_mem _ (List.mem_cons_of_mem _ h)
      · rcases List.mem_cons.mp hy with e | hy
        · rw [e]; split at hz <;> omega
        · rcases List.mem_cons.mp hy with e | hy
          · rw [e]; split at hz <;> omega
          · exact h2 y (List.mem_cons_of_mem _ hy)
    exact key _ rfl
theorem Reps.toBools : ∀ {vs : List V} {ds : List D} {bs : List Bool}, Reps b.cs G vs ds → boolsD ds = some bs → vs = bs.map V.bl
  | _, _, _, .nil, h => by
    simp [PD.boolsD] at h
    subst h
    rfl
  | _, _, _, .cons (d := .bl i) (ds := ds) q r, h => by
    unfold PD.boolsD at h
    obtain ⟨ms, h1, h2⟩ := Option.map_eq_some_iff.mp h
    subst h2
    cases q
    rw [Reps.toBools r h1]
    rfl
  | _, _, _, .cons (d := .non) q r, h | _, _, _, .cons (d := .int _) q r, h | _, _, _, .cons (d := .w _) q r, h | _, _, _, .cons (d := .rp _) q r, h | _, _, _, .cons (d := .scr _) q r, h
  | _, _, _, .cons (d := .tup _) q r, h | _, _, _, .cons (d := .lst _) q r, h | _, _, _, .cons (d := .dic _ _) q r, h => by simp [PD.boolsD] at h
end

/-! ### repr -/
theorem log_lt {i : Int} (h : i.natAbs < 2 ^ 168) : i.natAbs.log2 < 168 := by
  by_cases z : i.natAbs = 0
  · rw [z]; decide
  · exact (Nat.log2_lt z).mpr h
theorem int_shown_len {i : Int} (h : i.natAbs < 2 ^ 168) : (PyData.shown (.int i)).length ≤ 170 := by
  simp only [PyData.shown]
  have e := ofString_length (toString i)
  have l := int_text_length_le (by decide) (log_lt h)
  omega
section
variable {b : Bs} {σ : L2.St} {env : Env} {H G : Hp} {Q : VK}
theorem log_small {i : Int} (h : i.natAbs < 2 ^ 168) : i.natAbs.log2 < 1920 := by
  by_cases z : i.natAbs = 0
  · rw [z]; decide
  · have := (Nat.log2_lt z).mpr h
    omega
theorem bits_small {i : Int} (h : i.natAbs < 2 ^ 168) : (if i == 0 then 0 else i.natAbs.log2 + 1) ≤ 168 := by
  split
  · omega
  · rename_i z
    have z' : i.natAbs ≠ 0 := by
      intro e
      apply z
      rw [Int.natAbs_eq_zero.mp e]
      rfl
    have := (Nat.log2_lt z').mpr h
    omega
mutual
theorem Rep.fits (ok : WOk b.cs.W) : ∀ {n : Nat} {v : V} {d : D}, Rep b.cs G v d → D.pl n d = true → D.small d = true →
    (toPy b.cs.W d).showable = true ∧ (toPy b.cs.W d).leavesShort 170 = true ∧ (toPy b.cs.W d).weight ≤ D.wt d
  | _, _, _, .non, _, _ => by simp [toPy, PyData.showable, PyData.leavesShort, PyData.weight]
  | _, _, _, .bl x, _, _ => by simp [toPy, PyData.showable, PyData.leavesShort, PyData.weight]
  | _, _, _, .int x, _, h => by
    unfold D.small at h
    have h := of_decide_eq_true h
    unfold toPy D.wt
    simp only [PyData.showable, PyData.leavesShort, PyData.weight]
    exact ⟨decide_eq_true (log_small h), decide_eq_true (int_shown_len h), bits_small h⟩
  | _, _, _, .w h, _, _ => by
    have hm := List.mem_of_getElem? h
    have o1 := ok.ok _ hm
    have o2 := ok.ln _ hm
    unfold toPy D.wt
    rw [List.getD_eq_getElem?_getD, h]
    simp only [PyData.showable, PyData.leavesShort, PyData.weight, Option.getD_some]
    refine ⟨trivial, ?_, o2⟩
    unfold PyData.strOk at o1
    rw [List.all_eq_true]
    intro x hx
    have := (Array.all_eq_true'.mp o1) x (by simpa using hx)
    simp only [decide_eq_true_eq] at this ⊢
    omega
  | _, _, _, .rp _, h, _ => by unfold D.pl at h; cases h
  | _, _, _, .scr _, h, _ => by unfold D.pl at h; cases h
  | 0, _, _, .tup _ _, h, _ => by unfold D.pl at h; cases h
  | n + 1, _, _, .tup q r, h, hs => by
    unfold D.pl at h
    unfold D.small at hs
    obtain ⟨h1, h2, h3⟩ := Reps.fits ok r h hs
    unfold toPy D.wt
    simp only [PyData.showable, PyData.leavesShort, PyData.weight]
    exact ⟨h1, h2, h3⟩
  | 0, _, _, .lst _ _, h, _ => by unfold D.pl at h; cases h
  | n + 1, _, _, .lst q r, h, hs => by
    unfold D.pl at h
    unfold D.small at hs
    obtain ⟨h1, h2, h3⟩ := Reps.fits ok r h hs
    unfold toPy D.wt
    simp only [PyData.showable, PyData.leavesShort, PyData.weight]
    exact ⟨h1, h2, h3⟩
  | 0, _, _, .dic _ _ _, h, _ => by unfold D.pl at h; cases h
  | n + 1, _, _, .dic _ _ _, h, _ => by unfold D.pl at h; cases h
theorem Reps.fits (ok : WOk b.cs.W) : ∀ {n : Nat} {v : List V} {d : List D}, Reps b.cs G v d → D.pls n d = true → D.smalls d = true →
    PyData.showableAll (toPys b.cs.W d) = true ∧ PyData.leavesShortAll 170 (toPys b.cs.W d) = true ∧ PyData.weightAll (toPys b.cs.W d) ≤ D.wts d
  | _, _, _, .nil, _, _ => by simp [toPys, PyData.showableAll, PyData.leavesShortAll, PyData.weightAll]
  | n, _, _, .cons q r, h, hs => by
    unfold D.pls at h
    unfold D.smalls at hs
    rw [Bool.and_eq_true] at h hs
    obtain ⟨h1, h2, h3⟩ := Rep.fits ok q h.1 hs.1
    obtain ⟨g1, g2, g3⟩ := Reps.fits ok r h.2 hs.2
    unfold toPys D.wts
    simp only [PyData.showableAll, PyData.leavesShortAll, PyData.weightAll, h1, g1, h2, g2]
    exact ⟨rfl, rfl, by omega⟩
end
end
def rRepr (K : PySem.W.Frag) : List V → Hp → VK → Prop := fun xs H Q => (∃ (a : Addr) (d : PyData), xs = [.ref a] ∧ Dp K H (.ref a) d ∧ d.showable = true ∧ d.hasDict = false ∧ d.depth ≤ 500 ∧ d.shown.length ≤ sizeLine ∧ Q (.str d.shown) H) ∨
  ∃ i : Int, xs = [.int i] ∧ i.natAbs < 2 ^ 168 ∧ Q (.str (PyData.shown (.int i))) H
theorem call_repr {X : Cx} (hu : X.A.units + 600 < cLine) (hg : X.A.guards = some []) : CallR X (.builtin "repr") (rRepr X.K) := by
  intro pins s σ H xs us Q I r h
  rcases h with ⟨a, d, rfl, hd, h1, h2, h3, h4, q⟩ | ⟨i, rfl, hi, q⟩
  · obtain ⟨u, rfl, rx⟩ := vals1 r
    cases rx
    obtain ⟨as, r1⟩ := Dp.reads I d _ _ hd rfl
    refine repr_of_reads' r1 h1 (PyData.noDict_hsm h2) hg (by omega) (fun _ _ e => e) (fun h' u tk hk => ?_) h4
    exact ⟨.str d.shown, H, I.kept (t' := tk) hk, ⟨u, rfl⟩, q⟩
  · obtain ⟨u, rfl, t, rfl⟩ := vals1 r
    exact P.repr_of_int (log_small hi) ⟨.str _, H, I.tok _, ⟨_, rfl⟩, q⟩

/-! ### all of them -/
/-- sorted(t), t a tuple of ints -/
def rSortT (K : PySem.W.Frag) : List V → Hp → VK → Prop := fun vs H Q => ∃ (a : Addr) (ns : List Int), vs = [V.ref a] ∧ SqT K H a (ns.map V.int) ∧
  ∀ (ns' : List Int) (p : Addr), ns'.Perm ns → ns'.Pairwise (· ≤ ·) → H p = none → Q (.ref p) (upd H p (.lst (ns'.map V.int)))
def rBi (K : PySem.W.Frag) : BI → List V → Hp → VK → Prop
  | .len => fun xs H Q => (∃ p ys, xs = [.ref p] ∧ (SqL K H p ys ∨ SqT K H p ys) ∧ Q (.int ys.length) H) ∨ ∃ a kvs, xs = [V.ref a] ∧ H a = some (.dK kvs) ∧ Q (.int kvs.length) H
  | .tuple => fun xs H Q => ∃ p ys, xs = [.ref p] ∧ ((SqL K H p ys ∧ ∀ l, H l = none → Q (.ref l) (upd H l (.tup ys))) ∨ (SqT K H p ys ∧ Q (.ref p) H))
  | .list => fun xs H Q => ∃ p ys, xs = [.ref p] ∧ (SqL K H p ys ∨ SqT K H p ys) ∧ ∀ l, H l = none → Q (.ref l) (upd H l (.lst ys))
  | .int => fun xs H Q => (∃ i, xs = [.int i] ∧ Q (.int i) H) ∨ ∃ k, xs = [.bl k] ∧ Q (.int (if k then 1 else 0)) H
  | .sorted => fun xs H Q => rSortedI K xs H Q ∨ rSortT K xs H Q
  | .sum => rSum K
  | .max => rMax K
  | .min => rMin K
  | .all => rAll K
  | .repr => rRepr K
  | .set => fun _ _ _ => False
def biName : BI → Str
  | .len => "len"
  | .tuple => "tuple"
  | .list => "list"
  | .int => "int"
  | .sorted => "sorted"
  | .sum => "sum"
  | .max => "max"
  | .min => "min"
  | .all => "all"
  | .repr => "repr"
  | .set => "set"
def biVal : BI → Value
  | .len => .builtin "len"
  | .tuple => .type "tuple"
  | .list => .type "list"
  | .int => .type "int"
  | .sorted => .builtin "sorted"
  | .sum => .builtin "sum"
  | .max => .builtin "max"
  | .min => .builtin "min"
  | .all => .builtin "all"
  | .repr => .builtin "repr"
  | .set => .type "set"
theorem cr_bi {X : Cx} (hc : X.calm = true) (hu : X.A.units + 600 < cLine) (hg : X.A.guards = some []) (hst : CallR X (.builtin "sorted") (rSortT X.K)) : ∀ i, CallR X (biVal i) (rBi X.K i)
  | .len => call_len_seq.or call_lenD
  | .tuple => call_tuple_of
  | .list => call_list_of
  | .int => call_int1
  | .sorted => cr_sortedI.or hst
  | .sum => cr_sum hc
  | .max => cr_max hc
  | .min => cr_min hc
  | .all => cr_all hc
  | .repr => call_repr hu hg
  | .set => fun _ _ _ _ _ _ _ _ _ h => h.elim
section
variable {b : Bs} {σ : L2.St} {env : Env} {H G : Hp} {Q : VK}
/-- seen now: known data, or one's own object -/
def Seen (b : Bs) (H G : Hp) (v : V) (d : D) : Prop := (∃ a, v = .ref a ∧ OwnAt b.cs H G a d) ∨ Rep b.cs G v d
theorem Seen.now (s : Seen b H G v d) (S : Sat b σ H G env) : Rep b.cs H v d := by
  rcases s with ⟨a, rfl, o⟩ | r
  · exact o.seen S.ex
  · exact r.mono S.ex
/-- a list or a tuple that is seen: its items are known -/
theorem Seen.lst {ds : List D} (s : Seen b H G v (.lst ds)) (S : Sat b σ H G env) : ∃ a vs, v = .ref a ∧ H a = some (.lst vs) ∧ Reps b.cs G vs ds := by
  rcases s with ⟨a, rfl, vs, e, r⟩ | r
  · exact ⟨a, vs, rfl, e, r⟩
  · cases r with
    | lst h r => exact ⟨_, _, rfl, S.ex _ _ h, r⟩
theorem Seen.tup {ds : List D} (s : Seen b H G v (.tup ds)) : ∃ a vs, v = .ref a ∧ SqT b.cs.K G a vs ∧ Reps b.cs G vs ds := by
  rcases s with ⟨a, rfl, o⟩ | r
  · exact o.elim
  · cases r with
    | tup h r => exact ⟨_, _, rfl, h, r⟩
theorem repr_line {d : PyData} {w : Nat} (h2 : d.leavesShort 170 = true) (h3 : d.weight ≤ w) (hw : w ≤ 90000) : d.shown.length ≤ sizeLine := by
  have := PyData.shown_le 170 (by decide) d h2
  rw [sizeLine_eq]
  omega
theorem _root_.PD.Keys.length {c : Cs} : ∀ {kvs : List (Key × V)} {ks : List DK}, Keys c kvs ks → kvs.length = ks.length
  | _, _, .nil => rfl
  | _, _, .cons _ r => by rw [List.length_cons, List.length_cons, r.length]
theorem bi_ok (ok : WOk b.cs.W) {i : BI} {x d : D} {o : Bool} {vx : V} (hd : biD i x = some (o, d)) (S : Sat b σ H G env) (rx : Seen b H G vx x) (k : Kon b σ env G o d Q) : rBi b.cs.K i [vx] H Q := by
  unfold biD at hd
  split at hd
  · cases hd
    obtain ⟨a, vs, rfl, e, r⟩ := rx.tup
    refine .inl ⟨_, _, rfl, .inr (SqT.seen S e), ?_⟩
    rw [r.length]
    exact k.rep S (.int _)
  · cases hd
    obtain ⟨a, vs, rfl, e, r⟩ := rx.lst S
    refine .inl ⟨_, _, rfl, .inl (.of e), ?_⟩
    rw [r.length]
    exact k.rep S (.int _)
  · cases hd
    obtain ⟨a, kvs, rfl, e, ky⟩ : ∃ a kvs, vx = .ref a ∧ H a = some (.dK kvs) ∧ Keys b.cs kvs _ := by
      rcases rx with ⟨a, rfl, kvs, e, ky, r⟩ | r
      · exact ⟨a, kvs, rfl, e, ky⟩
      · cases r with
        | dic e ky r => exact ⟨_, _, rfl, S.ex _ _ e, ky⟩
    refine .inr ⟨_, _, rfl, e, ?_⟩
    rw [ky.length]
    exact k.rep S (.int _)
  · cases hd
    obtain ⟨a, vs, rfl, e, r⟩ := rx.tup
    exact ⟨_, _, rfl, .inr ⟨SqT.seen S e, k.rep S (.tup e r)⟩⟩
  · cases hd
    obtain ⟨a, vs, rfl, e, r⟩ := rx.lst S
    exact ⟨_, _, rfl, .inl ⟨.of e, fun l hl => k.tupN S r hl⟩⟩
  · cases hd
    obtain ⟨a, vs, rfl, e, r⟩ := rx.tup
    exact ⟨_, _, rfl, .inr (SqT.seen S e), fun l hl => k.lstN S r hl⟩
  · cases hd
    obtain ⟨a, vs, rfl, e, r⟩ := rx.lst S
    exact ⟨_, _, rfl, .inl (.of e), fun l hl => k.lstN S r hl⟩
  · cases hd
    rcases rx with ⟨a, _, o⟩ | rx
    · exact o.elim
    · cases rx
      exact .inl ⟨_, rfl, k.rep S (.int _)⟩
  · cases hd
    rcases rx with ⟨a, _, o⟩ | rx
    · exact o.elim
    · cases rx
      exact .inr ⟨_, rfl, k.rep S (.int _)⟩
  · obtain ⟨ns, h1, h2⟩ := Option.map_eq_some_iff.mp hd
    cases h2
    obtain ⟨a, vs, rfl, e, r⟩ := rx.lst S
    have hv := r.toInts h1
    subst hv
    refine .inl ⟨a, ns, rfl, .of e, fun ns' p hp hs hn => ?_⟩
    rw [sort_is hp hs]
    exact k.lstN S (Reps.ofInts _) hn
  · obtain ⟨ns, h1, h2⟩ := Option.map_eq_some_iff.mp hd
    cases h2
    obtain ⟨a, vs, rfl, e, r⟩ := rx.tup
    have hv := r.toInts h1
    subst hv
    refine .inr ⟨a, ns, rfl, SqT.seen S e, fun ns' p hp hs hn => ?_⟩
    rw [sort_is hp hs]
    exact k.lstN S (Reps.ofInts _) hn
  · obtain ⟨ns, h1, h2⟩ := Option.map_eq_some_iff.mp hd
    cases h2
    obtain ⟨a, vs, rfl, e, r⟩ := rx.lst S
    have hv := r.toInts h1
    subst hv
    exact ⟨a, ns, rfl, .of e, k.rep S (.int _)⟩
  · obtain ⟨ns, h1, h2⟩ := Option.bind_eq_some_iff.mp hd
    cases ns with
    | nil => cases h2
    | cons m t =>
      cases h2
      obtain ⟨a, vs, rfl, e, r⟩ := rx.lst S
      have hv := r.toInts h1
      subst hv
      refine ⟨a, m :: t, rfl, .of e, by simp, fun z hz hy => ?_⟩
      obtain ⟨q1, q2⟩ := maxI_mem t m
      rw [Int.le_antisymm (q2 z hz) (hy _ q1)]
      exact k.rep S (.int _)
  · obtain ⟨ns, h1, h2⟩ := Option.bind_eq_some_iff.mp hd
    cases ns with
    | nil => cases h2
    | cons m t =>
      cases h2
      obtain ⟨a, vs, rfl, e, r⟩ := rx.lst S
      have hv := r.toInts h1
      subst hv
      refine ⟨a, m :: t, rfl, .of e, by simp, fun z hz hy => ?_⟩
      obtain ⟨q1, q2⟩ := minI_mem t m
      rw [Int.le_antisymm (hy _ q1) (q2 z hz)]
      exact k.rep S (.int _)
  · obtain ⟨ns, h1, h2⟩ := Option.map_eq_some_iff.mp hd
    cases h2
    obtain ⟨a, vs, rfl, e, r⟩ := rx.lst S
    have hv := r.toBools h1
    subst hv
    exact ⟨a, ns, rfl, .of e, k.rep S (.bl _)⟩
  · split at hd
    · rename_i hp
      cases hd
      rw [Bool.and_eq_true, Bool.and_eq_true] at hp
      obtain ⟨⟨hp, hs⟩, hw⟩ := hp
      have hw := of_decide_eq_true hw
      have rn := rx.now S
      obtain ⟨a, vs, rfl, e, r⟩ := rx.tup
      obtain ⟨l1, l2, l3⟩ := rn.lay ok hp
      obtain ⟨f1, f2, f3⟩ := rn.fits ok hp hs
      exact .inl ⟨a, _, rfl, rn.dp ok.nd hp, f1, l3, l2, repr_line f2 f3 hw, k.rep S (.rp rfl)⟩
    · cases hd
  · split at hd
    · rename_i hp
      cases hd
      rw [Bool.and_eq_true, Bool.and_eq_true] at hp
      obtain ⟨⟨hp, hs⟩, hw⟩ := hp
      have hw := of_decide_eq_true hw
      have rn := rx.now S
      obtain ⟨a, vs, rfl, e, r⟩ := rx.lst S
      obtain ⟨l1, l2, l3⟩ := rn.lay ok hp
      obtain ⟨f1, f2, f3⟩ := rn.fits ok hp hs
      exact .inl ⟨a, _, rfl, rn.dp ok.nd hp, f1, l3, l2, repr_line f2 f3 hw, k.rep S (.rp rfl)⟩
    · cases hd
  · split at hd
    · rename_i hi
      cases hd
      rcases rx with ⟨a, _, o⟩ | rx
      · exact o.elim
      · cases rx
        exact .inr ⟨_, rfl, hi, k.rep S (.rp (by simp only [toPy]))⟩
    · cases hd
  · cases hd
end
end PD
/-! sorted of a tuple of ints. -/
namespace PD
open PySem PySem.Spec PyProof.Rows L2 SrtO
section
variable {prog : Program} {w : World} {A : Around} {E : Value → Shared → Prop} {s : Shared}
abbrev grow (h : Heap) (vs : List Value) : Heap :=
  (h.push (seqObj "list" #[] 0)).update h.objs.size
    (Obj.mapSeq (· ++ vs.toArray))
theorem gathered {t : Addr} {vs : List Value} {Q : List Value → Shared → Prop} (ht : IsTup s.heap t vs.toArray) (hn : vs.length ≤ sizeLine)
    (k : Q vs { s with heap := grow s.heap vs }) : wpAny (model prog w) A (collect (.ref t)) Q E s := by
  obtain ⟨ob, h1, h2, m, h3⟩ := ht
  have h1' : (s.heap.push (seqObj "list" #[] 0)).get? t = some ob := Heap.get?_push_of_some _ h1
  have hE : (s.heap.push (seqObj "list" #[] 0)).get? s.heap.objs.size = some (seqObj "list" #[] 0) := Heap.get?_push_size _ rfl
  unfold collect
  refine wpAny_bind (wpAny_runValue (codeAny_builtin entry_proto_collect' (?_ : wpAny _ _ (do
    again (.builtin "list.__iadd__" ⟨[← newList [], .ref t], []⟩)) _ _ s)))
  refine wpAny_bind (wpAny_newList (wpAny_pure ⟨Code.quiet_builtin _ (by decide +kernel), codeAny_builtin entry_list_iadd' (?_ :
    wpAny _ _ (Builtin.List.listExtendWith (.ref s.heap.objs.size) (.ref t)
      (.ref s.heap.objs.size)) _ _ { s with heap := s.heap.push (seqObj "list" #[] 0) })⟩))
  unfold Builtin.List.listExtendWith
  refine wpAny_bind (wpAny_typeOf (T := "tuple") ⟨ob, h1', h2⟩ ?_)
  rw [if_pos (by
    have e : (Value.type "tuple" == Value.type "tuple") = true := rfl
    rw [e, Bool.or_true])]
  refine wpAny_bind (listItems_at h1' h3 (wpAny_bind (listItems_at hE rfl ?_)))
  rw [if_neg (by simp)]
  refine wpAny_bind (listUpdate_at hE rfl ?_ (Nat.zero_le _)
    (by simp only [Array.size_append, List.size_toArray, List.length_nil]; omega))
  refine wpAny_pure (?_ : wpAny (model prog w) A (do
    let o ← load s.heap.objs.size
    match o.data with
    | .seq xs _ => pure xs.toList
    | _ => unsupported "internal:collect") Q E { s with heap := grow s.heap vs })
  refine wpAny_bind (wpAny_load (get?_update_seq hE _) ?_)
  refine (?_ : wpAny _ _ (pure ((#[] : Array Value) ++ vs.toArray).toList) Q E _)
  rw [show ((#[] : Array Value) ++ vs.toArray).toList = vs by simp]
  exact wpAny_pure k
theorem sortedT {t : Addr} {vs : List Value} {ns : List Int} {Q : Value → Shared → Prop} (ht : IsTup s.heap t vs.toArray) (hn : vs.length ≤ sizeLine) (hI : IntsAre vs ns)
    (k : ∀ out : List Value, Srtd ltIv out → Stb ltIv out vs → Q (.ref (s.heap.objs.size + 1)) { s with heap := sortedAll s.heap vs out.toArray }) :
    wpAny (model prog w) A (call (.builtin "sorted") [.ref t]) Q E s := by
  have sz : (grow s.heap vs).objs.size = s.heap.objs.size + 1 := by
    show ((s.heap.push _).update _ _).objs.size = _
    rw [Heap.size_update, size_push']
  have at1 : ((grow s.heap vs).push (seqObj "list" vs.toArray 0)).get? (s.heap.objs.size + 1) = some (seqObj "list" vs.toArray 0) := by
    rw [← sz]
    exact Heap.get?_push_size _ rfl
  refine Calls.call_function_entry kind_sorted plain_sorted entry_sorted (args_sorted1 _)
    (?_ : wpAny _ _ (Builtin.«sorted» ⟨[.ref t], []⟩) _ _ _)
  unfold Builtin.«sorted»
  refine wpAny_bind (m := checkCount "sorted" 1 1 _) (wpAny_pure (wpAny_bind
    (gathered ht hn (wpAny_bind (wpAny_newList ?_ hn)))))
  rw [show Heap.objs _ = (grow s.heap vs).objs from rfl, sz]
  refine wpAny_bind (wpAny_holding (wpAny_call_entry slot_list_sort ⟨_, at1, rfl⟩ entry_list_sort
    (list_sort_ord swo_int at1 hn (fun h2 => ints_sortable hI h2) fun out h1 h2 => ⟨_, rfl, ?_⟩)
    (args_list_sort _)))
  exact wpAny_pure ⟨_, rfl, k out h1 h2⟩
end
theorem cr_sortT {X : Cx} : CallR X (.builtin "sorted") (rSortT X.K) := by
  intro pins s σ H vs us Q I r h
  obtain ⟨a, ns, rfl, hs, q⟩ := h
  obtain ⟨its, rv, ht, hz⟩ := I.tuple hs
  rw [Vals.ref1 r]
  have hi := rv.ints
  refine sortedT ht (by rw [← rv.length]; exact hz) hi fun out h1 h2 => ?_
  obtain ⟨k1, k2, k3⟩ := ints_out hi h1 h2
  obtain ⟨ep, at'⟩ := sortedAll_at s.heap its out.toArray
  have len : ((out.map iv).map V.int).length ≤ sizeLine := by
    rw [List.length_map, k2.length_eq]
    rw [List.length_map] at hz
    exact hz
  have J := I.laid (a := s.heap.objs.size + 1) (o := .lst ((out.map iv).map V.int)) (t' := s.toks) (h' := sortedAll s.heap its out.toArray)
    (fun _ _ => sortedAll_old) (Nat.le_succ _)
    ⟨len, out, ep, vals_of_ints k1, at'⟩
  exact ⟨.ref _, _, J, rfl, q _ _ k2 k3 (I.hok.fresh (Nat.le_succ _))⟩
end PD
/-! Expressions: what a piece of syntax does by data. -/
namespace PD
open PySem L2

structure Tx where
  P : Program
  w : World
  K : PySem.W.Frag
  mg : Str → Option Value
  base : Heap
  W : List Str
  fnm : Nat → Option Str
  gnm : Nat → Option Str
  gdm : Nat → Option Str
  gv : Nat → D
  gms : Nat → List Nat
  xcl : List (Nat × Nat)
  xcs : List Nat
abbrev Tx.cs (T : Tx) : Cs := ⟨T.K, T.W, T.w⟩
def bltNames : List Str := ["len", "tuple", "list", "int", "sorted", "sum", "max", "min", "all", "repr", "set", "isinstance", "range", "str", "bool", "dict", "zip", "enumerate", "reversed"]
/-- __init__(self, f) of an own class of exceptions: it keeps what it is given -/
def spI (C : Addr) (f : Str) : Sp := fun vs H Q _ => ∃ (a : Addr) (y : V), vs = [.ref a, y] ∧ H a = some (exo a C none) ∧ ∀ dx, H dx = none → dx ≠ a → Q .non (upd (upd H dx (exd dx [(f, y)])) a (exo a C (some dx)))
/-- an own class of exceptions (the word k) with one field (the word f) -/
structure ClsAt (T : Tx) (k f : Nat) (nm fn : Str) (C fI : Addr) (fd : FuncData) : Prop where
  hk : T.W[k]? = some nm
  hf : T.W[f]? = some fn
  mg : T.mg nm = some (.ref C)
  ns : PySem.W.nsIn T.K mainGlobals nm = some (some (.ref C))
  ok : OexC T.K C
  iC : PySem.W.findIn T.K (.ref C) "__init__" = some (some (.ref fI))
  tI : PySem.W.typeIn T.K (.ref fI) = some (.type "function")
  no : PySem.W.findIn T.K (.ref C) fn = some none
  bd : Binds T.K fd ["self", fn] []
  fn : FnOk T.P T.w T.K T.mg T.base CX0 1 fI fd ["self", fn] (spI C fn)
  xc : ExcC T.K C
  ve : PySem.W.kitOne T.K (.ref C) (.type "ValueError") = some true
structure XisAt (T : Tx) (k c : Nat) (C : Addr) : Prop where
  ex : ∃ (nm : Str) (D : Addr), T.W[c]? = some nm ∧ T.mg nm = some (.ref D) ∧ PySem.W.kitOne T.K (.ref C) (.ref D) = some (c == k || c == 0) ∧ PySem.W.exmOne T.K (.ref C) (.ref D) = some (c == k || c == 0)
structure TOk (T : Tx) : Prop where
  cls : ∀ p ∈ T.xcl, ∃ nm fn C fI fd, ClsAt T p.1 p.2 nm fn C fI fd ∧ ∀ c ∈ T.xcs, XisAt T p.1 c C
  w1 : T.xcl ≠ [] → T.W[1]? = some ("ValueError" : Str) ∧ T.mg "ValueError" = none
  gmis : ∀ g x, T.gdm g = some x → ∀ k ∈ T.gms g, ∃ z a, T.W[k]? = some z ∧ T.mg x = some (.ref a) ∧ KMiss T.K T.w a z
  wok : WOk T.W
  glob : ∀ g x, T.gnm g = some x → ∃ v u, T.mg x = some u ∧ RelV v u ∧ ∀ G, Rep T.cs G v (T.gv g)
  gdic : ∀ g x, T.gdm g = some x → ∃ a ks vs, T.gv g = .dic ks vs ∧ T.mg x = some (.ref a) ∧ (a == sysModules) = false ∧ ∀ q d, findD ks vs q = some d → ∃ z v, T.cs.key q = some (.inr z) ∧ KDct T.K T.w a z v ∧ ∀ G, Rep T.cs G v d
  blt : ∀ x ∈ bltNames, T.mg x = none
structure Gx (T : Tx) (X : Cx) (N : List Str) (sc : Scope) (n : Nat) : Prop where
  prog : X.prog = T.P
  wld : X.w = T.w
  K : X.K = T.K
  mg : X.mg = T.mg
  base : X.base = T.base
  ns : X.N = N
  scp : ∀ x, X.env.scope.names.lookup x = sc.names.lookup x ∨ (sc.names.lookup x = some .free ∧ X.env.scope.names.lookup x = some .cell)
  nd : N.Nodup
  calm : X.calm = true
  guards : X.A.guards = some []
  room : Room (n + 64) X.A
  fnok : ∀ x, L2.Loc sc x → X.fn x = true ∨ X.env.scope.names.lookup x = some .local
theorem Gx.units {T : Tx} {X : Cx} {N : List Str} {sc : Scope} {n : Nat} (g : Gx T X N sc n) : X.A.units + 600 < cLine := by
  have := g.room.un
  omega

abbrev FE := Env → Option (Bool × D × Env)
def tEv (b : Bs) (f : FE) : TE := fun σ H Q => ∃ env G own d env', f env = some (own, d, env') ∧ Sat b σ H G env ∧ Kon b σ env' G own d Q
def tLk (b : Bs) (f : Env → Option (D × Env)) : TE := fun σ H Q => ∃ env G d env', f env = some (d, env') ∧ Sat b σ H G env ∧ ∀ v H' G', Same G G' → Sat b σ H' G' env' → Seen b H' G' v d → Q v H'
def tTt (b : Bs) (f : Env → Option (Bool × Env)) : TT := fun σ H Q => ∃ env G r env', f env = some (r, env') ∧ Sat b σ H G env ∧ ∀ H' G', Same G G' → Sat b σ H' G' env' → Q r H'
def ArgAt (b : Bs) (σ : L2.St) (G : Hp) (v : V) : Arg → Prop
  | .v d => Rep b.cs G v d
  | .s i => σ[i]? = some (some v)
def tAr (b : Bs) (f : Env → Option (Arg × Env)) : TE := fun σ H Q => ∃ env G a env', f env = some (a, env') ∧ Sat b σ H G env ∧ ∀ v H' G', Same G G' → Sat b σ H' G' env' → ArgAt b σ G' v a → Q v H'
inductive ArgsAt (b : Bs) (σ : L2.St) (G : Hp) : List V → List Arg → Prop where
  | nil : ArgsAt b σ G [] []
  | cons {v : V} {vs : List V} {a : Arg} {as : List Arg} : ArgAt b σ G v a → ArgsAt b σ G vs as → ArgsAt b σ G (v :: vs) (a :: as)
def tEvs (b : Bs) (f : Env → Option (List D × Env)) : TA := fun σ H Q => ∃ env G ds env', f env = some (ds, env') ∧ Sat b σ H G env ∧ ∀ vs H' G', Same G G' → Sat b σ H' G' env' → Reps b.cs G' vs ds → Q vs H'
def tArs (b : Bs) (f : Env → Option (List Arg × Env)) : TA := fun σ H Q => ∃ env G as env', f env = some (as, env') ∧ Sat b σ H G env ∧ ∀ vs H' G', Same G G' → Sat b σ H' G' env' → ArgsAt b σ G' vs as → Q vs H'

section
variable {X : Cx} {b : Bs} {e e1 e2 e3 : Expr} {pos : Pos}
theorem _root_.L2.PE.wk {t t' : TE} (h : PE X e t) (k : ∀ σ H Q, t' σ H Q → t σ H Q) : PE X e t' := ⟨fun pins s σ H Q I q => h.run pins s σ H Q I (k σ H Q q)⟩
theorem _root_.L2.PT.wk {t t' : TT} (h : PT X e t) (k : ∀ σ H Q, t' σ H Q → t σ H Q) : PT X e t' := ⟨fun pins s σ H Q I q => h.run pins s σ H Q I (k σ H Q q)⟩
theorem _root_.L2.PA.wk {es : List Expr} {t t' : TA} (h : PA X es t) (k : ∀ σ H Q, t' σ H Q → t σ H Q) : PA X es t' := ⟨fun p pins s σ H Q I q => h.run p pins s σ H Q I (k σ H Q q)⟩
variable {σ : L2.St} {H G : Hp} {env env' : Env} {own : Bool} {d : D}
theorem use {f : FE} (h : f env = some (own, d, env')) (S : Sat b σ H G env) {R : V → Hp → Prop} (k : ∀ v H1 G1, Same G G1 → Sat b σ H1 G1 env' → Rep b.cs G1 v d → R v H1) : tEv b f σ H R :=
  ⟨env, G, own, d, env', h, S, fun v H1 G1 g1 S1 r => by
    obtain ⟨G2, g2, S2, r2⟩ := S1.tail r
    exact k v H1 G2 (g1.trans g2) S2 r2⟩
theorem useL {f : Env → Option (D × Env)} (h : f env = some (d, env')) (S : Sat b σ H G env) {R : V → Hp → Prop} (k : ∀ v H1 G1, Same G G1 → Sat b σ H1 G1 env' → Seen b H1 G1 v d → R v H1) : tLk b f σ H R :=
  ⟨env, G, d, env', h, S, k⟩
theorem useT {f : Env → Option (Bool × Env)} {r : Bool} (h : f env = some (r, env')) (S : Sat b σ H G env) {R : Bool → Hp → Prop} (k : ∀ H1 G1, Same G G1 → Sat b σ H1 G1 env' → R r H1) : tTt b f σ H R :=
  ⟨env, G, r, env', h, S, k⟩
theorem Kon.step {G1 : Hp} {Q : VK} (k : Kon b σ env G own d Q) (g : Same G G1) : Kon b σ env G1 own d Q := fun v H' G' g' S r => k v H' G' (g.trans g') S r

structure JE (X : Cx) (b : Bs) (e : Expr) (m : Sm) : Prop where
  ev : PE X e (tEv b m.ev)
  lk : PE X e (tLk b m.lk)
  t : PT X e (tTt b m.t)
  ar : PE X e (tAr b m.ar)
  ns : ∀ es env, starEach (e :: es) env = (false, eval e env) :: starEach es env
  ix : PlainIx e
/-- no star, no slice -/
structure Bare (X : Cx) (e : Expr) : Prop where
  he : ∀ whole, isTrue e X.env whole = (do let v ← whole; standAt e.pos; holding [v] (truthy v))
  ns : ∀ es env, starEach (e :: es) env = (false, eval e env) :: starEach es env
  ix : PlainIx e
/-- no test of its own -/
def Plain (X : Cx) (e : Expr) : Prop := ∀ whole, isTrue e X.env whole = (do let v ← whole; standAt e.pos; holding [v] (truthy v))
theorem tru_of {v : V} {r : Bool} (h : trD d = some r) (s : Seen b H G v d) (S : Sat b σ H G env) : TruV b.cs.K v H r := by
  have rn := s.now S
  unfold trD at h
  split at h
  · cases h; cases rn; rfl
  · cases h; cases rn; rfl
  · cases h; cases rn; rfl
  · cases h
    cases rn with
    | tup e r =>
      refine .inr (.inl ⟨_, e, ?_⟩)
      cases r <;> rfl
  · cases h
    cases rn with
    | lst e r => exact .inl ⟨_, .of e, by cases r <;> rfl⟩
  · cases h
theorem JE.of {f : FE} (hK : X.K = b.cs.K) (h : PE X e (tEv b f)) (he : Bare X e) : JE X b e (Sm.of f) where
  ns := he.ns
  ix := he.ix
  ev := h
  lk := h.wk fun σ H Q ⟨env, G, d, env', q, S, k⟩ => by
    obtain ⟨p, h1, h2⟩ := Option.map_eq_some_iff.mp q
    cases h2
    exact use (own := p.1) (d := p.2.1) (env' := p.2.2) h1 S fun v H1 G1 g1 S1 r => k v H1 G1 g1 S1 (.inr r)
  t := (pt_truth h he.he).wk fun σ H Q ⟨env, G, r, env', q, S, k⟩ => by
    obtain ⟨p, h1, h2⟩ := Option.bind_eq_some_iff.mp q
    obtain ⟨r', h3, h4⟩ := Option.map_eq_some_iff.mp h2
    cases h4
    exact use (own := p.1) (d := p.2.1) (env' := p.2.2) h1 S fun v H1 G1 g1 S1 rv => ⟨r, by rw [hK]; exact tru_of h3 (.inr rv) S1, k H1 G1 g1 S1⟩
  ar := h.wk fun σ H Q ⟨env, G, a, env', q, S, k⟩ => by
    obtain ⟨p, h1, h2⟩ := Option.map_eq_some_iff.mp q
    cases h2
    exact use (own := p.1) (d := p.2.1) (env' := p.2.2) h1 S fun v H1 G1 g1 S1 r => k v H1 G1 g1 S1 r
theorem getC_some {i : Nat} {f : Fl} (h : getC env i = some (f, d)) : env[i]? = some (some (f, d)) := by
  unfold getC at h
  split at h
  · cases h; assumption
  · cases h
theorem set_self {i : Nat} {c : Cell} (h : env[i]? = some c) : env.set i c = env := by
  refine List.ext_getElem? fun j => ?_
  by_cases hij : i = j
  · subst hij
    rw [List.getElem?_set_self (List.getElem?_eq_some_iff.mp h).1, h]
  · rw [List.getElem?_set_ne hij]
/-- a name is read, and held by more than the name from now on -/
theorem Sat.read (S : Sat b σ H G env) {i : Nat} (h : readV env i = some (d, env')) : ∃ G' v, Same G G' ∧ Sat b σ H G' env' ∧ σ[i]? = some (some v) ∧ Rep b.cs G' v d := by
  unfold readV at h
  split at h
  · rename_i hc
    cases h
    have := S.frozen (getC_some hc)
    rw [show frz Fl.fro = Fl.fro from rfl, set_self (getC_some hc)] at this
    exact this
  · rename_i hc
    cases h
    have := S.frozen (getC_some hc)
    rw [show frz Fl.lfro = Fl.lfro from rfl, set_self (getC_some hc)] at this
    exact this
  · rename_i hc
    cases h
    exact S.frozen (getC_some hc)
  · cases h
theorem Sat.look (S : Sat b σ H G env) {i : Nat} (h : lookV env i = some d) : ∃ v, σ[i]? = some (some v) ∧ Seen b H G v d := by
  unfold lookV at h
  obtain ⟨p, h1, h2⟩ := Option.map_eq_some_iff.mp h
  obtain ⟨f, d'⟩ := p
  cases h2
  obtain ⟨v, hv, k⟩ := S.slot i f d' (getC_some h1)
  refine ⟨v, hv, ?_⟩
  cases f with
  | fro => exact .inr k
  | lfro => exact .inr k.1
  | own => obtain ⟨a, e, _, _, o⟩ := k; exact .inl ⟨a, e, o⟩
  | lent => obtain ⟨a, e, _, _, o⟩ := k; exact .inl ⟨a, e, o⟩
theorem JE.va {i : Nat} (hK : X.K = b.cs.K) (h : PE X e (tVar i)) (he : Bare X e) : JE X b e (Sm.va i) where
  ns := he.ns
  ix := he.ix
  ev := h.wk fun σ H Q ⟨env, G, own, d, env', q, S, k⟩ => by
    obtain ⟨p, h1, h2⟩ := Option.map_eq_some_iff.mp q
    cases h2
    obtain ⟨G', v, g, S', hv, r⟩ := S.read h1
    exact ⟨v, hv, k v H G' g S' r⟩
  lk := h.wk fun σ H Q ⟨env, G, d, env', q, S, k⟩ => by
    obtain ⟨p, h1, h2⟩ := Option.map_eq_some_iff.mp q
    cases h2
    obtain ⟨v, hv, r⟩ := S.look h1
    exact ⟨v, hv, k v H G (Same.refl G) S r⟩
  t := (pt_truth h he.he).wk fun σ H Q ⟨env, G, r, env', q, S, k⟩ => by
    obtain ⟨d, h1, h2⟩ := Option.bind_eq_some_iff.mp q
    obtain ⟨r', h3, h4⟩ := Option.map_eq_some_iff.mp h2
    cases h4
    obtain ⟨v, hv, rv⟩ := S.look h1
    exact ⟨v, hv, r, by rw [hK]; exact tru_of h3 rv S, k H G (Same.refl G) S⟩
  ar := h.wk fun σ H Q ⟨env, G, a, env', q, S, k⟩ => by
    obtain ⟨p, h1, h2⟩ := Option.map_eq_some_iff.mp q
    cases h2
    obtain ⟨f, d'⟩ := p
    obtain ⟨v, hv, _⟩ := S.slot i f d' (getC_some h1)
    exact ⟨v, hv, k v H G (Same.refl G) S hv⟩
/-- a constant -/
theorem JE.co {v : V} (hK : X.K = b.cs.K) (h : PE X e (tC v)) (he : Bare X e) (hd : ∀ G, Rep b.cs G v d) : JE X b e (Sm.of fun env => some (false, d, env)) :=
  JE.of hK (h.wk fun σ H Q ⟨env, G, own, d', env', q, S, k⟩ => by
    cases q
    exact k v H G (Same.refl G) S (hd G)) he
end
end PD
namespace PD
open PySem L2
section
variable {X : Cx} {b : Bs} {e e1 e2 e3 : Expr} {pos : Pos} {Φ : Phi} {gv : Nat → D}
/-! ### one by one -/
theorem bare_name {x : Str} : Bare X (.Name x pos) := ⟨fun _ => rfl, fun _ _ => rfl, fun _ _ => rfl⟩
theorem bare_const {k j} : Bare X (.Constant k j pos) := ⟨fun _ => rfl, fun _ _ => rfl, fun _ _ => rfl⟩
theorem bare_bin {o} : Bare X (.BinOp e1 o e2 pos) := ⟨fun _ => rfl, fun _ _ => rfl, fun _ _ => rfl⟩
theorem bare_neg : Bare X (.UnaryOp .USub e pos) := ⟨fun _ => rfl, fun _ _ => rfl, fun _ _ => rfl⟩
theorem bare_tup {es k} : Bare X (.Tuple es k pos) := ⟨fun _ => rfl, fun _ _ => rfl, fun _ _ => rfl⟩
theorem bare_lst {es} : Bare X (.List es pos) := ⟨fun _ => rfl, fun _ _ => rfl, fun _ _ => rfl⟩
theorem bare_dict {ks vs} : Bare X (.Dict ks vs pos) := ⟨fun _ => rfl, fun _ _ => rfl, fun _ _ => rfl⟩
theorem bare_sub : Bare X (.Subscript e1 e2 pos) := ⟨fun _ => rfl, fun _ _ => rfl, fun _ _ => rfl⟩
theorem bare_call {es ks} : Bare X (.Call e es ks pos) := ⟨fun _ => rfl, fun _ _ => rfl, fun _ _ => rfl⟩
theorem bare_comp {gs sc} : Bare X (.ListComp e gs sc pos) := ⟨fun _ => rfl, fun _ _ => rfl, fun _ _ => rfl⟩
theorem je_bin {op : BOp} {a c : IE} (hK : X.K = b.cs.K) (ha : JE X b e1 (sem Φ gv a)) (hb : JE X b e2 (sem Φ gv c)) : JE X b (.BinOp e1 (pOp op) e2 pos) (sem Φ gv (.bin op a c)) := by
  refine JE.of hK ((pe_op (op_bin op) ha.ev hb.ev).wk fun σ H Q ⟨env, G, own, d, env', q, S, k⟩ => ?_) bare_bin
  obtain ⟨p, h1, q⟩ := Option.bind_eq_some_iff.mp q
  obtain ⟨p2, h2, q⟩ := Option.bind_eq_some_iff.mp q
  obtain ⟨d', h3, h4⟩ := Option.map_eq_some_iff.mp q
  cases h4
  refine use (own := p.1) (d := p.2.1) (env' := p.2.2) h1 S fun v1 H1 G1 g1 S1 r1 => ?_
  refine use (own := p2.1) (d := p2.2.1) (env' := p2.2.2) h2 S1 fun v2 H2 G2 g2 S2 r2 => ?_
  rw [hK]
  exact bin_ok h3 S2 (r1.mono g2) r2 (k.step (g1.trans g2))
theorem je_neg {a : IE} (hK : X.K = b.cs.K) (ha : JE X b e (sem Φ gv a)) : JE X b (.UnaryOp .USub e pos) (sem Φ gv (.neg a)) := by
  refine JE.of hK ((pe_un un_neg ha.ev).wk fun σ H Q ⟨env, G, own, d, env', q, S, k⟩ => ?_) bare_neg
  obtain ⟨p, h1, q⟩ := Option.bind_eq_some_iff.mp q
  obtain ⟨o, x, env1⟩ := p
  dsimp only at q
  split at q
  · cases q
    refine use h1 S fun v1 H1 G1 g1 S1 r1 => ?_
    cases r1
    exact ⟨_, rfl, (k.step g1).rep S1 (.int _)⟩
  · cases q
theorem cmp_mark {op : COp} (h : behindInMarks (pCmp op) e2 = false) : behindInMarks (pCmp op) e2 = false := h
theorem je_cmp {op : COp} {a c : IE} (hK : X.K = b.cs.K) (ok : WOk b.cs.W) (hu : X.A.units + 600 < cLine) (hm : behindInMarks (pCmp op) e2 = false) (ha : JE X b e1 (sem Φ gv a)) (hb : JE X b e2 (sem Φ gv c)) :
    JE X b (.Compare e1 [pCmp op] [e2] pos) (sem Φ gv (.cmp op a c)) := by
  have main : ∀ {σ : L2.St} {H : Hp} {R : Bool → VK} {env env' : Env} {G : Hp} {r : Bool}, (((sem Φ gv a).ev env).bind fun p => ((sem Φ gv c).lk p.2.2).bind fun q => (cmpD op p.2.1 q.1).map fun r => (r, q.2)) = some (r, env') →
      Sat b σ H G env → ∀ (Q : VK), (∀ H1 G1, Same G G1 → Sat b σ H1 G1 env' → Q (.bl r) H1) → tOp (rCmp X.K op) (tEv b (sem Φ gv a).ev) (tLk b (sem Φ gv c).lk) σ H Q := by
    intro σ H R env env' G r q S Q k
    obtain ⟨p, h1, q⟩ := Option.bind_eq_some_iff.mp q
    obtain ⟨p2, h2, q⟩ := Option.bind_eq_some_iff.mp q
    obtain ⟨d', h3, h4⟩ := Option.map_eq_some_iff.mp q
    cases h4
    refine use (own := p.1) (d := p.2.1) (env' := p.2.2) h1 S fun v1 H1 G1 g1 S1 r1 => ?_
    refine useL (d := p2.1) (env' := p2.2) h2 S1 fun v2 H2 G2 g2 S2 r2 => ?_
    rw [hK]
    exact cmp_ok ok h3 ((r1.mono g2).mono S2.ex) (r2.now S2) (k H2 G2 (g1.trans g2) S2)
  have pe := pe_cmpR (pos := pos) (op_cmp hu op) ha.ev hb.lk hm
  have pt := pt_cmpR (pos := pos) (op_cmp hu op) ha.ev hb.lk hm
  have conv : ∀ {env : Env} {own : Bool} {d : D} {env' : Env}, (sem Φ gv (.cmp op a c)).ev env = some (own, d, env') → ∃ r, own = false ∧ d = .bl r ∧
      (((sem Φ gv a).ev env).bind fun p => ((sem Φ gv c).lk p.2.2).bind fun q => (cmpD op p.2.1 q.1).map fun r => (r, q.2)) = some (r, env') := by
    intro env own d env' q
    obtain ⟨p, h1, q⟩ := Option.bind_eq_some_iff.mp q
    obtain ⟨p2, h2, q⟩ := Option.bind_eq_some_iff.mp q
    obtain ⟨d', h3, h4⟩ := Option.map_eq_some_iff.mp q
    cases h4
    exact ⟨d', rfl, rfl, by rw [h1, Option.bind_some, h2, Option.bind_some, h3, Option.map_some]⟩
  refine ⟨pe.wk fun σ H Q ⟨env, G, own, d, env', q, S, k⟩ => ?_, pe.wk fun σ H Q ⟨env, G, d, env', q, S, k⟩ => ?_, pt.wk fun σ H Q ⟨env, G, r, env', q, S, k⟩ => ?_, pe.wk fun σ H Q ⟨env, G, x, env', q, S, k⟩ => ?_, fun _ _ => rfl, fun _ _ => rfl⟩
  · obtain ⟨r, rfl, rfl, q2⟩ := conv q
    exact main (R := fun _ => Q) q2 S Q fun H1 G1 g1 S1 => k _ H1 G1 g1 S1 (.bl r)
  · obtain ⟨p, h1, h2⟩ := Option.map_eq_some_iff.mp q
    obtain ⟨o, x, e0⟩ := p
    cases h2
    obtain ⟨r, rfl, rfl, q2⟩ := conv h1
    exact main (R := fun _ => Q) q2 S Q fun H1 G1 g1 S1 => k _ H1 G1 g1 S1 (.inr (.bl r))
  · obtain ⟨p, h1, h2⟩ := Option.bind_eq_some_iff.mp q
    obtain ⟨o, x, e0⟩ := p
    obtain ⟨t, h3, h4⟩ := Option.map_eq_some_iff.mp h2
    cases h4
    obtain ⟨r', rfl, rfl, q2⟩ := conv h1
    cases h3
    exact main (R := fun _ => fun _ _ => True) q2 S _ fun H1 G1 g1 S1 => ⟨_, rfl, k H1 G1 g1 S1⟩
  · obtain ⟨p, h1, h2⟩ := Option.map_eq_some_iff.mp q
    obtain ⟨o, x, e0⟩ := p
    cases h2
    obtain ⟨r, rfl, rfl, q2⟩ := conv h1
    exact main (R := fun _ => Q) q2 S Q fun H1 G1 g1 S1 => k _ H1 G1 g1 S1 (Rep.bl r)
/-- what gives a truth by itself -/
theorem JE.bool {core : Env → Option (Bool × Env)} {f : FE} {te : TE} (pe : PE X e te) (pt : PT X e (tTest te)) (hn : ∀ es env, starEach (e :: es) env = (false, eval e env) :: starEach es env) (hi : PlainIx e)
    (hf : ∀ env, f env = (core env).map fun p => (false, .bl p.1, p.2))
    (main : ∀ (σ : L2.St) (H : Hp) (env : Env) (G : Hp) (r : Bool) (env' : Env) (Q : VK), core env = some (r, env') → Sat b σ H G env → (∀ H1 G1, Same G G1 → Sat b σ H1 G1 env' → Q (.bl r) H1) → te σ H Q) : JE X b e (Sm.of f) := by
  have conv : ∀ {env : Env} {own : Bool} {d : D} {env' : Env}, f env = some (own, d, env') → ∃ r, own = false ∧ d = .bl r ∧ core env = some (r, env') := by
    intro env own d env' q
    rw [hf] at q
    obtain ⟨p, h1, h2⟩ := Option.map_eq_some_iff.mp q
    cases h2
    exact ⟨_, rfl, rfl, h1⟩
  refine ⟨pe.wk fun σ H Q ⟨env, G, own, d, env', q, S, k⟩ => ?_, pe.wk fun σ H Q ⟨env, G, d, env', q, S, k⟩ => ?_, pt.wk fun σ H Q ⟨env, G, r, env', q, S, k⟩ => ?_, pe.wk fun σ H Q ⟨env, G, x, env', q, S, k⟩ => ?_, hn, hi⟩
  · obtain ⟨r, rfl, rfl, q2⟩ := conv q
    exact main σ H env G r env' Q q2 S fun H1 G1 g1 S1 => k _ H1 G1 g1 S1 (.bl r)
  · obtain ⟨p, h1, h2⟩ := Option.map_eq_some_iff.mp q
    obtain ⟨o, x, e0⟩ := p
    cases h2
    obtain ⟨r, rfl, rfl, q2⟩ := conv h1
    exact main σ H env G r _ Q q2 S fun H1 G1 g1 S1 => k _ H1 G1 g1 S1 (.inr (.bl r))
  · obtain ⟨p, h1, h2⟩ := Option.bind_eq_some_iff.mp q
    obtain ⟨o, x, e0⟩ := p
    obtain ⟨t, h3, h4⟩ := Option.map_eq_some_iff.mp h2
    cases h4
    obtain ⟨r', rfl, rfl, q2⟩ := conv h1
    cases h3
    exact main σ H env G _ _ _ q2 S fun H1 G1 g1 S1 => ⟨_, rfl, k H1 G1 g1 S1⟩
  · obtain ⟨p, h1, h2⟩ := Option.map_eq_some_iff.mp q
    obtain ⟨o, x, e0⟩ := p
    cases h2
    obtain ⟨r, rfl, rfl, q2⟩ := conv h1
    exact main σ H env G r _ Q q2 S fun H1 G1 g1 S1 => k _ H1 G1 g1 S1 (Rep.bl r)
theorem je_ch {o1 o2 : COp} {a c t : IE} (hK : X.K = b.cs.K) (ok : WOk b.cs.W) (hu : X.A.units + 600 < cLine) (hm : lastMarks [pCmp o1, pCmp o2] [e2, e3] = false) (ha : JE X b e1 (sem Φ gv a)) (hb : JE X b e2 (sem Φ gv c)) (hc : JE X b e3 (sem Φ gv t)) :
    JE X b (.Compare e1 [pCmp o1, pCmp o2] [e2, e3] pos) (sem Φ gv (.ch o1 o2 a c t)) := by
  refine JE.bool (core := fun env => ((sem Φ gv a).ev env).bind fun p => ((sem Φ gv c).ev p.2.2).bind fun q => (cmpD o1 p.2.1 q.2.1).bind fun r =>
      if r then ((sem Φ gv t).ev q.2.2).bind fun s => (cmpD o2 q.2.1 s.2.1).map fun t => (t, s.2.2) else some (false, q.2.2))
    (pe_chain (op_cmp hu o1) (op_cmp hu o2) ha.ev hb.ev hc.ev hm) (pt_chain (op_cmp hu o1) (op_cmp hu o2) ha.ev hb.ev hc.ev hm) (fun _ _ => rfl) (fun _ _ => rfl) (fun env => ?_) fun σ H env G r env' Q q S k => ?_
  · show (((sem Φ gv a).ev env).bind fun p => ((sem Φ gv c).ev p.2.2).bind fun q => (cmpD o1 p.2.1 q.2.1).bind fun r =>
      if r then ((sem Φ gv t).ev q.2.2).bind fun s => (cmpD o2 q.2.1 s.2.1).map fun t => (false, D.bl t, s.2.2) else some (false, D.bl false, q.2.2)) = _
    cases (sem Φ gv a).ev env with
    | none => rfl
    | some p =>
      simp only [Option.bind_some]
      cases (sem Φ gv c).ev p.2.2 with
      | none => rfl
      | some q =>
        simp only [Option.bind_some]
        cases cmpD o1 p.2.1 q.2.1 with
        | none => rfl
        | some r =>
          simp only [Option.bind_some]
          cases r with
          | false => rfl
          | true =>
            simp only [if_true]
            cases (sem Φ gv t).ev q.2.2 with
            | none => rfl
            | some s =>
              simp only [Option.bind_some, Option.map_map]
              rfl
  · obtain ⟨p, h1, q⟩ := Option.bind_eq_some_iff.mp q
    obtain ⟨p2, h2, q⟩ := Option.bind_eq_some_iff.mp q
    obtain ⟨r1, h3, q⟩ := Option.bind_eq_some_iff.mp q
    refine use (own := p.1) (d := p.2.1) (env' := p.2.2) h1 S fun v1 H1 G1 g1 S1 q1 => ?_
    refine use (own := p2.1) (d := p2.2.1) (env' := p2.2.2) h2 S1 fun v2 H2 G2 g2 S2 q2 => ?_
    rw [hK]
    refine cmp_ok ok h3 ((q1.mono g2).mono S2.ex) (q2.mono S2.ex) ⟨_, rfl, ?_⟩
    cases r1 with
    | false =>
      cases q
      rw [if_neg Bool.false_ne_true]
      exact k H2 G2 (g1.trans g2) S2
    | true =>
      rw [if_pos rfl] at q ⊢
      obtain ⟨p3, h4, q⟩ := Option.bind_eq_some_iff.mp q
      obtain ⟨r2, h5, q⟩ := Option.map_eq_some_iff.mp q
      cases q
      refine use (own := p3.1) (d := p3.2.1) (env' := p3.2.2) h4 S2 fun v3 H3 G3 g3 S3 q3 => ?_
      exact cmp_ok ok h5 ((q2.mono g3).mono S3.ex) (q3.mono S3.ex) (k H3 G3 ((g1.trans g2).trans g3) S3)
/-! ### and, or, not -/
/-- a row of tests -/
structure JB (X : Cx) (b : Bs) (e : Expr) (m : Sm) : Prop where
  ev : PE X e (tEv b m.ev)
  t : PW X e (tTt b m.t)
theorem PW.wk' {t t' : TT} (h : PW X e t) (k : ∀ σ H Q, t' σ H Q → t σ H Q) : PW X e t' := ⟨fun wh pins s σ H Q I q => h.run wh pins s σ H Q I (k σ H Q q)⟩
theorem JB.je {m : Sm} (h : JB X b e m) (hl : m.lk = fun env => (m.ev env).map fun p => (p.2.1, p.2.2)) (ha : m.ar = fun env => (m.ev env).map fun p => (.v p.2.1, p.2.2))
    (hn : ∀ es env, starEach (e :: es) env = (false, eval e env) :: starEach es env) (hi : PlainIx e) : JE X b e m where
  ev := h.ev
  lk := h.ev.wk fun σ H Q ⟨env, G, d, env', q, S, k⟩ => by
    rw [hl] at q
    obtain ⟨p, h1, h2⟩ := Option.map_eq_some_iff.mp q
    cases h2
    exact use (own := p.1) (d := p.2.1) (env' := p.2.2) h1 S fun v H1 G1 g1 S1 r => k v H1 G1 g1 S1 (.inr r)
  t := h.t.pt
  ar := h.ev.wk fun σ H Q ⟨env, G, a, env', q, S, k⟩ => by
    rw [ha] at q
    obtain ⟨p, h1, h2⟩ := Option.map_eq_some_iff.mp q
    cases h2
    exact use (own := p.1) (d := p.2.1) (env' := p.2.2) h1 S fun v H1 G1 g1 S1 r => k v H1 G1 g1 S1 r
  ns := hn
  ix := hi
theorem jb_and1 {m : Sm} (h : JE X b e m) : JB X b (.BoolOp .And [e] pos) m := ⟨pe_one h.ev, pw_and1 h.t⟩
theorem jb_or1 {m : Sm} (h : JE X b e m) : JB X b (.BoolOp .Or [e] pos) m := ⟨pe_one h.ev, pw_or1 h.t⟩
theorem jb_and {r : List Expr} {a c : IE} (ha : JE X b e1 (sem Φ gv a)) (hb : JB X b (.BoolOp .And (e2 :: r) pos) (sem Φ gv c)) : JB X b (.BoolOp .And (e1 :: e2 :: r) pos) (sem Φ gv (.and_ a c)) where
  ev := (pe_and ha.ev hb.ev).wk fun σ H Q ⟨env, G, own, d, env', q, S, k⟩ => by
    obtain ⟨p, h1, q⟩ := Option.bind_eq_some_iff.mp q
    obtain ⟨o, x, e0⟩ := p
    refine use h1 S fun v1 H1 G1 g1 S1 r1 => ?_
    split at q
    · rename_i hx
      simp only at hx
      subst hx
      cases r1
      refine ⟨true, rfl, ?_⟩
      rw [if_pos rfl]
      obtain ⟨p2, h2, q⟩ := Option.bind_eq_some_iff.mp q
      obtain ⟨o2, x2, e02⟩ := p2
      refine use h2 S1 fun v2 H2 G2 g2 S2 r2 => ?_
      split at q
      · rename_i hx2
        simp only at hx2
        subst hx2
        cases q
        exact k v2 H2 G2 (g1.trans g2) S2 r2
      · cases q
    · rename_i hx
      simp only at hx
      subst hx
      cases r1
      cases q
      refine ⟨false, rfl, ?_⟩
      rw [if_neg Bool.false_ne_true]
      exact k _ H1 G1 g1 S1 (.bl false)
    · cases q
  t := PW.wk' (pw_and ha.t hb.t) fun σ H Q ⟨env, G, r, env', q, S, k⟩ => by
    obtain ⟨p, h1, q⟩ := Option.bind_eq_some_iff.mp q
    obtain ⟨x, e0⟩ := p
    refine useT h1 S fun H1 G1 g1 S1 => ?_
    cases x with
    | true =>
      rw [if_pos rfl] at q ⊢
      exact useT q S1 fun H2 G2 g2 S2 => k H2 G2 (g1.trans g2) S2
    | false =>
      rw [if_neg Bool.false_ne_true] at q ⊢
      cases q
      exact k H1 G1 g1 S1
theorem jb_or {r : List Expr} {a c : IE} (ha : JE X b e1 (sem Φ gv a)) (hb : JB X b (.BoolOp .Or (e2 :: r) pos) (sem Φ gv c)) : JB X b (.BoolOp .Or (e1 :: e2 :: r) pos) (sem Φ gv (.or_ a c)) where
  ev := (pe_or ha.ev hb.ev).wk fun σ H Q ⟨env, G, own, d, env', q, S, k⟩ => by
    obtain ⟨p, h1, q⟩ := Option.bind_eq_some_iff.mp q
    obtain ⟨o, x, e0⟩ := p
    refine use h1 S fun v1 H1 G1 g1 S1 r1 => ?_
    split at q
    · rename_i hx
      simp only at hx
      subst hx
      cases r1
      refine ⟨false, rfl, ?_⟩
      rw [if_neg Bool.false_ne_true]
      obtain ⟨p2, h2, q⟩ := Option.bind_eq_some_iff.mp q
      obtain ⟨o2, x2, e02⟩ := p2
      refine use h2 S1 fun v2 H2 G2 g2 S2 r2 => ?_
      split at q
      · rename_i hx2
        simp only at hx2
        subst hx2
        cases q
        exact k v2 H2 G2 (g1.trans g2) S2 r2
      · cases q
    · rename_i hx
      simp only at hx
      subst hx
      cases r1
      cases q
      refine ⟨true, rfl, ?_⟩
      rw [if_pos rfl]
      exact k _ H1 G1 g1 S1 (.bl true)
    · cases q
  t := PW.wk' (pw_or ha.t hb.t) fun σ H Q ⟨env, G, r, env', q, S, k⟩ => by
    obtain ⟨p, h1, q⟩ := Option.bind_eq_some_iff.mp q
    obtain ⟨x, e0⟩ := p
    refine useT h1 S fun H1 G1 g1 S1 => ?_
    cases x with
    | false =>
      rw [if_neg Bool.false_ne_true] at q ⊢
      exact useT q S1 fun H2 G2 g2 S2 => k H2 G2 (g1.trans g2) S2
    | true =>
      rw [if_pos rfl] at q ⊢
      cases q
      exact k H1 G1 g1 S1
theorem je_and {r : List Expr} {a c : IE} (h : JB X b (.BoolOp .And (e1 :: e2 :: r) pos) (sem Φ gv (.and_ a c))) : JE X b (.BoolOp .And (e1 :: e2 :: r) pos) (sem Φ gv (.and_ a c)) := h.je rfl rfl (fun _ _ => rfl) (fun _ _ => rfl)
theorem je_or {r : List Expr} {a c : IE} (h : JB X b (.BoolOp .Or (e1 :: e2 :: r) pos) (sem Φ gv (.or_ a c))) : JE X b (.BoolOp .Or (e1 :: e2 :: r) pos) (sem Φ gv (.or_ a c)) := h.je rfl rfl (fun _ _ => rfl) (fun _ _ => rfl)
theorem je_not {a : IE} (ha : JE X b e (sem Φ gv a)) : JE X b (.UnaryOp .Not e pos) (sem Φ gv (.not_ a)) where
  ev := (pe_not ha.ev).wk fun σ H Q ⟨env, G, own, d, env', q, S, k⟩ => by
    obtain ⟨p, h1, q⟩ := Option.bind_eq_some_iff.mp q
    obtain ⟨o, x, e0⟩ := p
    refine use h1 S fun v1 H1 G1 g1 S1 r1 => ?_
    split at q
    · rename_i hx
      simp only at hx
      subst hx
      cases r1
      cases q
      exact ⟨_, rfl, k _ H1 G1 g1 S1 (Rep.bl _)⟩
    · cases q
  lk := (pe_not ha.ev).wk fun σ H Q ⟨env, G, d, env', q, S, k⟩ => by
    obtain ⟨p, h1, h2⟩ := Option.map_eq_some_iff.mp q
    cases h2
    obtain ⟨p2, h1, q⟩ := Option.bind_eq_some_iff.mp h1
    obtain ⟨o, x, e0⟩ := p2
    refine use h1 S fun v1 H1 G1 g1 S1 r1 => ?_
    split at q
    · rename_i hx
      simp only at hx
      subst hx
      cases r1
      cases q
      exact ⟨_, rfl, k _ H1 G1 g1 S1 (.inr (Rep.bl _))⟩
    · cases q
  t := (pt_not ha.t).wk fun σ H Q ⟨env, G, r, env', q, S, k⟩ => by
    obtain ⟨p, h1, h2⟩ := Option.map_eq_some_iff.mp q
    cases h2
    exact useT (r := p.1) (env' := p.2) h1 S fun H1 G1 g1 S1 => k H1 G1 g1 S1
  ar := (pe_not ha.ev).wk fun σ H Q ⟨env, G, a', env', q, S, k⟩ => by
    obtain ⟨p, h1, h2⟩ := Option.map_eq_some_iff.mp q
    cases h2
    obtain ⟨p2, h1, q⟩ := Option.bind_eq_some_iff.mp h1
    obtain ⟨o, x, e0⟩ := p2
    refine use h1 S fun v1 H1 G1 g1 S1 r1 => ?_
    split at q
    · rename_i hx
      simp only at hx
      subst hx
      cases r1
      cases q
      exact ⟨_, rfl, k _ H1 G1 g1 S1 (Rep.bl _)⟩
    · cases q
  ns := fun _ _ => rfl
  ix := fun _ _ => rfl
theorem je_ite {c a d : IE} (hc : JE X b e1 (sem Φ gv c)) (ha : JE X b e2 (sem Φ gv a)) (hd : JE X b e3 (sem Φ gv d)) : JE X b (.IfExp e1 e2 e3 pos) (sem Φ gv (.ite c a d)) := by
  have pe := pe_ifExp (pos := pos) hc.t ha.ev hd.ev
  have ev : PE X (.IfExp e1 e2 e3 pos) (tEv b (sem Φ gv (.ite c a d)).ev) := pe.wk fun σ H Q ⟨env, G, own, x, env', q, S, k⟩ => by
    obtain ⟨p, h1, q⟩ := Option.bind_eq_some_iff.mp q
    obtain ⟨t, e0⟩ := p
    refine useT h1 S fun H1 G1 g1 S1 => ?_
    cases t with
    | true =>
      rw [if_pos rfl] at q ⊢
      exact ⟨_, G1, own, x, env', q, S1, k.step g1⟩
    | false =>
      rw [if_neg Bool.false_ne_true] at q ⊢
      exact ⟨_, G1, own, x, env', q, S1, k.step g1⟩
  refine ⟨ev, ev.wk fun σ H Q ⟨env, G, x, env', q, S, k⟩ => ?_, ⟨fun pins s σ H Q I ⟨env, G, r, env', q, S, k⟩ => nomatch q⟩, ev.wk fun σ H Q ⟨env, G, x, env', q, S, k⟩ => ?_, fun _ _ => rfl, fun _ _ => rfl⟩
  · obtain ⟨p, h1, h2⟩ := Option.map_eq_some_iff.mp q
    cases h2
    exact use (own := p.1) (d := p.2.1) (env' := p.2.2) h1 S fun v H1 G1 g1 S1 r => k v H1 G1 g1 S1 (.inr r)
  · obtain ⟨p, h1, h2⟩ := Option.map_eq_some_iff.mp q
    cases h2
    exact use (own := p.1) (d := p.2.1) (env' := p.2.2) h1 S fun v H1 G1 g1 S1 r => k v H1 G1 g1 S1 r
end
end PD
namespace PD
open PySem L2
section
variable {X : Cx} {b : Bs} {e e1 e2 e3 : Expr} {pos : Pos} {Φ : Phi} {gv : Nat → D}
/-! ### several -/
structure JEs (X : Cx) (b : Bs) (es : List Expr) (m : Sms) : Prop where
  ev : PA X es (tEvs b m.ev)
  ar : PA X es (tArs b m.ar)
  len : ∀ env ds env', m.ev env = some (ds, env') → ds.length = es.length
  pl : ∀ env (p : Pos), (backTo p (starEach es env)).any (·.1) = false ∧ (starEach es env).length = es.length
theorem jes_nil : JEs X b [] (sems Φ gv .nil) where
  ev := pa_nil.wk fun σ H Q ⟨env, G, ds, env', q, S, k⟩ => by
    cases q
    exact k [] H G (Same.refl G) S .nil
  ar := pa_nil.wk fun σ H Q ⟨env, G, ds, env', q, S, k⟩ => by
    cases q
    exact k [] H G (Same.refl G) S .nil
  len := fun env ds env' q => by cases q; rfl
  pl := fun _ _ => ⟨rfl, rfl⟩
theorem jes_cons {es : List Expr} {a : IE} {c : IEs} (ha : JE X b e (sem Φ gv a)) (hb : JEs X b es (sems Φ gv c)) : JEs X b (e :: es) (sems Φ gv (.cons a c)) where
  ev := (pa_cons ha.ev hb.ev (ha.ns _ _)).wk fun σ H Q ⟨env, G, ds, env', q, S, k⟩ => by
    obtain ⟨p, h1, q⟩ := Option.bind_eq_some_iff.mp q
    obtain ⟨o, x, e0⟩ := p
    obtain ⟨p2, h2, q⟩ := Option.map_eq_some_iff.mp q
    cases q
    refine use h1 S fun v1 H1 G1 g1 S1 r1 => ?_
    exact ⟨_, G1, _, _, h2, S1, fun vs H2 G2 g2 S2 r2 => k _ H2 G2 (g1.trans g2) S2 (.cons (r1.mono g2) r2)⟩
  ar := (pa_cons ha.ar hb.ar (ha.ns _ _)).wk fun σ H Q ⟨env, G, ds, env', q, S, k⟩ => by
    obtain ⟨p, h1, q⟩ := Option.bind_eq_some_iff.mp q
    obtain ⟨x, e0⟩ := p
    obtain ⟨p2, h2, q⟩ := Option.map_eq_some_iff.mp q
    cases q
    refine ⟨_, G, _, _, h1, S, fun v1 H1 G1 g1 S1 r1 => ?_⟩
    refine ⟨_, G1, _, _, h2, S1, fun vs H2 G2 g2 S2 r2 => k _ H2 G2 (g1.trans g2) S2 (.cons ?_ r2)⟩
    cases x with
    | v d => exact Rep.mono g2 r1
    | s i => exact r1
  len := fun env ds env' q => by
    obtain ⟨p, h1, q⟩ := Option.bind_eq_some_iff.mp q
    obtain ⟨p2, h2, q⟩ := Option.map_eq_some_iff.mp q
    cases q
    rw [List.length_cons, List.length_cons, hb.len _ _ _ h2]
  pl := fun env p => by
    rw [ha.ns]
    refine ⟨?_, by rw [List.length_cons, List.length_cons, (hb.pl env p).2]⟩
    show (false || (backTo p (starEach es env)).any (·.1)) = false
    rw [(hb.pl env p).1]
    rfl
theorem jt_nil : PTs X [] (tTt b (sems Φ gv .nil).t) := ⟨fun pins s σ H Q I ⟨env, G, r, env', q, S, k⟩ => pts_nil.run pins s σ H Q I (by cases q; exact k H G (Same.refl G) S)⟩
theorem jt_one {a : IE} (ha : JE X b e (sem Φ gv a)) : PTs X [e] (tTt b (sems Φ gv (.cons a .nil)).t) := by
  refine ⟨fun pins s σ H Q I ⟨env, G, r, env', q, S, k⟩ => (pts_one ha.t).run pins s σ H Q I ?_⟩
  obtain ⟨p, h1, q⟩ := Option.bind_eq_some_iff.mp q
  obtain ⟨x, e0⟩ := p
  refine useT h1 S fun H1 G1 g1 S1 => ?_
  cases x with
  | false =>
    rw [if_neg Bool.false_ne_true] at q
    cases q
    exact k H1 G1 g1 S1
  | true =>
    rw [if_pos rfl] at q
    cases q
    exact k H1 G1 g1 S1
theorem je_tup {es : List Expr} {k : Nat} {c : IEs} (hK : X.K = b.cs.K) (hn : es.length ≤ 1000) (h : JEs X b es (sems Φ gv c)) : JE X b (.Tuple es k pos) (sem Φ gv (.tup c)) := by
  refine JE.of hK ((pe_tup h.ev).wk fun σ H Q ⟨env, G, own, d, env', q, S, k⟩ => ?_) bare_tup
  obtain ⟨p, h1, q⟩ := Option.map_eq_some_iff.mp q
  cases q
  refine ⟨_, G, p.1, p.2, h1, S, fun vs H1 G1 g1 S1 r1 => ⟨?_, fun a ha => (k.step g1).tupN S1 r1 ha⟩⟩
  rw [r1.length, h.len _ _ _ h1, sizeLine_eq]
  omega
theorem je_lst {es : List Expr} {c : IEs} (hK : X.K = b.cs.K) (hn : es.length ≤ 1000) (h : JEs X b es (sems Φ gv c)) : JE X b (.List es pos) (sem Φ gv (.lst c)) := by
  refine JE.of hK ((pe_lst h.ev).wk fun σ H Q ⟨env, G, own, d, env', q, S, k⟩ => ?_) bare_lst
  obtain ⟨p, h1, q⟩ := Option.map_eq_some_iff.mp q
  cases q
  refine ⟨_, G, p.1, p.2, h1, S, fun vs H1 G1 g1 S1 r1 => ⟨?_, fun a ha => (k.step g1).lstN S1 r1 ha⟩⟩
  rw [r1.length, h.len _ _ _ h1, sizeLine_eq]
  omega
theorem je_dnew (hK : X.K = b.cs.K) : JE X b (.Dict [] [] pos) (sem Φ gv .dnew) := by
  refine JE.of hK (pe_dnewK.wk fun σ H Q ⟨env, G, own, d, env', q, S, k⟩ => ?_) bare_dict
  cases q
  intro p hp
  obtain ⟨S', h1, h2, h3⟩ := S.made (o := .dK []) hp
  exact k _ _ _ (Same.refl G) S' ⟨p, rfl, h1, h2, ⟨[], upd_same, .nil, .nil⟩, h3⟩
/-! ### places and slices -/
theorem je_idx {a c : IE} (hK : X.K = b.cs.K) (ha : JE X b e1 (sem Φ gv a)) (hb : JE X b e2 (sem Φ gv c)) : JE X b (.Subscript e1 e2 pos) (sem Φ gv (.idx a c)) := by
  refine JE.of hK ((pe_ix ix_idx ha.ev hb.ev hb.ix).wk fun σ H Q ⟨env, G, own, d, env', q, S, k⟩ => ?_) bare_sub
  obtain ⟨p, h1, q⟩ := Option.bind_eq_some_iff.mp q
  obtain ⟨p2, h2, q⟩ := Option.bind_eq_some_iff.mp q
  obtain ⟨d', h3, h4⟩ := Option.map_eq_some_iff.mp q
  cases h4
  refine use (own := p.1) (d := p.2.1) (env' := p.2.2) h1 S fun v1 H1 G1 g1 S1 r1 => ?_
  refine use (own := p2.1) (d := p2.2.1) (env' := p2.2.2) h2 S1 fun v2 H2 G2 g2 S2 r2 => ?_
  rw [hK]
  exact idx_ok h3 S2 (.inr (r1.mono g2)) r2 (k.step (g1.trans g2))
theorem je_idxV {i : Nat} {c : IE} (hK : X.K = b.cs.K) (ha : PE X e1 (tVar i)) (hb : JE X b e2 (sem Φ gv c)) : JE X b (.Subscript e1 e2 pos) (sem Φ gv (.idxV i c)) := by
  refine JE.of hK ((pe_ix ix_idx ha hb.ev hb.ix).wk fun σ H Q ⟨env, G, own, d, env', q, S, k⟩ => ?_) bare_sub
  obtain ⟨z, h0, q⟩ := Option.bind_eq_some_iff.mp q
  obtain ⟨p, h1, q⟩ := Option.bind_eq_some_iff.mp q
  obtain ⟨o, x, e0⟩ := p
  obtain ⟨y, h2, q⟩ := Option.bind_eq_some_iff.mp q
  obtain ⟨d', h3, h4⟩ := Option.map_eq_some_iff.mp q
  cases h4
  obtain ⟨v, hv, _⟩ := S.look h0
  refine ⟨v, hv, ?_⟩
  refine use h1 S fun v1 H1 G1 g1 S1 r1 => ?_
  obtain ⟨v', hv', rv⟩ := S1.look h2
  rw [hv] at hv'
  cases hv'
  rw [hK]
  exact idx_ok h3 S1 rv r1 (k.step g1)
theorem je_slL {a c : IE} {p2 : Pos} (hK : X.K = b.cs.K) (ha : JE X b e1 (sem Φ gv a)) (hb : JE X b e2 (sem Φ gv c)) : JE X b (.Subscript e1 (.Slice (some e2) none none p2) pos) (sem Φ gv (.slL a c)) := by
  refine JE.of hK ((pe_slice sl_sli ha.ev (po_some hb.ev) po_none).wk fun σ H Q ⟨env, G, own, d, env', q, S, k⟩ => ?_) bare_sub
  obtain ⟨p, h1, q⟩ := Option.bind_eq_some_iff.mp q
  obtain ⟨p2, h2, q⟩ := Option.bind_eq_some_iff.mp q
  obtain ⟨o, x, e0⟩ := p2
  refine use (own := p.1) (d := p.2.1) (env' := p.2.2) h1 S fun v1 H1 G1 g1 S1 r1 => ?_
  refine use h2 S1 fun v2 H2 G2 g2 S2 r2 => ?_
  split at q
  · rename_i hx
    simp only at hx
    subst hx
    cases r2
    obtain ⟨d', h3, h4⟩ := Option.map_eq_some_iff.mp q
    cases h4
    refine ⟨_, rfl, ?_⟩
    rw [hK]
    exact sl_ok h3 S2 (r1.mono g2) (k.step (g1.trans g2))
  · cases q
theorem je_slU {a c : IE} {p2 : Pos} (hK : X.K = b.cs.K) (ha : JE X b e1 (sem Φ gv a)) (hb : JE X b e2 (sem Φ gv c)) : JE X b (.Subscript e1 (.Slice none (some e2) none p2) pos) (sem Φ gv (.slU a c)) := by
  refine JE.of hK ((pe_slice sl_sli ha.ev po_none (po_some hb.ev)).wk fun σ H Q ⟨env, G, own, d, env', q, S, k⟩ => ?_) bare_sub
  obtain ⟨p, h1, q⟩ := Option.bind_eq_some_iff.mp q
  obtain ⟨p2, h2, q⟩ := Option.bind_eq_some_iff.mp q
  obtain ⟨o, x, e0⟩ := p2
  refine use (own := p.1) (d := p.2.1) (env' := p.2.2) h1 S fun v1 H1 G1 g1 S1 r1 => ?_
  refine use h2 S1 fun v2 H2 G2 g2 S2 r2 => ?_
  split at q
  · rename_i hx
    simp only at hx
    subst hx
    cases r2
    obtain ⟨d', h3, h4⟩ := Option.map_eq_some_iff.mp q
    cases h4
    refine ⟨_, rfl, ?_⟩
    rw [hK]
    exact sl_ok h3 S2 (r1.mono g2) (k.step (g1.trans g2))
  · cases q
theorem je_slB {a c t : IE} {p2 : Pos} (hK : X.K = b.cs.K) (ha : JE X b e1 (sem Φ gv a)) (hb : JE X b e2 (sem Φ gv c)) (hc : JE X b e3 (sem Φ gv t)) : JE X b (.Subscript e1 (.Slice (some e2) (some e3) none p2) pos) (sem Φ gv (.slB a c t)) := by
  refine JE.of hK ((pe_slice sl_sli ha.ev (po_some hb.ev) (po_some hc.ev)).wk fun σ H Q ⟨env, G, own, d, env', q, S, k⟩ => ?_) bare_sub
  obtain ⟨p, h1, q⟩ := Option.bind_eq_some_iff.mp q
  obtain ⟨p2, h2, q⟩ := Option.bind_eq_some_iff.mp q
  obtain ⟨p3, h3, q⟩ := Option.bind_eq_some_iff.mp q
  obtain ⟨o, x, e0⟩ := p2
  obtain ⟨o', x', e0'⟩ := p3
  refine use (own := p.1) (d := p.2.1) (env' := p.2.2) h1 S fun v1 H1 G1 g1 S1 r1 => ?_
  refine use h2 S1 fun v2 H2 G2 g2 S2 r2 => ?_
  split at q
  · rename_i hx hx'
    simp only at hx hx'
    subst hx hx'
    cases r2
    refine ⟨_, rfl, use h3 S2 fun v3 H3 G3 g3 S3 r3 => ?_⟩
    cases r3
    obtain ⟨d', h4, h5⟩ := Option.map_eq_some_iff.mp q
    cases h5
    refine ⟨_, rfl, ?_⟩
    rw [hK]
    exact sl_ok h4 S3 ((r1.mono g2).mono g3) (k.step ((g1.trans g2).trans g3))
  · cases q
/-! ### built-ins -/
theorem bi_blt : ∀ i : BI, bootBuiltins (biName i) = some (biVal i) := fun i => by cases i <;> decide +kernel
theorem bi_mem : ∀ i : BI, biName i ∈ bltNames := fun i => by cases i <;> decide +kernel
theorem bi_name : ∀ i : BI, biName i ≠ "__name__" ∧ (biName i == ("__debug__" : Str)) = false := fun i => by cases i <;> decide +kernel
theorem pe_bi {i : BI} {p : Pos} {t : TE} (hr : CallR X (biVal i) (rBi X.K i)) (hg : Gl X (biName i)) (hm : X.mg (biName i) = none) (ha : PE X e t) (hn : ∀ es env, starEach (e :: es) env = (false, eval e env) :: starEach es env) :
    PE X (.Call (.Name (biName i) p) [e] [] pos) (tCB (rBi X.K i) (tCons t tNil)) := by
  have hb := bi_blt i
  obtain ⟨n1, n2⟩ := bi_name i
  have pa := pa_cons ha pa_nil (hn _ _)
  cases i <;> first
    | exact pe_callB hr hg hm hb pa n1 n2 (hn _ _) rfl
    | exact pe_callTy hr hg hm hb pa n1 n2 (hn _ _) rfl
theorem je_bi {i : BI} {p : Pos} {a : IE} (hK : X.K = b.cs.K) (ok : WOk b.cs.W) (hr : CallR X (biVal i) (rBi X.K i)) (hg : Gl X (biName i)) (hm : X.mg (biName i) = none) (ha : JE X b e (sem Φ gv a)) :
    JE X b (.Call (.Name (biName i) p) [e] [] pos) (sem Φ gv (.bi i a)) := by
  refine JE.of hK ((pe_bi hr hg hm ha.lk ha.ns).wk fun σ H Q ⟨env, G, own, d, env', q, S, k⟩ => ?_) bare_call
  obtain ⟨p, h1, q⟩ := Option.bind_eq_some_iff.mp q
  obtain ⟨d', h3, h4⟩ := Option.map_eq_some_iff.mp q
  obtain ⟨o, x⟩ := d'
  cases h4
  refine useL (d := p.1) (env' := p.2) h1 S fun v1 H1 G1 g1 S1 r1 => ?_
  rw [hK]
  exact bi_ok ok h3 S1 r1 (k.step g1)
def b2Name : B2 → Str
  | .max => "max"
  | .min => "min"
def rB2 : B2 → List V → Hp → VK → Prop
  | .max => fun xs H Q => ∃ i j, xs = [.int i, .int j] ∧ Q (.int (if j > i then j else i)) H
  | .min => fun xs H Q => ∃ i j, xs = [.int i, .int j] ∧ Q (.int (if j < i then j else i)) H
theorem je_b2 {i : B2} {p : Pos} {a c : IE} (hK : X.K = b.cs.K) (hc : X.calm = true) (hg : Gl X (b2Name i)) (hm : X.mg (b2Name i) = none) (ha : JE X b e1 (sem Φ gv a)) (hb : JE X b e2 (sem Φ gv c)) :
    JE X b (.Call (.Name (b2Name i) p) [e1, e2] [] pos) (sem Φ gv (.b2 i a c)) := by
  have pl : (backTo pos (starEach [e2] X.env)).any (·.1) = false := by
    rw [hb.ns]
    rfl
  have pe : PE X (.Call (.Name (b2Name i) p) [e1, e2] [] pos) (tCB (rB2 i) (tCons (tEv b (sem Φ gv a).ev) (tCons (tEv b (sem Φ gv c).ev) tNil))) := by
    have pa := pa_cons ha.ev (pa_cons hb.ev pa_nil (hb.ns _ _)) (ha.ns _ _)
    cases i with
    | max => exact pe_callB (call_max2 hc) hg hm (by decide +kernel) pa (by decide +kernel) (by decide +kernel) (ha.ns _ _) pl
    | min => exact pe_callB (call_min2 hc) hg hm (by decide +kernel) pa (by decide +kernel) (by decide +kernel) (ha.ns _ _) pl
  refine JE.of hK (pe.wk fun σ H Q ⟨env, G, own, d, env', q, S, k⟩ => ?_) bare_call
  obtain ⟨⟨o1, x1, w1⟩, h1, q⟩ := Option.bind_eq_some_iff.mp q
  obtain ⟨⟨o2, x2, w2⟩, h2, q⟩ := Option.bind_eq_some_iff.mp q
  obtain ⟨d', h3, h4⟩ := Option.map_eq_some_iff.mp q
  cases h4
  refine use h1 S fun v1 H1 G1 g1 S1 r1 => ?_
  refine use h2 S1 fun v2 H2 G2 g2 S2 r2 => ?_
  have k' := k.step (g1.trans g2)
  simp only at h3
  unfold b2D at h3
  split at h3
  · cases h3
    cases r1
    cases r2
    exact ⟨_, _, rfl, k'.rep S2 (.int _)⟩
  · cases h3
    cases r1
    cases r2
    exact ⟨_, _, rfl, k'.rep S2 (.int _)⟩
  · cases h3
def tyName : TY → Str
  | .tup => "tuple"
  | .str => "str"
  | .int => "int"
  | .bool => "bool"
  | .lst => "list"
def tyStr : TY → String
  | .tup => "tuple"
  | .str => "str"
  | .int => "int"
  | .bool => "bool"
  | .lst => "list"
theorem Rep.tyx {H : Hp} {v : V} {d : D} (r : Rep b.cs H v d) : ∀ t, isiD t d = some own → ∃ u : String, TyX b.cs.K H v (.type u) ∧ kitB u (tyStr t) = some own := by
  intro t h
  cases r with
  | non => exact ⟨"NoneType", .base (.non), by cases t <;> (simp only [isiD] at h; first | (cases h; decide +kernel) | cases h)⟩
  | bl x => exact ⟨"bool", .base (.bl x), by cases t <;> (simp only [isiD] at h; first | (cases h; decide +kernel) | cases h)⟩
  | int x => exact ⟨"int", .base (.int x), by cases t <;> (simp only [isiD] at h; first | (cases h; decide +kernel) | cases h)⟩
  | w hw => exact ⟨"str", .base (.str _), by cases t <;> (simp only [isiD] at h; first | (cases h; decide +kernel) | cases h)⟩
  | rp _ => cases t <;> (simp only [isiD] at h; cases h)
  | scr _ => cases t <;> (simp only [isiD] at h; cases h)
  | tup e r =>
    refine ⟨"tuple", ?_, by cases t <;> (simp only [isiD] at h; first | (cases h; decide +kernel) | cases h)⟩
    rcases e with (e | ⟨o, e⟩) | ⟨o, its, n, e, c, _⟩
    · exact .base (.tup e)
    · exact .fTuple e
    · exact .kTuple e c
  | lst e r => exact ⟨"list", .base (.lst e), by cases t <;> (simp only [isiD] at h; first | (cases h; decide +kernel) | cases h)⟩
  | dic _ _ _ => cases t <;> (simp only [isiD] at h; cases h)
theorem je_isi {t : TY} {p p' : Pos} {a : IE} (hK : X.K = b.cs.K) (hg : Gl X "isinstance") (hm : X.mg "isinstance" = none) (hg2 : Gl X (tyName t)) (hm2 : X.mg (tyName t) = none) (ha : JE X b e (sem Φ gv a)) :
    JE X b (.Call (.Name "isinstance" p) [e, .Name (tyName t) p'] [] pos) (sem Φ gv (.isi t a)) := by
  have pn : PE X (.Name (tyName t) p') (tC (.ty (tyStr t))) := by
    cases t <;> exact pe_bltn (u := .type _) hg2 hm2 (by decide +kernel) rfl (by decide +kernel) (by decide +kernel)
  have pe : PE X (.Call (.Name "isinstance" p) [e, .Name (tyName t) p'] [] pos) (tCB (rIsi X.K) (tCons (tEv b (sem Φ gv a).ev) (tCons (tC (.ty (tyStr t))) tNil))) :=
    pe_callB call_isi hg hm (by decide +kernel) (pa_cons ha.ev (pa_cons pn pa_nil) (ha.ns _ _)) (by decide +kernel) (by decide +kernel) (ha.ns _ _) rfl
  refine JE.of hK (pe.wk fun σ H Q ⟨env, G, own, d, env', q, S, k⟩ => ?_) bare_call
  obtain ⟨p, h1, q⟩ := Option.bind_eq_some_iff.mp q
  obtain ⟨d', h3, h4⟩ := Option.map_eq_some_iff.mp q
  cases h4
  refine use (own := p.1) (d := p.2.1) (env' := p.2.2) h1 S fun v1 H1 G1 g1 S1 r1 => ?_
  obtain ⟨u, tx, kb⟩ := (r1.mono S1.ex).tyx t h3
  exact ⟨_, _, .type u, .type (tyStr t), d', rfl, .ty _, by rw [hK]; exact tx, kit_ty kb, (k.step g1).rep S1 (.bl _)⟩
end
end PD
namespace PD
open PySem L2
section
variable {X : Cx} {b : Bs} {e e1 e2 e3 : Expr} {pos : Pos} {Φ : Phi} {gv : Nat → D}
theorem upto_rg (a n : Int) : rgV a n = (upto a (n - a).toNat).map V.int := by
  unfold rgV
  generalize (n - a).toNat = k
  clear n
  induction k generalizing a with
  | zero => rfl
  | succ k ih =>
    unfold upto
    rw [List.range_succ_eq_map, List.map_cons, List.map_cons, List.map_map, ← ih (a + 1)]
    refine congr (congrArg _ (by simp)) (List.map_congr_left fun j _ => ?_)
    show V.int (a + ((j + 1 : Nat) : Int)) = V.int (a + 1 + (j : Nat))
    congr 1
    omega
theorem je_tupR {a : IE} {p p1 p2 : Pos} (hK : X.K = b.cs.K) (hc : X.calm = true) (hg : Gl X "tuple") (hm : X.mg "tuple" = none) (hg2 : Gl X "range") (hm2 : X.mg "range" = none) (ha : JE X b e (sem Φ gv a)) :
    JE X b (.Call (.Name "tuple" p) [.Call (.Name "range" p1) [e] [] p2] [] pos) (sem Φ gv (.tupR a)) := by
  refine JE.of hK ((pe_tupRg hc hg hm (prg_1 hg2 hm2 ha.ev (ha.ns _ _))).wk fun σ H Q ⟨env, G, own, d, env', q, S, k⟩ => ?_) bare_call
  obtain ⟨⟨o, x, w⟩, h1, q⟩ := Option.bind_eq_some_iff.mp q
  refine use h1 S fun v1 H1 G1 g1 S1 r1 => ?_
  simp only at q
  split at q
  · cases r1
    split at q
    · rename_i n hn
      cases q
      refine ⟨_, rfl, ⟨by omega, by omega, by omega, by omega, by omega⟩, fun p hp => ?_⟩
      rw [upto_rg]
      have : (n - 0).toNat = n.toNat := by omega
      rw [this]
      exact (k.step g1).tupN S1 (Reps.ofInts _) hp
    · cases q
  · cases q
theorem je_lstR {a : IE} {p p1 p2 : Pos} (hK : X.K = b.cs.K) (hc : X.calm = true) (hg : Gl X "list") (hm : X.mg "list" = none) (hg2 : Gl X "range") (hm2 : X.mg "range" = none) (ha : JE X b e (sem Φ gv a)) :
    JE X b (.Call (.Name "list" p) [.Call (.Name "range" p1) [e] [] p2] [] pos) (sem Φ gv (.lstR a)) := by
  refine JE.of hK ((pe_listRg hc hg hm (prg_1 hg2 hm2 ha.ev (ha.ns _ _))).wk fun σ H Q ⟨env, G, own, d, env', q, S, k⟩ => ?_) bare_call
  obtain ⟨⟨o, x, w⟩, h1, q⟩ := Option.bind_eq_some_iff.mp q
  refine use h1 S fun v1 H1 G1 g1 S1 r1 => ?_
  simp only at q
  split at q
  · cases r1
    split at q
    · rename_i n hn
      cases q
      refine ⟨_, rfl, ⟨by omega, by omega, by omega, by omega, by omega⟩, fun p hp => ?_⟩
      rw [upto_rg]
      have : (n - 0).toNat = n.toNat := by omega
      rw [this]
      exact (k.step g1).lstN S1 (Reps.ofInts _) hp
    · cases q
  · cases q

/-! ### what changes an object -/
theorem ownC_some {env : Env} {i : Nat} {f : Fl} {d : D} (h : ownC env i = some (f, d)) : env[i]? = some (some (f, d)) ∧ isOwn f = true := by
  unfold ownC at h
  split at h
  · rename_i hc
    cases h
    exact ⟨getC_some hc, rfl⟩
  · rename_i hc
    cases h
    exact ⟨getC_some hc, rfl⟩
  · cases h
theorem Sat.own {σ : L2.St} {H G : Hp} {env : Env} (S : Sat b σ H G env) {i : Nat} {f : Fl} {d : D} (h : ownC env i = some (f, d)) :
    ∃ a, σ[i]? = some (some (V.ref a)) ∧ OwnAt b.cs H G a d ∧ ∀ o d', OwnAt b.cs (upd H a o) G a d' → Sat b σ (upd H a o) G (env.set i (some (f, d'))) := by
  obtain ⟨he, hf⟩ := ownC_some h
  obtain ⟨v, hv, k⟩ := S.slot i f d he
  obtain ⟨a, ea, ga, ow, _⟩ := k.isRef hf
  subst ea
  exact ⟨a, hv, ow, fun o d' ow' => S.write he hf hv ow'⟩
theorem lst_ty {σ : L2.St} {H G : Hp} {env : Env} (S : Sat b σ H G env) {i : Nat} {z : D} (h : ((lookV env i).bind fun z => if isL z then some z else none) = some z) : ∃ v, σ[i]? = some (some v) ∧ tyV b.cs.K "list" v H := by
  obtain ⟨y, h1, h2⟩ := Option.bind_eq_some_iff.mp h
  obtain ⟨v, hv, s⟩ := S.look h1
  refine ⟨v, hv, ?_⟩
  cases y <;> first
    | (rw [if_neg (by exact Bool.false_ne_true)] at h2; cases h2)
    | skip
  obtain ⟨a, vs, rfl, e, _⟩ := s.lst S
  exact .inl ⟨rfl, _, .of e⟩
theorem meth_few {c : Pos} (hn : ∀ es env, starEach (e :: es) env = (false, eval e env) :: starEach es env) :
    ((backTo c (starEach [e] X.env)).all (fun x => !x.1) && (backToKw c (keywordEach [] X.env)).all (fun x => x.1.isSome)
      && decide (([e] : List Expr).length + ([] : List Keyword).length + (if ([] : List Keyword).isEmpty then 0 else 1) < 30)) = true := by
  rw [hn]
  rfl
theorem je_app {i : Nat} {a : IE} {x : Str} {p ap : Pos} (hK : X.K = b.cs.K) (hl : (ap.endLine == pos.line) = true) (hv : PE X (.Name x p) (tVar i)) (ha : JE X b e (sem Φ gv a)) :
    JE X b (.Call (.Attribute (.Name x p) "append" ap) [e] [] pos) (sem Φ gv (.app i a)) := by
  refine JE.of hK ((pe_bm PySem.F.plainAttrs_list PySem.F.slot_list_append PySem.F.type_list_append mt_append hv (pa_cons ha.ev pa_nil (ha.ns _ _)) rfl (meth_few ha.ns) hl (ha.ns _ _) rfl).wk fun σ H Q ⟨env, G, own, d, env', q, S, k⟩ => ?_) bare_call
  obtain ⟨z, h0, q⟩ := Option.bind_eq_some_iff.mp q
  obtain ⟨⟨o, y, w⟩, h1, q⟩ := Option.bind_eq_some_iff.mp q
  obtain ⟨v, hv, ty⟩ := lst_ty S h0
  refine ⟨v, hv, by rw [hK]; exact ty, use h1 S fun v1 H1 G1 g1 S1 r1 => ?_⟩
  simp only at q
  split at q
  · rename_i f xs ho
    split at q
    · rename_i hn
      cases q
      obtain ⟨l, hl, ⟨vs, e, r⟩, wr⟩ := S1.own ho
      rw [hv] at hl
      cases hl
      refine ⟨l, vs, v1, rfl, rfl, e, by rw [r.length]; exact lt_line hn, ?_⟩
      exact (k.step g1).rep (wr _ _ ⟨_, upd_same, r.app (.cons r1 .nil)⟩) .non
    · cases q
  · cases q
theorem je_ext {i : Nat} {a : IE} {x : Str} {p ap : Pos} (hK : X.K = b.cs.K) (hl : (ap.endLine == pos.line) = true) (hv : PE X (.Name x p) (tVar i)) (ha : JE X b e (sem Φ gv a)) :
    JE X b (.Call (.Attribute (.Name x p) "extend" ap) [e] [] pos) (sem Φ gv (.ext i a)) := by
  refine JE.of hK ((pe_bm PySem.F.plainAttrs_list PySem.F.slot_list_extend PySem.F.type_list_extend mt_extend hv (pa_cons ha.ev pa_nil (ha.ns _ _)) rfl (meth_few ha.ns) hl (ha.ns _ _) rfl).wk fun σ H Q ⟨env, G, own, d, env', q, S, k⟩ => ?_) bare_call
  obtain ⟨z, h0, q⟩ := Option.bind_eq_some_iff.mp q
  obtain ⟨⟨o, y, w⟩, h1, q⟩ := Option.bind_eq_some_iff.mp q
  obtain ⟨v, hv, ty⟩ := lst_ty S h0
  refine ⟨v, hv, by rw [hK]; exact ty, use h1 S fun v1 H1 G1 g1 S1 r1 => ?_⟩
  simp only at q
  split at q
  · rename_i f xs ys ho
    split at q
    · rename_i hn
      cases q
      obtain ⟨l, hl, ⟨vs, e, r⟩, wr⟩ := S1.own ho
      rw [hv] at hl
      cases hl
      cases r1 with
      | lst e2 r2 =>
        refine ⟨l, _, vs, _, rfl, rfl, e, S1.ex _ _ e2, by rw [r.length, r2.length]; exact le_line hn, ?_⟩
        exact (k.step g1).rep (wr _ _ ⟨_, upd_same, r.app r2⟩) .non
    · cases q
  · cases q
theorem je_popAt {i : Nat} {a : IE} {x : Str} {p ap : Pos} (hK : X.K = b.cs.K) (hl : (ap.endLine == pos.line) = true) (hv : PE X (.Name x p) (tVar i)) (ha : JE X b e (sem Φ gv a)) :
    JE X b (.Call (.Attribute (.Name x p) "pop" ap) [e] [] pos) (sem Φ gv (.popAt i a)) := by
  refine JE.of hK ((pe_bm PySem.F.plainAttrs_list PySem.F.slot_list_pop PySem.F.type_list_pop mt_popAt hv (pa_cons ha.ev pa_nil (ha.ns _ _)) rfl (meth_few ha.ns) hl (ha.ns _ _) rfl).wk fun σ H Q ⟨env, G, own, d, env', q, S, k⟩ => ?_) bare_call
  obtain ⟨z, h0, q⟩ := Option.bind_eq_some_iff.mp q
  obtain ⟨⟨o, y, w⟩, h1, q⟩ := Option.bind_eq_some_iff.mp q
  obtain ⟨v, hv, ty⟩ := lst_ty S h0
  refine ⟨v, hv, by rw [hK]; exact ty, use h1 S fun v1 H1 G1 g1 S1 r1 => ?_⟩
  simp only at q
  split at q
  · rename_i f xs n ho
    split at q
    · rename_i hn
      obtain ⟨x', h3, h4⟩ := Option.map_eq_some_iff.mp q
      cases h4
      obtain ⟨l, hl, ⟨vs, e, r⟩, wr⟩ := S1.own ho
      rw [hv] at hl
      cases hl
      cases r1
      obtain ⟨y', hy, ry⟩ := r.get h3
      have hlt : n.toNat < xs.length := (List.getElem?_eq_some_iff.mp h3).1
      refine ⟨l, vs, n, n.toNat, y', rfl, rfl, e, by omega, by omega, ?_, hy, ?_⟩
      · refine (ixN_seq ?_).1
        unfold ixN
        rw [r.length, if_pos (by omega), if_pos (by omega)]
      · exact (k.step g1).rep (wr _ _ ⟨_, upd_same, r.erase _⟩) ry
    · cases q
  · cases q
theorem je_pop {i : Nat} {x : Str} {p ap : Pos} (hK : X.K = b.cs.K) (hl : (ap.endLine == pos.line) = true) (hv : PE X (.Name x p) (tVar i)) :
    JE X b (.Call (.Attribute (.Name x p) "pop" ap) [] [] pos) (sem Φ gv (.pop i)) := by
  refine JE.of hK ((pe_bm0 PySem.F.plainAttrs_list PySem.F.slot_list_pop PySem.F.type_list_pop mt_pop hv rfl hl).wk fun σ H Q ⟨env, G, own, d, env', q, S, k⟩ => ?_) bare_call
  simp only [sem, Sm.of] at q
  split at q
  · rename_i f xs ho
    obtain ⟨x', h3, h4⟩ := Option.map_eq_some_iff.mp q
    cases h4
    obtain ⟨l, hl, ⟨vs, e, r⟩, wr⟩ := S.own ho
    rw [← r.length] at h3
    obtain ⟨y', hy, ry⟩ := r.get h3
    exact ⟨_, hl, .inl ⟨rfl, _, .of e⟩, l, vs, y', rfl, rfl, e, hy, k.rep (wr _ _ ⟨_, upd_same, r.dropLast⟩) ry⟩
  · cases q
theorem je_clear {i : Nat} {x : Str} {p ap : Pos} (hK : X.K = b.cs.K) (hl : (ap.endLine == pos.line) = true) (hv : PE X (.Name x p) (tVar i)) :
    JE X b (.Call (.Attribute (.Name x p) "clear" ap) [] [] pos) (sem Φ gv (.clear i)) := by
  refine JE.of hK ((pe_bm0 PySem.F.plainAttrs_list PySem.F.slot_list_clear PySem.F.type_list_clear mt_clear hv rfl hl).wk fun σ H Q ⟨env, G, own, d, env', q, S, k⟩ => ?_) bare_call
  simp only [sem, Sm.of] at q
  split at q
  · rename_i f xs ho
    cases q
    obtain ⟨l, hl, ⟨vs, e, r⟩, wr⟩ := S.own ho
    exact ⟨_, hl, .inl ⟨rfl, _, .of e⟩, l, vs, rfl, rfl, e, k.rep (wr _ _ ⟨_, upd_same, .nil⟩) .non⟩
  · cases q

/-! ### dicts -/
theorem key_inj (ok : WOk b.cs.W) {p q : DK} {k : Key} (h1 : b.cs.key p = some k) (h2 : b.cs.key q = some k) : p = q := by
  cases p with
  | i n =>
    cases h1
    cases q with
    | i m => cases h2; rfl
    | w m => obtain ⟨z, _, e⟩ := Option.map_eq_some_iff.mp h2; cases e
  | w n =>
    obtain ⟨z, hz, e⟩ := Option.map_eq_some_iff.mp h1
    subst e
    cases q with
    | i m => cases h2
    | w m =>
      obtain ⟨z', hz', e⟩ := Option.map_eq_some_iff.mp h2
      cases e
      rw [str_inj ok.nd hz hz']
theorem find_ok (ok : WOk b.cs.W) {G : Hp} {q : DK} {k : Key} (hq : b.cs.key q = some k) : ∀ {kvs : List (Key × V)} {ks : List DK} {ds : List D}, Keys b.cs kvs ks → Reps b.cs G (kvs.map (·.2)) ds →
    (∀ d, findD ks ds q = some d → ∃ v, valV kvs k = some v ∧ Rep b.cs G v d) ∧ (findD ks ds q).isSome = (valV kvs k).isSome
  | _, _, _, .nil, .nil => ⟨fun d h => (nomatch h), rfl⟩
  | _, _, _, .cons (k := k0) (v := v0) (kvs := kvs) (q := q0) h0 hr, .cons r0 rr => by
    have ih := find_ok ok hq hr rr
    by_cases e : q0 = q
    · subst e
      have ek : k0 = k := Option.some.inj (h0.symm.trans hq)
      subst ek
      rw [show findD (q0 :: _) (_ :: _) q0 = some _ from if_pos rfl, valV_pos rfl]
      exact ⟨fun d h => ⟨v0, rfl, by cases h; exact r0⟩, rfl⟩
    · have ne : ¬ k0 = k := fun ek => e (key_inj ok h0 (ek ▸ hq))
      rw [show findD (q0 :: _) (_ :: _) q = findD _ _ q from if_neg e, valV_neg (p := (k0, v0)) ne]
      exact ih
theorem key_rep {G : Hp} {v : V} {d : D} {q : DK} (h : keyD d = some q) (r : Rep b.cs G v d) : ∃ k, b.cs.key q = some k ∧ v = kV k := by
  unfold keyD at h
  split at h
  · cases h
    cases r
    exact ⟨.inl _, rfl, rfl⟩
  · cases h
    cases r with
    | w hw =>
      refine ⟨.inr _, ?_, rfl⟩
      show (b.cs.W[_]?).map Sum.inr = _
      rw [hw]
      rfl
  · cases h
theorem Seen.dic {σ : L2.St} {H G : Hp} {env : Env} {v : V} {ks : List DK} {ds : List D} (s : Seen b H G v (.dic ks ds)) (S : Sat b σ H G env) : ∃ a kvs, v = .ref a ∧ H a = some (.dK kvs) ∧ Keys b.cs kvs ks ∧ Reps b.cs G (kvs.map (·.2)) ds := by
  rcases s with ⟨a, rfl, kvs, e, k, r⟩ | r
  · exact ⟨a, kvs, rfl, e, k, r⟩
  · cases r with
    | dic e k r => exact ⟨_, _, rfl, S.ex _ _ e, k, r⟩
theorem je_dget {i : Nat} {a : IE} (hK : X.K = b.cs.K) (ok : WOk b.cs.W) (hu : X.A.units + 600 < cLine) (hv : PE X e1 (tVar i)) (ha : JE X b e2 (sem Φ gv a)) : JE X b (.Subscript e1 e2 pos) (sem Φ gv (.dget i a)) := by
  refine JE.of hK ((pe_dget (by omega) hv ha.ev ha.ix).wk fun σ H Q ⟨env, G, own, d, env', q, S, k⟩ => ?_) bare_sub
  obtain ⟨z, h0, q⟩ := Option.bind_eq_some_iff.mp q
  obtain ⟨⟨o, y, w⟩, h1, q⟩ := Option.bind_eq_some_iff.mp q
  obtain ⟨x, h2, q⟩ := Option.bind_eq_some_iff.mp q
  obtain ⟨d', h3, h4⟩ := Option.map_eq_some_iff.mp q
  cases h4
  obtain ⟨v, hv, _⟩ := S.look h0
  refine ⟨v, hv, use h1 S fun v1 H1 G1 g1 S1 r1 => ?_⟩
  obtain ⟨v', hv', rv⟩ := S1.look h2
  rw [hv] at hv'
  cases hv'
  unfold dgetD at h3
  split at h3
  · obtain ⟨kk, h5, h6⟩ := Option.bind_eq_some_iff.mp h3
    obtain ⟨p, kvs, rfl, e, hk, r⟩ := rv.dic S1
    obtain ⟨key, hq, rfl⟩ := key_rep h5 r1
    obtain ⟨u, hu, ru⟩ := (find_ok ok hq hk r).1 _ h6
    refine ⟨p, u, rfl, ?_, (k.step g1).rep S1 ru⟩
    rw [← hu]
    exact DGet.k e
  · cases h3
theorem je_eqE {i : Nat} {neg : Bool} {p2 : Pos} (hK : X.K = b.cs.K) (ok : WOk b.cs.W) (hu : X.A.units + 600 < cLine) (hv : PE X e1 (tVar i)) :
    JE X b (.Compare e1 [pCmp (if neg then .ne else .eq)] [.List [] p2] pos) (sem Φ gv (.eqE neg i)) := by
  have core : ∀ (σ : L2.St) (H : Hp) (env : Env) (G : Hp) (r : Bool) (env' : Env) (Q : VK), ((lookV env i).bind fun x => (cmpD (if neg then .ne else .eq) x (.lst [])).map fun r => (r, env)) = some (r, env') →
      Sat b σ H G env → (∀ H1 G1, Same G G1 → Sat b σ H1 G1 env' → Q (.bl r) H1) → tOp (rCmp X.K (if neg then .ne else .eq)) (tVar i) (tEv b (sem Φ gv (.lst .nil)).ev) σ H Q := by
    intro σ H env G r env' Q q S k
    obtain ⟨x, h2, q⟩ := Option.bind_eq_some_iff.mp q
    obtain ⟨d', h3, h4⟩ := Option.map_eq_some_iff.mp q
    cases h4
    obtain ⟨v, hv', rv⟩ := S.look h2
    refine ⟨v, hv', ?_⟩
    refine use (own := true) (d := .lst []) (env' := env) rfl S fun v2 H2 G2 g2 S2 r2 => ?_
    obtain ⟨v', hv2, rv2⟩ := S2.look h2
    rw [hv'] at hv2
    cases hv2
    rw [hK]
    exact cmp_ok ok h3 (rv2.now S2) (r2.mono S2.ex) (k H2 G2 g2 S2)
  have hl : JE X b (.List [] p2) (sem Φ gv (.lst .nil)) := je_lst (c := .nil) hK (by decide) jes_nil
  have hm : behindInMarks (pCmp (if neg then .ne else .eq)) (.List [] p2) = false := by cases neg <;> rfl
  have pe := pe_cmpR (pos := pos) (op_cmp hu (if neg then .ne else .eq)) hv hl.ev hm
  have pt := pt_cmpR (pos := pos) (op_cmp hu (if neg then .ne else .eq)) hv hl.ev hm
  refine JE.bool (core := fun env => (lookV env i).bind fun x => (cmpD (if neg then .ne else .eq) x (.lst [])).map fun r => (r, env)) pe pt (fun _ _ => rfl) (fun _ _ => rfl) (fun env => ?_) core
  cases lookV env i with
  | none => rfl
  | some x =>
    simp only [Option.bind_some, Option.map_map]
    rfl
theorem je_din {i : Nat} {a : IE} {neg : Bool} (hK : X.K = b.cs.K) (ok : WOk b.cs.W) (hu : X.A.units + 600 < cLine) (hm : behindInMarks (if neg then .NotIn else .In) e2 = false) (ha : JE X b e1 (sem Φ gv a)) (hv : PE X e2 (tVar i)) :
    JE X b (.Compare e1 [if neg then .NotIn else .In] [e2] pos) (sem Φ gv (.din neg a i)) := by
  have core : ∀ (σ : L2.St) (H : Hp) (env : Env) (G : Hp) (r : Bool) (env' : Env) (Q : VK), (((sem Φ gv a).ev env).bind fun q => (lookV q.2.2 i).bind fun x => (dinD x q.2.1).map fun b => (if neg then !b else b, q.2.2)) = some (r, env') →
      Sat b σ H G env → (∀ H1 G1, Same G G1 → Sat b σ H1 G1 env' → Q (.bl r) H1) → (if neg then tDNotIn (tEv b (sem Φ gv a).ev) (tVar i) else tDIn (tEv b (sem Φ gv a).ev) (tVar i)) σ H Q := by
    intro σ H env G r env' Q q S k
    obtain ⟨⟨o, y, w⟩, h1, q⟩ := Option.bind_eq_some_iff.mp q
    obtain ⟨x, h2, q⟩ := Option.bind_eq_some_iff.mp q
    obtain ⟨d', h3, h4⟩ := Option.map_eq_some_iff.mp q
    cases h4
    unfold dinD at h3
    split at h3
    · rename_i ks ds
      obtain ⟨kk, h5, h6⟩ := Option.map_eq_some_iff.mp h3
      subst h6
      have fin : ∀ (v1 : V) (H1 G1 : Hp), Same G G1 → Sat b σ H1 G1 w → Rep b.cs G1 v1 y → ∃ v, σ[i]? = some (some v) ∧ ∃ p o, v = .ref p ∧ DGet H1 p v1 o ∧ o.isSome = (findD ks ds kk).isSome := by
        intro v1 H1 G1 g1 S1 r1
        obtain ⟨v', hv', rv⟩ := S1.look h2
        obtain ⟨p, kvs, rfl, e, hk, r⟩ := rv.dic S1
        obtain ⟨key, hq, rfl⟩ := key_rep h5 r1
        exact ⟨_, hv', p, _, rfl, DGet.k e, ((find_ok ok hq hk r).2).symm⟩
      cases neg with
      | true =>
        refine use h1 S fun v1 H1 G1 g1 S1 r1 => ?_
        obtain ⟨v, hv, p, o', rfl, dg, es⟩ := fin v1 H1 G1 g1 S1 r1
        refine ⟨_, hv, p, o', rfl, dg, ?_⟩
        rw [es]
        exact k H1 G1 g1 S1
      | false =>
        refine use h1 S fun v1 H1 G1 g1 S1 r1 => ?_
        obtain ⟨v, hv, p, o', rfl, dg, es⟩ := fin v1 H1 G1 g1 S1 r1
        refine ⟨_, hv, p, o', rfl, dg, ?_⟩
        rw [es]
        exact k H1 G1 g1 S1
    · cases h3
  have pc : PC X (if neg then .NotIn else .In) e1 e2 (if neg then tDNotIn (tEv b (sem Φ gv a).ev) (tVar i) else tDIn (tEv b (sem Φ gv a).ev) (tVar i)) := by
    cases neg with
    | true => exact pc_dnotin (by omega) ha.ev hv
    | false => exact pc_din (by omega) ha.ev hv
  refine JE.bool (core := fun env => ((sem Φ gv a).ev env).bind fun q => (lookV q.2.2 i).bind fun x => (dinD x q.2.1).map fun b => (if neg then !b else b, q.2.2)) (pe_cmp pc hm) (pt_cmp pc hm) (fun _ _ => rfl) (fun _ _ => rfl) (fun env => ?_) core
  cases (sem Φ gv a).ev env with
  | none => rfl
  | some q =>
    simp only [Option.bind_some]
    cases lookV q.2.2 i with
    | none => rfl
    | some x =>
      simp only [Option.bind_some, Option.map_map]
      rfl
theorem je_gget {g : Nat} {a : IE} {pa : Addr} {ks : List DK} {ds : List D} (hK : X.K = b.cs.K) (hw : X.w = b.cs.w) (hd : gv g = .dic ks ds) (hv : PE X e1 (tC (.ref pa)))
    (hf : ∀ q d, findD ks ds q = some d → ∃ z v, b.cs.key q = some (.inr z) ∧ KDct b.cs.K b.cs.w pa z v ∧ ∀ G, Rep b.cs G v d) (ha : JE X b e2 (sem Φ gv a)) : JE X b (.Subscript e1 e2 pos) (sem Φ gv (.gget g a)) := by
  refine JE.of hK ((pe_ix ix_kdict hv ha.ev ha.ix).wk fun σ H Q ⟨env, G, own, d, env', q, S, k⟩ => ?_) bare_sub
  obtain ⟨⟨o, y, w⟩, h1, q⟩ := Option.bind_eq_some_iff.mp q
  obtain ⟨d', h3, h4⟩ := Option.map_eq_some_iff.mp q
  cases h4
  refine use h1 S fun v1 H1 G1 g1 S1 r1 => ?_
  rw [hd] at h3
  obtain ⟨kk, h5, h6⟩ := Option.bind_eq_some_iff.mp h3
  obtain ⟨z, u, hz, kd, ru⟩ := hf _ _ h6
  obtain ⟨key, hq, rfl⟩ := key_rep h5 r1
  rw [hz] at hq
  cases hq
  refine ⟨pa, z, u, rfl, rfl, ?_, (k.step g1).rep S1 (ru _)⟩
  rw [hK, hw]
  exact kd
/-- is a word a key of the written dict at pa -/
def GIn (K : PySem.W.Frag) (w : World) (pa : Addr) (z : Str) (r : Bool) : Prop := (r = true ∧ ∃ v, KDct K w pa z v) ∨ (r = false ∧ KMiss K w pa z)
def tGIn (K : PySem.W.Frag) (w : World) (pa : Addr) (ta : TE) : TE := fun σ H Q => ta σ H fun y H1 => ∃ z r, y = .str z ∧ GIn K w pa z r ∧ Q (.bl r) H1
theorem pc_gin {pa : Addr} {ta : TE} (low : (pa == sysModules) = false) (ha : PE X e1 ta) (hv : PE X e2 (tC (.ref pa))) : PC X .In e1 e2 (tGIn X.K X.w pa ta) := by
  refine ⟨fun pins s σ H Q I h => ?_⟩
  refine thn (ha.run pins s σ H _ I h) fun iv s1 ⟨y, H1, I1, ry, z, r, ey, gi, q1⟩ => ?_
  refine thn (hv.run pins s1 σ H1 (fun v H2 => v = .ref pa ∧ H2 = H1) I1 ⟨rfl, rfl⟩) fun u s2 ⟨x, H2, I2, rx, ex, eH⟩ => ?_
  subst ex ey eH
  obtain rfl : u = Value.ref pa := rx
  obtain ⟨t, rfl⟩ := (show ∃ t, iv = Value.str z t from ry)
  rcases gi with ⟨rfl, v, es, n, u0, hl, hk, e, ru⟩ | ⟨rfl, es, n, hl, hk, _, e⟩
  · have hm := PySem.W.mapOf_K (prog := X.prog) (w := X.w) I2.kIn hl hk
    refine wpAny_in_of (strKind_is X.prog X.w z t) low hm ?_
    rw [PySem.W.find_K hl e]
    exact ⟨.bl true, H2, I2.tok _, rfl, q1⟩
  · have hm := PySem.W.mapOf_K (prog := X.prog) (w := X.w) I2.kIn hl hk
    refine wpAny_in_of (strKind_is X.prog X.w z t) low hm ?_
    rw [PySem.W.find_K hl e]
    exact ⟨.bl false, H2, I2.tok _, rfl, q1⟩
theorem je_dinG {g : Nat} {a : IE} {ms : List Nat} {pa : Addr} {ks : List DK} {ds : List D} (hK : X.K = b.cs.K) (hw : X.w = b.cs.w) (hd : gv g = .dic ks ds) (low : (pa == sysModules) = false) (hv : PE X e2 (tC (.ref pa)))
    (hf : ∀ q d, findD ks ds q = some d → ∃ z v, b.cs.key q = some (.inr z) ∧ KDct b.cs.K b.cs.w pa z v ∧ ∀ G, Rep b.cs G v d) (hms : ∀ k ∈ ms, ∃ z, b.cs.W[k]? = some z ∧ KMiss b.cs.K b.cs.w pa z)
    (hm : behindInMarks .In e2 = false) (ha : JE X b e1 (sem Φ gv a)) : JE X b (.Compare e1 [.In] [e2] pos) (sem Φ gv (.dinG false a g ms)) := by
  have core : ∀ (σ : L2.St) (H : Hp) (env : Env) (G : Hp) (r : Bool) (env' : Env) (Q : VK), (((sem Φ gv a).ev env).bind fun q => (dinGD (gv g) ms q.2.1).map fun b => (b, q.2.2)) = some (r, env') →
      Sat b σ H G env → (∀ H1 G1, Same G G1 → Sat b σ H1 G1 env' → Q (.bl r) H1) → tGIn X.K X.w pa (tEv b (sem Φ gv a).ev) σ H Q := by
    intro σ H env G r env' Q q S k
    obtain ⟨⟨o, y, w⟩, h1, q⟩ := Option.bind_eq_some_iff.mp q
    obtain ⟨d', h3, h4⟩ := Option.map_eq_some_iff.mp q
    cases h4
    refine use h1 S fun v1 H1 G1 g1 S1 r1 => ?_
    rw [hd] at h3
    cases y with
    | w kk =>
      have h3 : (if (findD ks ds (.w kk)).isSome then some true else if ms.contains kk then some false else none) = some r := h3
      cases r1 with
      | w hw1 =>
        split at h3
        · rename_i hs
          cases h3
          obtain ⟨d2, hd2⟩ := Option.isSome_iff_exists.mp hs
          obtain ⟨z, u, hz, kd, ru⟩ := hf _ _ hd2
          have hz' : (b.cs.W[kk]?).map Sum.inr = some (Sum.inr z) := hz
          rw [hw1] at hz'
          cases hz'
          exact ⟨_, true, rfl, .inl ⟨rfl, u, by rw [hK, hw]; exact kd⟩, k H1 G1 g1 S1⟩
        · split at h3
          · rename_i hc
            cases h3
            obtain ⟨z, hz, km⟩ := hms kk (by simpa using hc)
            rw [hw1] at hz
            cases hz
            exact ⟨_, false, rfl, .inr ⟨rfl, by rw [hK, hw]; exact km⟩, k H1 G1 g1 S1⟩
          · cases h3
    | _ => cases h3
  have pc := pc_gin low ha.ev hv
  refine JE.bool (core := fun env => ((sem Φ gv a).ev env).bind fun q => (dinGD (gv g) ms q.2.1).map fun b => (b, q.2.2)) (pe_cmp pc hm) (pt_cmp pc hm) (fun _ _ => rfl) (fun _ _ => rfl) (fun env => ?_) core
  cases (sem Φ gv a).ev env with
  | none => rfl
  | some q =>
    simp only [Option.bind_some, Option.map_map]
    rfl
end
end PD
/-! Calls: what a def promises. -/
namespace PD
open PySem L2

/-- the arguments at the entry -/
structure ArgsOk (c : Cs) (H G : Hp) (as : List (Bool × D)) (vs : List V) : Prop where
  len : vs.length = as.length
  ex : Same G H
  fro : ∀ (i : Nat) (d : D), as[i]? = some (false, d) → ∃ v, vs[i]? = some v ∧ Rep c G v d
  lent : ∀ (i : Nat) (d : D), as[i]? = some (true, d) → ∃ a, vs[i]? = some (V.ref a) ∧ G a = none ∧ OwnAt c H G a d
  apart : ∀ (i j : Nat) (d e : D) (a : Addr), as[i]? = some (true, d) → as[j]? = some (true, e) → vs[i]? = some (V.ref a) → vs[j]? = some (V.ref a) → i = j
/-- lent at an address -/
def LentTo (as : List (Bool × D)) (vs : List V) (p : Addr) : Prop := ∃ (i : Nat) (d : D), as[i]? = some (true, d) ∧ vs[i]? = some (V.ref p)
/-- what the call leaves -/
structure PostOk (c : Cs) (H G : Hp) (as : List (Bool × D)) (vs : List V) (r : (Bool × D) × List (Bool × D)) (v : V) (H' G' : Hp) : Prop where
  ex : Same G G'
  ex' : Same G' H'
  keep : ∀ p o, H p = some o → ¬ LentTo as vs p → H' p = some o
  new : ∀ p o, G' p = some o → G p = some o ∨ H p = none ∨ LentTo as vs p
  alive : ∀ p, LentTo as vs p → ∃ o, H' p = some o
  resF : r.1.1 = false → Rep c G' v r.1.2
  resO : r.1.1 = true → ∃ a, v = .ref a ∧ G' a = none ∧ H a = none ∧ OwnAt c H' G' a r.1.2
  plen : r.2.length = as.length
  lentF : ∀ (i : Nat) (d d' : D) (a : Addr), as[i]? = some (true, d) → r.2[i]? = some (false, d') → vs[i]? = some (V.ref a) → Rep c G' (.ref a) d'
  lentO : ∀ (i : Nat) (d d' : D) (a : Addr), as[i]? = some (true, d) → r.2[i]? = some (true, d') → vs[i]? = some (V.ref a) → G' a = none ∧ OwnAt c H' G' a d'
/-- an exception of the class of the word k, its one field (the word f) holding d -/
def XAt (c : Cs) (G : Hp) (k f : Nat) (d : D) (cls : Value) (dd : Option Addr) : Prop :=
  ∃ (nm fn : Str) (a : Addr) (v : V), c.W[k]? = some nm ∧ c.W[f]? = some fn ∧ PySem.W.nsIn c.K mainGlobals nm = some (some cls) ∧ dd = some a ∧ G a = some (.xd [(fn, v)]) ∧ Rep c G v d
theorem XAt.mono {c : Cs} {G G' : Hp} {k f : Nat} {d : D} {cls : Value} {dd : Option Addr} (g : Same G G') (h : XAt c G k f d cls dd) : XAt c G' k f d cls dd := by
  obtain ⟨nm, fn, a, v, h1, h2, h3, h4, h5, h6⟩ := h
  exact ⟨nm, fn, a, v, h1, h2, h3, h4, g _ _ h5, h6.mono g⟩
def SpD (c : Cs) (φ : List (Bool × D) → Option ((Bool × D) × List (Bool × D))) : Sp := fun vs H Q E =>
  ∃ G as r, φ as = some r ∧ ArgsOk c H G as vs ∧ (isX r.1 = none → ∀ v H' G', PostOk c H G as vs r v H' G' → Q v H') ∧
    ∀ k f d, isX r.1 = some (k, f, d) → ∀ cls dd H' G', PostOk c H G as vs ((false, .non), r.2) .non H' G' → XAt c G' k f d cls dd → E cls dd H'
/-- a def keeps a promise, where there is room -/
structure RunG (T : Tx) (n : Nat) (f : Addr) (fd : FuncData) (ps : List Str) (sp : Sp) : Prop where
  len : ∀ vs H Q E, sp vs H Q E → vs.length = ps.length
  run : ∀ (A : Around) (outer : List PySem.Env) (s : Shared) (H : Hp) (args : Args) (us : List Value) (vs : List V) (Q : VK) (E : XK), Room (n + 64) A → A.guards = some [] → Env0 T.P T.w T.K T.mg T.base A outer s H → BindsTo s fd args (ps.zip us) → Vals vs us → sp vs H Q E →
    codeAny (model T.P T.w) A (.call (.ref f) args) (CR (L2.CX T.P T.w) outer T.P T.w H s Q E) s
structure FnG (T : Tx) (n : Nat) (x : Str) (φ : List (Bool × D) → Option ((Bool × D) × List (Bool × D))) : Prop where
  ex : ∃ f fd ps, T.mg x = some (.ref f) ∧ PySem.W.keepIn T.K (.ref f) = true ∧ Binds T.K fd ps [] ∧ RunG T n f fd ps (SpD T.cs φ)
section
variable {T : Tx} {X : Cx} {N : List Str} {sc : Scope} {n : Nat}
/-- the callee runs -/
theorem run_fnG {f : Addr} {fd : FuncData} {ps : List Str} {sp : Sp} {pins : List (Addr × Obj)} {σ : L2.St} {H : Hp} {s : Shared} {Q : VK} {us : List Value} {vs : List V} {E : XK} (g : Gx T X N sc n) (F : RunG T n f fd ps sp) (hb : Binds T.K fd ps []) (hx : PassesAt (L2.CX X.prog X.w) X σ E)
    (I : Inv X pins σ H s) (r : Vals vs us) (h : sp vs H Q E) : wpAny (model X.prog X.w) X.A (call (.ref f) us) (EP X pins σ Q) X.xe s := by
  have hl : (us ++ ([] : List Value)).length = ps.length := by
    rw [List.append_nil, ← r.length]
    exact F.len _ _ _ _ h
  have e0 := I.env0
  have kin := I.kIn
  rw [g.prog, g.wld, g.K, g.mg, g.base] at e0
  rw [g.K] at kin
  have bt := hb s us kin hl
  rw [List.append_nil] at bt
  have := F.run X.A X.stack s H ⟨us, []⟩ us vs Q E g.room g.guards e0 bt r h
  rw [← g.prog, ← g.wld] at this
  refine wpAny_call (codeAny_mono this fun res s' hq => ?_)
  cases res with
  | error e =>
    exact hx pins H s e s' I hq
  | ok fl =>
    cases fl with
    | ret u => exact I.after hq
    | next => exact False.elim hq
    | brk => exact False.elim hq
    | cont => exact False.elim hq
theorem pass_none {σ : L2.St} : PassesAt (L2.CX X.prog X.w) X σ (fun _ _ _ => False) := fun _ _ _ _ _ _ h => by
  obtain ⟨_, _, _, _, _, _, _, _, _, _, _, _, z⟩ := h
  exact z.elim
theorem pe_callG {f : Addr} {fd : FuncData} {ps : List Str} {sp : Sp} {x : Str} {p pos : Pos} {e : Expr} {es : List Expr} {t : TA} {E : L2.St → XK} (hx : ∀ σ, PassesAt (L2.CX X.prog X.w) X σ (E σ)) (g : Gx T X N sc n) (F : RunG T n f fd ps sp) (hg : Gl X x) (hm : T.mg x = some (.ref f))
    (hk : PySem.W.keepIn T.K (.ref f) = true) (hb : Binds T.K fd ps []) (ha : PA X (e :: es) t) (hd : (x == ("__debug__" : Str)) = false) (hs : starEach (e :: es) X.env = (false, eval e X.env) :: starEach es X.env)
    (hp : (backTo pos (starEach es X.env)).any (·.1) = false) : PE X (.Call (.Name x p) (e :: es) [] pos) (fun σ H Q => t σ H fun vs H1 => sp vs H1 Q (E σ)) := by
  have hm' : X.mg x = some (.ref f) := by rw [g.mg]; exact hm
  have hk' : PySem.W.keepIn X.K (.ref f) = true := by rw [g.K]; exact hk
  refine ⟨fun pins s σ H Q I h => wpAny_Call_Name_kw (ld_glob I hg hm' ?_ hd)⟩
  refine PySem.W.callWith_K (h₀ := X.base) I.ok.mod.kin hk' (thn (ha.run pos pins s σ H _ I h) fun us s1 ⟨vs, H1, I1, r, q⟩ => ⟨I1.kIn, ?_⟩) hs hp
  exact run_fnG g F hb (hx σ) I1 r q
theorem pe_callG0 {f : Addr} {fd : FuncData} {ps : List Str} {sp : Sp} {x : Str} {p pos : Pos} {E : L2.St → XK} (hx : ∀ σ, PassesAt (L2.CX X.prog X.w) X σ (E σ)) (g : Gx T X N sc n) (F : RunG T n f fd ps sp) (hg : Gl X x) (hm : T.mg x = some (.ref f))
    (hk : PySem.W.keepIn T.K (.ref f) = true) (hb : Binds T.K fd ps []) (hd : (x == ("__debug__" : Str)) = false) : PE X (.Call (.Name x p) [] [] pos) (fun σ H Q => sp [] H Q (E σ)) := by
  have hm' : X.mg x = some (.ref f) := by rw [g.mg]; exact hm
  have hk' : PySem.W.keepIn X.K (.ref f) = true := by rw [g.K]; exact hk
  refine ⟨fun pins s σ H Q I h => wpAny_Call_Name_kw (ld_glob I hg hm' ?_ hd)⟩
  exact PySem.W.callWith_K0 I.kIn hk' (run_fnG (us := []) g F hb (hx σ) I .nil h)
end

/-! ### the caller's names behind a call -/
section
variable {b : Bs} {σ : L2.St} {env : Env} {H G : Hp}
theorem getC_iff {i : Nat} {f : Fl} {d : D} : getC env i = some (f, d) ↔ env[i]? = some (some (f, d)) := by
  refine ⟨getC_some, fun h => ?_⟩
  unfold getC
  rw [h]
/-- what an argument is -/
def argV (env : Env) : Arg → Option (Bool × D)
  | .v d => some (false, d)
  | .s i => (getC env i).map fun c => (isOwn c.1, c.2)
theorem argsOf_eq : ∀ {args : List Arg} {as : List (Bool × D)}, argsOf env args = some as → args.length = as.length ∧ ∀ (i : Nat) (a : Arg), args[i]? = some a → argV env a = as[i]?
  | [], as, h => by
    cases h
    exact ⟨rfl, fun i a e => by simp at e⟩
  | .v d :: r, as, h => by
    obtain ⟨as', h1, h2⟩ := Option.map_eq_some_iff.mp h
    subst h2
    obtain ⟨l, k⟩ := argsOf_eq h1
    refine ⟨by rw [List.length_cons, List.length_cons, l], fun i a e => ?_⟩
    cases i with
    | zero => cases e; rfl
    | succ i => exact k i a (by simpa using e)
  | .s j :: r, as, h => by
    unfold argsOf at h
    split at h
    · rename_i d hc
      obtain ⟨as', h1, h2⟩ := Option.map_eq_some_iff.mp h
      subst h2
      obtain ⟨l, k⟩ := argsOf_eq h1
      refine ⟨by rw [List.length_cons, List.length_cons, l], fun i a e => ?_⟩
      cases i with
      | zero =>
        cases e
        show (getC env j).map _ = _
        rw [hc]
        rfl
      | succ i => exact k i a (by simpa using e)
    · rename_i d hc
      obtain ⟨as', h1, h2⟩ := Option.map_eq_some_iff.mp h
      subst h2
      obtain ⟨l, k⟩ := argsOf_eq h1
      refine ⟨by rw [List.length_cons, List.length_cons, l], fun i a e => ?_⟩
      cases i with
      | zero =>
        cases e
        show (getC env j).map _ = _
        rw [hc]
        rfl
      | succ i => exact k i a (by simpa using e)
    · rename_i f d h3 h4 hc
      obtain ⟨as', h1, h2⟩ := Option.map_eq_some_iff.mp h
      subst h2
      obtain ⟨l, k⟩ := argsOf_eq h1
      refine ⟨by rw [List.length_cons, List.length_cons, l], fun i a e => ?_⟩
      cases i with
      | zero =>
        cases e
        show (getC env j).map _ = _
        rw [hc]
        cases f with
        | own => exact (h3 rfl).elim
        | lent => exact (h4 rfl).elim
        | fro => rfl
        | lfro => rfl
      | succ i => exact k i a (by simpa using e)
    · cases h
theorem lentAt_s {i : Nat} {r : List Arg} : lentAt env (.s i :: r) = (match getC env i with
  | some (.own, _) => i :: lentAt env r
  | some (.lent, _) => i :: lentAt env r
  | _ => lentAt env r) := rfl
theorem mem_lentAt : ∀ {args : List Arg} {j : Nat}, j ∈ lentAt env args ↔ .s j ∈ args ∧ ∃ f d, env[j]? = some (some (f, d)) ∧ isOwn f = true
  | [], j => by
    unfold lentAt
    simp
  | .v d :: r, j => by
    unfold lentAt
    rw [mem_lentAt]
    simp
  | .s i :: r, j => by
    unfold lentAt
    split
    · rename_i d hc
      rw [List.mem_cons, mem_lentAt]
      constructor
      · rintro (e | ⟨h1, h2⟩)
        · subst e
          exact ⟨List.mem_cons_self, _, _, getC_some hc, rfl⟩
        · exact ⟨List.mem_cons_of_mem _ h1, h2⟩
      · rintro ⟨h1, h2⟩
        rcases List.mem_cons.mp h1 with e | h1
        · cases e; exact .inl rfl
        · exact .inr ⟨h1, h2⟩
    · rename_i d hc
      rw [List.mem_cons, mem_lentAt]
      constructor
      · rintro (e | ⟨h1, h2⟩)
        · subst e
          exact ⟨List.mem_cons_self, _, _, getC_some hc, rfl⟩
        · exact ⟨List.mem_cons_of_mem _ h1, h2⟩
      · rintro ⟨h1, h2⟩
        rcases List.mem_cons.mp h1 with e | h1
        · cases e; exact .inl rfl
        · exact .inr ⟨h1, h2⟩
    · rename_i h3 h4
      rw [mem_lentAt]
      constructor
      · rintro ⟨h1, h2⟩
        exact ⟨List.mem_cons_of_mem _ h1, h2⟩
      · rintro ⟨h1, f, d, h2, hf⟩
        rcases List.mem_cons.mp h1 with e | h1
        · cases e
          cases f with
          | own => exact absurd (getC_iff.mpr h2) (h3 _)
          | lent => exact absurd (getC_iff.mpr h2) (h4 _)
          | fro => cases hf
          | lfro => cases hf
        · exact ⟨h1, f, d, h2, hf⟩
theorem lentAt_congr {env1 : Env} : ∀ {args : List Arg}, (∀ j, .s j ∈ args → env1[j]? = env[j]?) → lentAt env1 args = lentAt env args
  | [], _ => rfl
  | .v d :: r, h => by
    unfold lentAt
    exact lentAt_congr fun j hj => h j (List.mem_cons_of_mem _ hj)
  | .s i :: r, h => by
    have e : getC env1 i = getC env i := by
      unfold getC
      rw [h i List.mem_cons_self]
    unfold lentAt
    rw [e, lentAt_congr fun j hj => h j (List.mem_cons_of_mem _ hj)]
/-- a cell behind the call -/
def newCell (f : Fl) (p : Bool × D) : Fl × D := match f with
  | .own => (if p.1 then .own else .fro, p.2)
  | .lent => (if p.1 then .lent else .lfro, p.2)
  | f => (f, p.2)
theorem posts_at : ∀ {args : List Arg} {ps : List (Bool × D)} {env : Env}, args.length = ps.length → nodupN (lentAt env args) = true → ∀ j : Nat,
    ((∀ f d, env[j]? = some (some (f, d)) → isOwn f = true → Arg.s j ∉ args) → (posts args ps env)[j]? = env[j]?) ∧
    (∀ f d, env[j]? = some (some (f, d)) → isOwn f = true → Arg.s j ∈ args → ∃ (k : Nat) (p : Bool × D), args[k]? = some (Arg.s j) ∧ ps[k]? = some p ∧ (posts args ps env)[j]? = some (some (newCell f p)))
  | [], ps, env, hl, hn, j => by
    have e : posts [] ps env = env := by cases ps <;> rfl
    rw [e]
    exact ⟨fun _ => rfl, fun f d h hf hm => by simp at hm⟩
  | .v d0 :: r, [], env, hl, _, _ => by simp at hl
  | .s i :: r, [], env, hl, _, _ => by simp at hl
  | .v d0 :: r, p :: ps, env, hl, hn, j => by
    have ih := posts_at (args := r) (ps := ps) (env := env) (by simpa using hl) hn j
    have e : posts (.v d0 :: r) (p :: ps) env = posts r ps env := rfl
    rw [e]
    refine ⟨fun h => ih.1 fun f d he hf hm => h f d he hf (List.mem_cons_of_mem _ hm), fun f d he hf hm => ?_⟩
    have hm' : Arg.s j ∈ r := by
      rcases List.mem_cons.mp hm with q | q
      · cases q
      · exact q
    obtain ⟨k, q, h1, h2, h3⟩ := ih.2 f d he hf hm'
    exact ⟨k + 1, q, by simpa using h1, by simpa using h2, h3⟩
  | .s i :: r, p :: ps, env, hl, hn, j => by
    have e : posts (.s i :: r) (p :: ps) env = posts r ps (postArg env i p) := rfl
    rw [e]
    have hl' : r.length = ps.length := by simpa using hl
    by_cases ho : ∃ f d, env[i]? = some (some (f, d)) ∧ isOwn f = true
    · obtain ⟨f0, d0, he0, hf0⟩ := ho
      have hi : i < env.length := (List.getElem?_eq_some_iff.mp he0).1
      have lt : lentAt env (.s i :: r) = i :: lentAt env r := by
        rw [lentAt_s, getC_iff.mpr he0]
        cases f0 <;> first | rfl | cases hf0
      rw [lt] at hn
      unfold nodupN at hn
      rw [Bool.and_eq_true] at hn
      have nm : i ∉ lentAt env r := by
        have := hn.1
        simpa using this
      have nr : Arg.s i ∉ r := fun hm => nm (mem_lentAt.mpr ⟨hm, f0, d0, he0, hf0⟩)
      have pe : postArg env i p = env.set i (some (newCell f0 p)) := by
        unfold postArg
        rw [getC_iff.mpr he0]
        cases f0 <;> first | rfl | cases hf0
      rw [pe]
      have same : ∀ m, m ≠ i → (env.set i (some (newCell f0 p)))[m]? = env[m]? := fun m hm => List.getElem?_set_ne (Ne.symm hm)
      have hn' : nodupN (lentAt (env.set i (some (newCell f0 p))) r) = true := by
        rw [lentAt_congr (env := env) fun m hm => same m fun q => nr (q ▸ hm)]
        exact hn.2
      have ih := posts_at (args := r) (ps := ps) (env := env.set i (some (newCell f0 p))) hl' hn' j
      by_cases hj : j = i
      · subst hj
        have st := ih.1 fun f d he hf hm => nr hm
        refine ⟨fun h => absurd List.mem_cons_self (h f0 d0 he0 hf0), fun f d he hf hm => ⟨0, p, rfl, rfl, ?_⟩⟩
        rw [he0] at he
        cases he
        rw [st, List.getElem?_set_self hi]
      · rw [same j hj] at ih
        refine ⟨fun h => ih.1 fun f d he hf hm => h f d he hf (List.mem_cons_of_mem _ hm), fun f d he hf hm => ?_⟩
        have hm' : Arg.s j ∈ r := by
          rcases List.mem_cons.mp hm with q | q
          · cases q; exact absurd rfl hj
          · exact q
        obtain ⟨k, q, h1, h2, h3⟩ := ih.2 f d he hf hm'
        exact ⟨k + 1, q, by simpa using h1, by simpa using h2, h3⟩
    · have lt : lentAt env (.s i :: r) = lentAt env r := by
        rw [lentAt_s]
        split
        · rename_i d hc
          exact absurd ⟨_, _, getC_some hc, rfl⟩ ho
        · rename_i d hc
          exact absurd ⟨_, _, getC_some hc, rfl⟩ ho
        · rfl
      have pe : postArg env i p = env := by
        unfold postArg
        split
        · rename_i d hc
          exact absurd ⟨_, _, getC_some hc, rfl⟩ ho
        · rename_i d hc
          exact absurd ⟨_, _, getC_some hc, rfl⟩ ho
        · rfl
      rw [lt] at hn
      rw [pe]
      have ih := posts_at (args := r) (ps := ps) (env := env) hl' hn j
      refine ⟨fun h => ih.1 fun f d he hf hm => h f d he hf (List.mem_cons_of_mem _ hm), fun f d he hf hm => ?_⟩
      have hm' : Arg.s j ∈ r := by
        rcases List.mem_cons.mp hm with q | q
        · cases q; exact absurd ⟨f, d, he, hf⟩ ho
        · exact q
      obtain ⟨k, q, h1, h2, h3⟩ := ih.2 f d he hf hm'
      exact ⟨k + 1, q, by simpa using h1, by simpa using h2, h3⟩
theorem posts_len : ∀ {args : List Arg} {ps : List (Bool × D)} {env : Env}, (posts args ps env).length = env.length
  | [], ps, env => by cases ps <;> rfl
  | .v d :: r, [], env => rfl
  | .s i :: r, [], env => rfl
  | .v d :: r, p :: ps, env => posts_len (args := r) (ps := ps) (env := env)
  | .s i :: r, p :: ps, env => by
    have e : posts (.s i :: r) (p :: ps) env = posts r ps (postArg env i p) := rfl
    rw [e, posts_len]
    unfold postArg
    split <;> first | rfl | rw [List.length_set]
end
end PD
namespace PD
open PySem L2
section
variable {b : Bs} {σ : L2.St} {env : Env} {H G : Hp}
theorem ArgsAt.length : ∀ {vs : List V} {args : List Arg}, ArgsAt b σ G vs args → vs.length = args.length
  | _, _, .nil => rfl
  | _, _, .cons _ r => congrArg (· + 1) (ArgsAt.length r)
theorem ArgsAt.get : ∀ {vs : List V} {args : List Arg} {i : Nat} {a : Arg}, ArgsAt b σ G vs args → args[i]? = some a → ∃ v, vs[i]? = some v ∧ ArgAt b σ G v a
  | _, _, _, _, .nil, h => by simp at h
  | _, _, 0, _, .cons h _, e => by
    simp at e
    subst e
    exact ⟨_, rfl, h⟩
  | _, _, i + 1, _, .cons _ r, e => by
    obtain ⟨v, h1, h2⟩ := ArgsAt.get (i := i) r (by simpa using e)
    exact ⟨v, by simpa using h1, h2⟩
theorem nodup_ix : ∀ {l : List Nat}, nodupN l = true → l.Nodup
  | [], _ => List.nodup_nil
  | x :: r, h => by
    unfold nodupN at h
    rw [Bool.and_eq_true] at h
    refine List.nodup_cons.mpr ⟨?_, nodup_ix h.2⟩
    have := h.1
    simpa using this
/-- the same name is lent once -/
theorem lent_once : ∀ {args : List Arg} {i j k : Nat}, (lentAt env args).Nodup → args[i]? = some (Arg.s k) → args[j]? = some (Arg.s k) → (∃ f d, env[k]? = some (some (f, d)) ∧ isOwn f = true) → i = j
  | [], i, j, k, _, h, _, _ => by simp at h
  | a :: r, 0, 0, k, _, _, _, _ => rfl
  | a :: r, i + 1, j + 1, k, hn, h1, h2, ho => by
    have hn' : (lentAt env r).Nodup := by
      cases a with
      | v d => exact hn
      | s m =>
        rw [lentAt_s] at hn
        split at hn
        · exact (List.nodup_cons.mp hn).2
        · exact (List.nodup_cons.mp hn).2
        · exact hn
    have := lent_once (i := i) (j := j) hn' (by simpa using h1) (by simpa using h2) ho
    rw [this]
  | a :: r, 0, j + 1, k, hn, h1, h2, ho => by
    obtain ⟨f, d, he, hf⟩ := ho
    have e : a = Arg.s k := by simpa using h1
    subst e
    have hm : Arg.s k ∈ r := List.mem_of_getElem? (by simpa using h2)
    have : lentAt env (Arg.s k :: r) = k :: lentAt env r := by
      rw [lentAt_s, getC_iff.mpr he]
      cases f <;> first | rfl | cases hf
    rw [this] at hn
    exact absurd (mem_lentAt.mpr ⟨hm, f, d, he, hf⟩) (List.nodup_cons.mp hn).1
  | a :: r, i + 1, 0, k, hn, h1, h2, ho => by
    obtain ⟨f, d, he, hf⟩ := ho
    have e : a = Arg.s k := by simpa using h2
    subst e
    have hm : Arg.s k ∈ r := List.mem_of_getElem? (by simpa using h1)
    have : lentAt env (Arg.s k :: r) = k :: lentAt env r := by
      rw [lentAt_s, getC_iff.mpr he]
      cases f <;> first | rfl | cases hf
    rw [this] at hn
    exact absurd (mem_lentAt.mpr ⟨hm, f, d, he, hf⟩) (List.nodup_cons.mp hn).1
/-- an argument that is lent stands in a name -/
theorem lent_name {args : List Arg} {as : List (Bool × D)} {i : Nat} {d : D} (ha : argsOf env args = some as) (h : as[i]? = some (true, d)) : ∃ k f, args[i]? = some (Arg.s k) ∧ env[k]? = some (some (f, d)) ∧ isOwn f = true := by
  obtain ⟨hl, hk⟩ := argsOf_eq ha
  have hi : i < args.length := by
    rw [hl]
    exact (List.getElem?_eq_some_iff.mp h).1
  have e := hk i _ (List.getElem?_eq_getElem hi)
  rw [h] at e
  cases q : args[i] with
  | v d' =>
    rw [q] at e
    cases e
  | s k =>
    rw [q] at e
    obtain ⟨⟨f, d'⟩, h1, h2⟩ := Option.map_eq_some_iff.mp e
    simp only [Prod.mk.injEq] at h2
    obtain ⟨h2, h3⟩ := h2
    subst h3
    exact ⟨k, f, by rw [List.getElem?_eq_getElem hi, q], getC_some h1, h2⟩
theorem args_ok (S : Sat b σ H G env) {args : List Arg} {as : List (Bool × D)} {vs : List V} (ra : ArgsAt b σ G vs args) (ha : argsOf env args = some as) (hn : nodupN (lentAt env args) = true) : ArgsOk b.cs H G as vs := by
  obtain ⟨hl, hk⟩ := argsOf_eq ha
  have at1 : ∀ {i : Nat} {d : D}, as[i]? = some (true, d) → ∃ k f a, args[i]? = some (Arg.s k) ∧ env[k]? = some (some (f, d)) ∧ isOwn f = true ∧ σ[k]? = some (some (V.ref a)) ∧ vs[i]? = some (V.ref a) ∧ G a = none ∧ OwnAt b.cs H G a d := by
    intro i d h
    obtain ⟨k, f, h1, h2, h3⟩ := lent_name ha h
    obtain ⟨v, hv, c⟩ := S.slot k f d h2
    obtain ⟨a, rfl, ga, ow, _⟩ := c.isRef h3
    obtain ⟨u, hu, q⟩ := ra.get h1
    have q : σ[k]? = some (some u) := q
    rw [hv] at q
    cases q
    exact ⟨k, f, a, h1, h2, h3, hv, hu, ga, ow⟩
  refine ⟨by rw [ra.length, hl], S.ex, fun i d h => ?_, fun i d h => ?_, fun i j d e a h1 h2 v1 v2 => ?_⟩
  · have hi : i < args.length := by
      rw [hl]
      exact (List.getElem?_eq_some_iff.mp h).1
    have e := hk i _ (List.getElem?_eq_getElem hi)
    obtain ⟨u, hu, q⟩ := ra.get (List.getElem?_eq_getElem hi)
    rw [h] at e
    refine ⟨u, hu, ?_⟩
    cases w : args[i] with
    | v d' =>
      rw [w] at e q
      cases e
      exact q
    | s k =>
      rw [w] at e q
      obtain ⟨⟨f, d'⟩, h1, h2⟩ := Option.map_eq_some_iff.mp e
      simp only [Prod.mk.injEq] at h2
      obtain ⟨h2, h3⟩ := h2
      subst h3
      obtain ⟨v, hv, c⟩ := S.slot k f d' (getC_some h1)
      have q : σ[k]? = some (some u) := q
      rw [hv] at q
      cases q
      cases f with
      | fro => exact c
      | lfro => exact c.1
      | own => cases h2
      | lent => cases h2
  · obtain ⟨k, f, a, _, _, _, _, h4, h5, h6⟩ := at1 h
    exact ⟨a, h4, h5, h6⟩
  · obtain ⟨k1, f1, a1, p1, p2, p3, p4, p5, _, _⟩ := at1 h1
    obtain ⟨k2, f2, a2, r1, r2, r3, r4, r5, _, _⟩ := at1 h2
    rw [v1] at p5
    rw [v2] at r5
    cases p5
    cases r5
    have ek : k1 = k2 := S.apart k1 k2 f1 f2 d e a p2 r2 p3 r3 p4 r4
    subst ek
    exact lent_once (nodup_ix hn) p1 r1 ⟨f1, d, p2, p3⟩
theorem newCell_own {f : Fl} {p : Bool × D} (h : isOwn (newCell f p).1 = true) : isOwn f = true := by
  cases f <;> first | rfl | (obtain ⟨l, d⟩ := p; exact h)
/-- THE CALLER behind the call -/
theorem Sat.after (S : Sat b σ H G env) {args : List Arg} {as : List (Bool × D)} {vs : List V} {r : (Bool × D) × List (Bool × D)} {v : V} {H' G' : Hp} (ra : ArgsAt b σ G vs args) (ha : argsOf env args = some as) (hn : nodupN (lentAt env args) = true)
    (P : PostOk b.cs H G as vs r v H' G') : Sat b σ H' G' (posts args r.2 env) ∧ ResAt b σ H' G' (posts args r.2 env) v r.1.2 r.1.1 := by
  obtain ⟨hl, hk⟩ := argsOf_eq ha
  have hlp : args.length = r.2.length := by rw [hl, P.plen]
  -- who is lent
  have lentI : ∀ p, LentTo as vs p → ∃ k f d, Arg.s k ∈ args ∧ env[k]? = some (some (f, d)) ∧ isOwn f = true ∧ σ[k]? = some (some (V.ref p)) := by
    rintro p ⟨i, d, h1, h2⟩
    obtain ⟨k, f, h3, h4, h5⟩ := lent_name ha h1
    obtain ⟨u, hu, q⟩ := ra.get h3
    have q : σ[k]? = some (some u) := q
    rw [h2] at hu
    cases hu
    exact ⟨k, f, d, List.mem_of_getElem? h3, h4, h5, q⟩
  have lentO : ∀ {k : Nat} {f : Fl} {d : D} {p : Addr}, Arg.s k ∈ args → env[k]? = some (some (f, d)) → isOwn f = true → σ[k]? = some (some (V.ref p)) → LentTo as vs p := by
    intro k f d p hm he hf hs
    obtain ⟨i, hi⟩ := List.mem_iff_getElem?.mp hm
    have e := hk i _ hi
    rw [show argV env (Arg.s k) = some (isOwn f, d) by show (getC env k).map _ = _; rw [getC_iff.mpr he]; rfl, hf] at e
    obtain ⟨u, hu, q⟩ := ra.get hi
    have q : σ[k]? = some (some u) := q
    rw [hs] at q
    cases q
    exact ⟨i, d, e.symm, hu⟩
  have lentB : ∀ p, LentTo as vs p → G p = none ∧ (b.H0 p = none ∨ ∃ q ∈ b.L, q.2 = p) := by
    intro p hp
    obtain ⟨k, f, d, _, he, hf, hs⟩ := lentI p hp
    obtain ⟨u, hu, c⟩ := S.slot k f d he
    obtain ⟨a, rfl, ga, _, hh⟩ := c.isRef hf
    rw [hs] at hu
    cases hu
    refine ⟨ga, ?_⟩
    rcases hh with q | q
    · exact .inl q
    · exact .inr ⟨_, q, rfl⟩
  have back : ∀ {k : Nat} {g : Fl} {e : D}, (posts args r.2 env)[k]? = some (some (g, e)) →
      (env[k]? = some (some (g, e)) ∧ (isOwn g = true → Arg.s k ∉ args)) ∨
      (∃ (f : Fl) (d : D) (i : Nat) (p : Bool × D), env[k]? = some (some (f, d)) ∧ isOwn f = true ∧ args[i]? = some (Arg.s k) ∧ r.2[i]? = some p ∧ (g, e) = newCell f p) := by
    intro k g e h
    obtain ⟨q1, q2⟩ := posts_at (args := args) (ps := r.2) (env := env) hlp hn k
    by_cases ho : ∃ f d, env[k]? = some (some (f, d)) ∧ isOwn f = true ∧ Arg.s k ∈ args
    · obtain ⟨f, d, h1, h2, h3⟩ := ho
      obtain ⟨i, p, h4, h5, h6⟩ := q2 f d h1 h2 h3
      rw [h6] at h
      exact .inr ⟨f, d, i, p, h1, h2, h4, h5, (Option.some.inj (Option.some.inj h)).symm⟩
    · have := q1 fun f d h1 h2 h3 => ho ⟨f, d, h1, h2, h3⟩
      rw [this] at h
      exact .inl ⟨h, fun hg hm => ho ⟨g, e, h, hg, hm⟩⟩
  have sat : Sat b σ H' G' (posts args r.2 env) := by
    refine ⟨by rw [posts_len]; exact S.len, P.ex', S.ex0.trans P.ex, fun p o e k => ?_, fun p o e => ?_, fun q hq => ?_, fun k g e h => ?_, fun i j f g d e a h1 h2 o1 o2 s1 s2 => ?_⟩
    · refine P.keep p o (S.keep p o e k) fun hp => ?_
      rcases (lentB p hp).2 with q | ⟨q, hq, eq⟩
      · rw [e] at q; cases q
      · exact k q hq eq
    · rcases P.new p o e with q | q | q
      · exact S.new p o q
      · cases w : b.H0 p with
        | none => exact .inr (.inl rfl)
        | some z =>
          by_cases hx : ∃ q ∈ b.L, q.2 = p
          · exact .inr (.inr hx)
          · have := S.keep p z w fun y hy ey => hx ⟨y, hy, ey⟩
            rw [q] at this; cases this
      · exact .inr (lentB p q).2
    · by_cases hp : LentTo as vs q.2
      · exact P.alive _ hp
      · obtain ⟨o, ho⟩ := S.lents q hq
        exact ⟨o, P.keep _ _ ho hp⟩
    · rcases back h with ⟨h1, h2⟩ | ⟨f, d, i, p, h1, h2, h3, h4, h5⟩
      · obtain ⟨v, hv, c⟩ := S.slot k g e h1
        refine ⟨v, hv, c.mono P.ex fun a ea ga ⟨z, hz⟩ og => ?_⟩
        subst ea
        have nl : ¬ LentTo as vs a := by
          rintro hp
          obtain ⟨k', f', d', hm', he', hf', hs'⟩ := lentI a hp
          have ek := S.apart k k' g f' e d' a h1 he' og hf' hv hs'
          subst ek
          exact h2 og hm'
        have hk' := P.keep a z hz nl
        refine ⟨?_, by rw [hk', hz]⟩
        cases w : G' a with
        | none => rfl
        | some y =>
          rcases P.new a y w with q | q | q
          · rw [ga] at q; cases q
          · rw [hz] at q; cases q
          · exact absurd q nl
      · obtain ⟨v, hv, c⟩ := S.slot k f d h1
        obtain ⟨a, rfl, ga, ow, hh⟩ := c.isRef h2
        refine ⟨_, hv, ?_⟩
        have e1 := hk i _ h3
        rw [show argV env (Arg.s k) = some (isOwn f, d) by show (getC env k).map _ = _; rw [getC_iff.mpr h1]; rfl, h2] at e1
        obtain ⟨u, hu, q⟩ := ra.get h3
        have q : σ[k]? = some (some u) := q
        rw [hv] at q
        cases q
        obtain ⟨l, d'⟩ := p
        cases l with
        | true =>
          obtain ⟨g1, o1⟩ := P.lentO i d d' a e1.symm h4 hu
          cases f with
          | fro => cases h2
          | lfro => cases h2
          | own =>
            cases h5
            obtain ⟨a', ea, n, m, _⟩ := c
            cases ea
            exact ⟨a, rfl, g1, m, o1⟩
          | lent =>
            cases h5
            obtain ⟨a', ea, n, m, _⟩ := c
            cases ea
            exact ⟨a, rfl, g1, m, o1⟩
        | false =>
          have r1 := P.lentF i d d' a e1.symm h4 hu
          cases f with
          | fro => cases h2
          | lfro => cases h2
          | own =>
            cases h5
            exact r1
          | lent =>
            cases h5
            obtain ⟨a', ea, n, m, _⟩ := c
            cases ea
            exact ⟨r1, a, rfl, m⟩
    · have old : ∀ {k : Nat} {g : Fl} {e : D}, (posts args r.2 env)[k]? = some (some (g, e)) → isOwn g = true → ∃ f d, env[k]? = some (some (f, d)) ∧ isOwn f = true := by
        intro k g e h hg
        rcases back h with ⟨h1, _⟩ | ⟨f, d, i, p, h1, h2, _, _, h5⟩
        · exact ⟨g, e, h1, hg⟩
        · exact ⟨f, d, h1, h2⟩
      obtain ⟨f1, d1, x1, y1⟩ := old h1 o1
      obtain ⟨f2, d2, x2, y2⟩ := old h2 o2
      exact S.apart i j f1 f2 d1 d2 a x1 x2 y1 y2 s1 s2
  refine ⟨sat, ?_⟩
  obtain ⟨⟨o, d⟩, ps⟩ := r
  cases o with
  | false => exact P.resF rfl
  | true =>
    obtain ⟨a, ea, ga, ha0, ow⟩ := P.resO rfl
    refine ⟨a, ea, ga, ?_, ow, fun i f e h hf hs => ?_⟩
    · cases w : b.H0 a with
      | none => rfl
      | some z =>
        by_cases hx : ∃ q ∈ b.L, q.2 = a
        · obtain ⟨q, hq, eq⟩ := hx
          obtain ⟨o, ho⟩ := S.lents q hq
          rw [eq, ha0] at ho; cases ho
        · have := S.keep a z w fun y hy ey => hx ⟨y, hy, ey⟩
          rw [ha0] at this; cases this
    · rcases back h with ⟨h1, _⟩ | ⟨f', d', i', p', h1, h2, _, _, _⟩
      · obtain ⟨v', hv, c⟩ := S.slot i f e h1
        obtain ⟨a', rfl, _, ow', _⟩ := c.isRef hf
        rw [hs] at hv; cases hv
        obtain ⟨z, hz⟩ := ow'.some
        rw [ha0] at hz; cases hz
      · obtain ⟨v', hv, c⟩ := S.slot i f' d' h1
        obtain ⟨a', rfl, _, ow', _⟩ := c.isRef h2
        rw [hs] at hv; cases hv
        obtain ⟨z, hz⟩ := ow'.some
        rw [ha0] at hz; cases hz
end
section
variable {T : Tx} {X : Cx} {N : List Str} {sc : Scope} {n : Nat} {b : Bs} {Φ : Phi} {gv : Nat → D} {pos p : Pos} {x : Str} {f : Nat} {e : Expr} {es : List Expr} {c : IEs}
/-- a value that follows, or an exception that is taken -/
def KonX (b : Bs) (σ : L2.St) (env : Env) (G : Hp) (Q : VK) (W : WX) : XO → Prop
  | .inl r => Kon b σ env G r.1 r.2 Q
  | .inr (k, f, d) => ∀ cls dd H' G', Same G G' → Sat b σ H' G' env → XAt b.cs G' k f d cls dd → W cls dd σ H'
theorem KonX.step {σ : L2.St} {G G1 : Hp} {Q : VK} {W : WX} {env : Env} : ∀ {x : XO}, KonX b σ env G Q W x → Same G G1 → KonX b σ env G1 Q W x
  | .inl _, k, g => Kon.step k g
  | .inr (_, _, _), k, g => fun cls dd H' G' g' S a => k cls dd H' G' (g.trans g') S a
theorem call_read {σ : L2.St} {H1 G G1 : Hp} {Q : VK} {W : WX} {env' : Env} {o : XO} {args : List Arg} {env1 : Env} {vs : List V} (hb : b.cs = T.cs) (S1 : Sat b σ H1 G1 env1) (g1 : Same G G1) (ra : ArgsAt b σ G1 vs args)
    (q : ((argsOf env1 args).bind fun as => if nodupN (lentAt env1 args) then (Φ f as).map fun r => match isX r.1 with | some x => ((.inr x, posts args r.2 env1) : XO × Env) | none => (.inl r.1, posts args r.2 env1) else none) = some (o, env')) (k : KonX b σ env' G Q W o) : SpD T.cs (Φ f) vs H1 Q (WE W σ) := by
  obtain ⟨as, h2, q⟩ := Option.bind_eq_some_iff.mp q
  split at q
  · rename_i hn
    obtain ⟨r, h3, h4⟩ := Option.map_eq_some_iff.mp q
    refine ⟨G1, as, r, h3, ?_, fun hx v H' G' P => ?_, fun k' f' d' hx cls dd H' G' P a => ?_⟩
    · rw [← hb]
      exact args_ok S1 ra h2 hn
    · rw [hx] at h4
      cases h4
      rw [← hb] at P
      obtain ⟨S2, r2⟩ := S1.after ra h2 hn P
      exact k v H' G' (g1.trans P.ex) S2 r2
    · rw [hx] at h4
      cases h4
      rw [← hb] at P a
      obtain ⟨S2, r2⟩ := S1.after ra h2 hn P
      exact k cls dd H' G' (g1.trans P.ex) S2 a
  · cases q
/-- an expression with a call that may raise -/
def tXv (b : Bs) (W : WX) (h : Env → Option (XO × Env)) : TE := fun σ H Q => ∃ env G x env', h env = some (x, env') ∧ Sat b σ H G env ∧ KonX b σ env' G Q W x
theorem px_call {W : WX} (tk : Takes X W) (g : Gx T X N sc n) (hb : b.cs = T.cs) (F : FnG T n x (Φ f)) (hg : Gl X x) (hd : (x == ("__debug__" : Str)) = false) (hs : starEach (e :: es) X.env = (false, eval e X.env) :: starEach es X.env)
    (ha : JEs X b (e :: es) (sems Φ gv c)) : PE X (.Call (.Name x p) (e :: es) [] pos) (tXv b W (semC Φ gv f c)) := by
  obtain ⟨fa, fd, ps, hm, hk, hbd, R⟩ := F.ex
  have hp : (backTo pos (starEach es X.env)).any (·.1) = false := by
    have := (ha.pl X.env pos).1
    rw [hs] at this
    exact this
  refine (pe_callG (E := WE W) (fun σ => passAt tk σ) g R hg hm hk hbd ha.ar hd hs hp).wk fun σ H Q ⟨env, G, o, env', q, S, k⟩ => ?_
  obtain ⟨⟨args, env1⟩, h1, q⟩ := Option.bind_eq_some_iff.mp q
  exact ⟨env, G, args, env1, h1, S, fun vs H1 G1 g1 S1 ra => call_read hb S1 g1 ra q k⟩
theorem px_call0 {W : WX} (tk : Takes X W) (g : Gx T X N sc n) (hb : b.cs = T.cs) (F : FnG T n x (Φ f)) (hg : Gl X x) (hd : (x == ("__debug__" : Str)) = false) : PE X (.Call (.Name x p) [] [] pos) (tXv b W (semC Φ gv f .nil)) := by
  obtain ⟨fa, fd, ps, hm, hk, hbd, R⟩ := F.ex
  refine (pe_callG0 (E := WE W) (fun σ => passAt tk σ) g R hg hm hk hbd hd).wk fun σ H Q ⟨env, G, o, env', q, S, k⟩ => ?_
  exact call_read hb S (Same.refl G) .nil q k
theorem takes_no : Takes X (fun _ _ _ _ => False) := takes0
theorem of_semC {own : Bool} {d : D} {env env' : Env} (q : (sem Φ gv (.call f c)).ev env = some (own, d, env')) : semC Φ gv f c env = some (.inl (own, d), env') := by
  obtain ⟨⟨args, env1⟩, h1, q⟩ := Option.bind_eq_some_iff.mp q
  obtain ⟨as, h2, q⟩ := Option.bind_eq_some_iff.mp q
  unfold semC
  rw [h1, Option.bind_some, h2, Option.bind_some]
  dsimp only at q ⊢
  split at q
  · rename_i hn
    rw [if_pos hn]
    obtain ⟨r, h3, h4⟩ := Option.bind_eq_some_iff.mp q
    rw [h3]
    split at h4
    · cases h4
    · rename_i hx
      cases h4
      show some _ = _
      dsimp only
      rw [hx]
  · cases q
theorem je_call (g : Gx T X N sc n) (hb : b.cs = T.cs) (F : FnG T n x (Φ f)) (hg : Gl X x) (hd : (x == ("__debug__" : Str)) = false) (hs : starEach (e :: es) X.env = (false, eval e X.env) :: starEach es X.env)
    (ha : JEs X b (e :: es) (sems Φ gv c)) : JE X b (.Call (.Name x p) (e :: es) [] pos) (sem Φ gv (.call f c)) :=
  JE.of (by rw [g.K, hb]) ((px_call takes_no g hb F hg hd hs ha).wk fun σ H Q ⟨env, G, own, d, env', q, S, k⟩ => ⟨env, G, .inl (own, d), env', of_semC q, S, k⟩) bare_call
theorem je_call0 (g : Gx T X N sc n) (hb : b.cs = T.cs) (F : FnG T n x (Φ f)) (hg : Gl X x) (hd : (x == ("__debug__" : Str)) = false) : JE X b (.Call (.Name x p) [] [] pos) (sem Φ gv (.call f .nil)) :=
  JE.of (by rw [g.K, hb]) ((px_call0 (gv := gv) takes_no g hb F hg hd).wk fun σ H Q ⟨env, G, own, d, env', q, S, k⟩ => ⟨env, G, .inl (own, d), env', of_semC q, S, k⟩) bare_call
end
end PD
/-! Targets, walks, comprehensions. -/
namespace PD
open PySem L2
section
variable {b : Bs} {σ : L2.St} {env env' : Env} {H G : Hp}
theorem free_lt {i : Nat} (h : freeC env i = true) : i < env.length ∧ ∀ f d, env[i]? = some (some (f, d)) → f = .fro ∨ f = .own := by
  unfold freeC at h
  split at h
  · rename_i e
    exact ⟨(List.getElem?_eq_some_iff.mp e).1, fun f d q => by rw [e] at q; cases q⟩
  · rename_i e
    exact ⟨(List.getElem?_eq_some_iff.mp e).1, fun f d q => by rw [e] at q; cases q; exact .inl rfl⟩
  · rename_i e
    exact ⟨(List.getElem?_eq_some_iff.mp e).1, fun f d q => by rw [e] at q; cases q; exact .inr rfl⟩
  · cases h
/-- a name is given a value -/
theorem Sat.put (S : Sat b σ H G env) {i : Nat} {own : Bool} {d : D} {v : V} (h : putC env i own d = some env') (r : ResAt b σ H G env v d own) : Sat b (σ.set i (some v)) H G env' := by
  unfold putC at h
  split at h
  · rename_i hf
    cases h
    obtain ⟨hi, _⟩ := free_lt hf
    have his : i < σ.length := by rw [← S.len]; exact hi
    refine ⟨by rw [List.length_set, List.length_set]; exact S.len, S.ex, S.ex0, S.keep, S.new, S.lents, fun j f e hj => ?_, fun j l f g d1 e1 a hj hl o1 o2 s1 s2 => ?_⟩
    · by_cases hij : j = i
      · subst hij
        rw [List.getElem?_set_self hi] at hj
        refine ⟨v, List.getElem?_set_self his, ?_⟩
        cases own with
        | false =>
          cases hj
          exact r
        | true =>
          cases hj
          obtain ⟨a, ea, ga, ha, ow, _⟩ := r
          exact ⟨a, ea, ga, ha, ow⟩
      · rw [List.getElem?_set_ne (Ne.symm hij)] at hj ⊢
        exact S.slot j f e hj
    · by_cases hij : j = i
      · by_cases hil : l = i
        · rw [hij, hil]
        · subst hij
          rw [List.getElem?_set_ne (Ne.symm hil)] at hl s2
          rw [List.getElem?_set_self hi] at hj
          rw [List.getElem?_set_self his] at s1
          cases own with
          | false => cases hj; cases o1
          | true =>
            obtain ⟨a', ea, _, _, _, hn⟩ := r
            cases s1
            cases ea
            exact absurd s2 (hn l g e1 hl o2)
      · rw [List.getElem?_set_ne (Ne.symm hij)] at hj s1
        by_cases hil : l = i
        · subst hil
          rw [List.getElem?_set_self hi] at hl
          rw [List.getElem?_set_self his] at s2
          cases own with
          | false => cases hl; cases o2
          | true =>
            obtain ⟨a', ea, _, _, _, hn⟩ := r
            cases s2
            cases ea
            exact absurd s1 (hn j f d1 hj o1)
        · rw [List.getElem?_set_ne (Ne.symm hil)] at hl s2
          exact S.apart j l f g d1 e1 a hj hl o1 o2 s1 s2
  · cases h
theorem wipe_ne : ∀ {is : List Nat} {j : Nat}, j ∉ is → (wipe σ is)[j]? = σ[j]?
  | [], j, _ => rfl
  | v :: vs, j, h => by
    unfold wipe
    rw [List.getElem?_set_ne (fun q => h (by rw [q]; exact List.mem_cons_self)), wipe_ne fun q => h (List.mem_cons_of_mem _ q)]
theorem Sat.wiped (S : Sat b σ H G env) {is : List Nat} (h : ∀ i ∈ is, ∀ c, env[i]? ≠ some (some c)) : Sat b (wipe σ is) H G env := by
  have ni : ∀ {j : Nat} {c : Fl × D}, env[j]? = some (some c) → j ∉ is := fun e hm => h _ hm _ e
  refine ⟨by rw [wipe_length]; exact S.len, S.ex, S.ex0, S.keep, S.new, S.lents, fun j f d hj => ?_, fun j l f g d e a hj hl o1 o2 s1 s2 => ?_⟩
  · rw [wipe_ne (ni hj)]
    exact S.slot j f d hj
  · rw [wipe_ne (ni hj)] at s1
    rw [wipe_ne (ni hl)] at s2
    exact S.apart j l f g d e a hj hl o1 o2 s1 s2
theorem Sat.unwiped {is : List Nat} (S : Sat b (wipe σ is) H G env) : Sat b σ H G env := by
  refine ⟨by rw [← wipe_length σ is]; exact S.len, S.ex, S.ex0, S.keep, S.new, S.lents, fun j f d hj => ?_, fun j l f g d e a hj hl o1 o2 s1 s2 => ?_⟩
  · obtain ⟨v, hv, k⟩ := S.slot j f d hj
    exact ⟨v, (wipe_some hv).1, k⟩
  · obtain ⟨v, hv, _⟩ := S.slot j f d hj
    obtain ⟨u, hu, _⟩ := S.slot l g e hl
    have e1 := (wipe_some hv).1
    have e2 := (wipe_some hu).1
    rw [s1] at e1
    rw [s2] at e2
    cases e1
    cases e2
    exact S.apart j l f g d e a hj hl o1 o2 hv hu
theorem clear_len : ∀ {is : List Nat} {env : Env}, (clearAt is env).length = env.length
  | [], _ => rfl
  | i :: is, env => by
    unfold clearAt
    rw [clear_len, List.length_set]
theorem clear_at : ∀ {is : List Nat} {env : Env} {j : Nat} {c : Fl × D}, (clearAt is env)[j]? = some (some c) → env[j]? = some (some c) ∧ j ∉ is
  | [], _, _, _, h => ⟨h, by simp⟩
  | i :: is, env, j, c, h => by
    unfold clearAt at h
    obtain ⟨h1, h2⟩ := clear_at h
    by_cases hj : j = i
    · subst hj
      by_cases hl : j < env.length
      · rw [List.getElem?_set_self hl] at h1
        cases h1
      · have := (List.getElem?_eq_some_iff.mp h1).1
        rw [List.length_set] at this
        exact absurd this hl
    · rw [List.getElem?_set_ne (Ne.symm hj)] at h1
      exact ⟨h1, fun hm => (List.mem_cons.mp hm).elim hj h2⟩
theorem Sat.cleared (S : Sat b σ H G env) (is : List Nat) : Sat b (wipe σ is) H G (clearAt is env) := by
  refine ⟨by rw [wipe_length, clear_len]; exact S.len, S.ex, S.ex0, S.keep, S.new, S.lents, fun j f d hj => ?_, fun j l f g d e a hj hl o1 o2 s1 s2 => ?_⟩
  · obtain ⟨h1, h2⟩ := clear_at hj
    rw [wipe_ne h2]
    exact S.slot j f d h1
  · obtain ⟨h1, h2⟩ := clear_at hj
    obtain ⟨h3, h4⟩ := clear_at hl
    rw [wipe_ne h2] at s1
    rw [wipe_ne h4] at s2
    exact S.apart j l f g d e a h1 h3 o1 o2 s1 s2
/-- what the rules' list that grows is: no name's -/
structure Aside (b : Bs) (G : Hp) (σ : L2.St) (env : Env) (p : Addr) : Prop where
  g : G p = none
  h : b.H0 p = none
  l : ∀ q ∈ b.L, q.2 ≠ p
abbrev Bs.with (b : Bs) (p : Addr) (o : HO) : Bs := { b with H0 := upd b.H0 p o }
theorem Sat.poke (S : Sat b σ H G env) {p : Addr} (A : Aside b G σ env p) (hn : ∀ (i : Nat) (f : Fl) (e : D), env[i]? = some (some (f, e)) → isOwn f = true → σ[i]? ≠ some (some (V.ref p))) (o : HO) : Sat b σ (upd H p o) G env := by
  refine ⟨S.len, fun a u e => ?_, S.ex0, fun a u e k => ?_, S.new, fun q hq => ?_, fun j f d hj => ?_, S.apart⟩
  · rw [upd_ne (ne_of_none e A.g)]
    exact S.ex _ _ e
  · rw [upd_ne (ne_of_none e A.h)]
    exact S.keep _ _ e k
  · obtain ⟨z, hz⟩ := S.lents q hq
    exact ⟨z, by rw [upd_ne (A.l q hq)]; exact hz⟩
  · obtain ⟨v, hv, k⟩ := S.slot j f d hj
    refine ⟨v, hv, k.mono (Same.refl G) fun a ea n _ og => ⟨n, ?_⟩⟩
    subst ea
    have ne : a ≠ p := by
      rintro rfl
      exact hn j f d hj og hv
    rw [upd_ne ne]
theorem Sat.into (S : Sat b σ H G env) {p : Addr} {o : HO} (A : Aside b G σ env p) (hn : ∀ (i : Nat) (f : Fl) (e : D), env[i]? = some (some (f, e)) → isOwn f = true → σ[i]? ≠ some (some (V.ref p))) (hp : H p = some o) : Sat (b.with p o) σ H G env := by
  refine ⟨S.len, S.ex, S.ex0, fun a u e k => ?_, fun a u e => ?_, S.lents, fun j f d hj => ?_, S.apart⟩
  · by_cases h : a = p
    · subst h
      have e : upd b.H0 a o a = some u := e
      rw [upd_same] at e
      cases e
      exact hp
    · have e : upd b.H0 p o a = some u := e
      rw [upd_ne h] at e
      exact S.keep a u e k
  · rcases S.new a u e with q | q | q
    · exact .inl q
    · refine .inr (.inl ?_)
      show upd b.H0 p o a = none
      rw [upd_ne (ne_of_none e A.g)]
      exact q
    · exact .inr (.inr q)
  · obtain ⟨v, hv, k⟩ := S.slot j f d hj
    refine ⟨v, hv, ?_⟩
    cases f with
    | fro => exact k
    | lfro => exact k
    | lent => exact k
    | own =>
      obtain ⟨a, ea, ga, ha, ow⟩ := k
      refine ⟨a, ea, ga, ?_, ow⟩
      show upd b.H0 p o a = none
      subst ea
      have ne : a ≠ p := by
        rintro rfl
        exact hn j .own d hj rfl hv
      rw [upd_ne ne]
      exact ha
theorem Sat.outof {p : Addr} {o : HO} (S : Sat (b.with p o) σ H G env) (h0 : b.H0 p = none) (g0 : b.G0 p = none) (hl : ∀ q ∈ b.L, q.2 ≠ p) :
    Sat b σ H G env ∧ H p = some o ∧ Aside b G σ env p ∧ ∀ (i : Nat) (f : Fl) (e : D), env[i]? = some (some (f, e)) → isOwn f = true → σ[i]? ≠ some (some (V.ref p)) := by
  have e0 : (b.with p o).H0 p = some o := upd_same
  have sub : ∀ a, (b.with p o).H0 a = none → b.H0 a = none := by
    intro a e
    by_cases h : a = p
    · rw [h]; exact h0
    · have e : upd b.H0 p o a = none := e
      rw [upd_ne h] at e
      exact e
  have up : ∀ a u, b.H0 a = some u → (b.with p o).H0 a = some u := fun a u e => by
    show upd b.H0 p o a = some u
    rw [upd_ne (ne_of_none e h0)]
    exact e
  have gp : G p = none := by
    cases w : G p with
    | none => rfl
    | some z =>
      rcases S.new p z w with q | q | ⟨q, hq, eq⟩
      · have q : b.G0 p = some z := q
        rw [g0] at q; cases q
      · rw [e0] at q; cases q
      · exact absurd eq (hl q hq)
  refine ⟨⟨S.len, S.ex, S.ex0, fun a u e k => S.keep a u (up a u e) k, fun a u e => ?_, S.lents, fun j f d hj => ?_, S.apart⟩, S.keep p o e0 hl, ⟨gp, h0, hl⟩, fun i f e he hf hs => ?_⟩
  · rcases S.new a u e with q | q | q
    · exact .inl q
    · exact .inr (.inl (sub a q))
    · exact .inr (.inr q)
  · obtain ⟨v, hv, k⟩ := S.slot j f d hj
    refine ⟨v, hv, ?_⟩
    cases f with
    | fro => exact k
    | lfro => exact k
    | lent => exact k
    | own =>
      obtain ⟨a, ea, ga, ha, ow⟩ := k
      exact ⟨a, ea, ga, sub a ha, ow⟩
  · obtain ⟨v, hv, k⟩ := S.slot i f e he
    rw [hs] at hv
    cases hv
    cases f with
    | fro => cases hf
    | lfro => cases hf
    | lent => obtain ⟨a, ea, ga, ha, _⟩ := k; cases ea; exact hl _ ha rfl
    | own => obtain ⟨a, ea, ga, ha, _⟩ := k; cases ea; rw [e0] at ha; cases ha
end

/-! ### targets -/
def gT (K : PySem.W.Frag) : TGt → TG
  | .one i => gName i
  | .two i j => gTup K 2 (gCons (gName i) (gCons (gName j) gNil))
section
variable {b : Bs} {σ : L2.St} {env env' : Env} {H G : Hp} {d : D} {v : V}
theorem put_ok (S : Sat b σ H G env) {t : TGt} (h : putT t d env = some env') (r : Rep b.cs G v d) {Q : L2.St → Hp → Prop}
    (k : ∀ σ', Sat b σ' H G env' → (∃ vs : List V, vs.length = t.is.length ∧ σ' = (t.is.zip vs).foldl (fun s p => s.set p.1 (some p.2)) σ) → Q σ' H) : gT b.cs.K t v σ H Q := by
  cases t with
  | one i => exact k _ (S.put h r) ⟨[v], rfl, rfl⟩
  | two i j =>
    unfold putT at h
    split at h
    · rename_i ht
      cases ht
    · rename_i d1 d2 ht
      cases ht
      obtain ⟨e1, h1, h2⟩ := Option.bind_eq_some_iff.mp h
      cases r with
      | tup hs r =>
        rename_i a xs
        cases r with
        | cons r1 r' =>
          cases r' with
          | cons r2 r'' =>
            cases r''
            rename_i v1 v2
            have S1 : Sat b (σ.set i (some v1)) H G e1 := S.put (own := false) h1 r1
            have S2 : Sat b ((σ.set i (some v1)).set j (some v2)) H G env' := S1.put (own := false) h2 r2
            refine ⟨a, [v1, v2], rfl, SqT.seen S hs, rfl, ?_⟩
            refine ⟨v1, [v2], rfl, ?_⟩
            refine ⟨v2, [], rfl, ?_⟩
            exact ⟨rfl, k _ S2 ⟨[v1, v2], rfl, rfl⟩⟩
    · cases h
end

/-! ### walks -/
def Yld (c : Cs) (J : It) (ds : List D) (G1 : Hp) : Prop :=
  ∀ (b : Bs), b.cs = c → ∀ (i : Nat) (σ : L2.St) (H G : Hp) (env : Env), Same G1 G → Sat b σ H G env →
    (i < ds.length → J.go i H ∧ ∀ x H', J.yld i H x H' → ∃ G', Same G G' ∧ Sat b σ H' G' env ∧ ∃ d, ds[i]? = some d ∧ Rep c G' x d) ∧ (ds.length ≤ i → J.stop i H)
def tI (b : Bs) (f : Env → Option (List D × Env)) : TI := fun σ H R => ∃ env G ds env', f env = some (ds, env') ∧ Sat b σ H G env ∧ ∀ J H' G', Same G G' → Sat b σ H' G' env' → Yld b.cs J ds G' → R J H'
theorem _root_.L2.PI.wk {X : Cx} {tg e : Expr} {t t' : TI} (h : PI X tg e t) (k : ∀ σ H R, t' σ H R → t σ H R) : PI X tg e t' := ⟨fun pins s σ H R I q => h.run pins s σ H R I (k σ H R q)⟩
theorem _root_.L2.PI.or {X : Cx} {tg e : Expr} {t t' : TI} (h : PI X tg e t) (h' : PI X tg e t') : PI X tg e (fun σ H R => t σ H R ∨ t' σ H R) := ⟨fun pins s σ H R I q => q.elim (h.run pins s σ H R I) (h'.run pins s σ H R I)⟩
section
variable {X : Cx} {b : Bs} {e e1 e2 tg : Expr} {pos p : Pos} {Φ : Phi} {gv : Nat → D}
theorem yld_lst {c : Cs} {G1 : Hp} {a : Addr} {vs : List V} {ds : List D} (h : G1 a = some (.lst vs)) (r : Reps c G1 vs ds) : Yld c (Itl c.K a) ds G1 := by
  intro b hb i σ H G env g S
  have hs : SqL c.K H a vs := .of (S.ex _ _ (g _ _ h))
  refine ⟨fun hi => ?_, fun hi => ⟨vs, hs, by rw [r.length]; exact hi⟩⟩
  have hiv : i < vs.length := by rw [r.length]; exact hi
  refine ⟨⟨vs, vs[i], hs, by simp [hiv]⟩, fun x H' hy => ?_⟩
  obtain ⟨rfl, hx⟩ := hy
  obtain ⟨v, hv, rv⟩ := r.get (List.getElem?_eq_getElem hi)
  have := hx vs hs
  rw [hv] at this
  cases this
  exact ⟨G, Same.refl G, S, _, List.getElem?_eq_getElem hi, rv.mono g⟩
theorem yld_tup {c : Cs} {G1 : Hp} {a : Addr} {vs : List V} {ds : List D} (h : SqT c.K G1 a vs) (r : Reps c G1 vs ds) : Yld c (Itt c.K a) ds G1 := by
  intro b hb i σ H G env g S
  have hs : SqT c.K H a vs := same_t S.ex (same_t g h)
  refine ⟨fun hi => ?_, fun hi => ⟨vs, hs, by rw [r.length]; exact hi⟩⟩
  have hiv : i < vs.length := by rw [r.length]; exact hi
  refine ⟨⟨vs, vs[i], hs, by simp [hiv]⟩, fun x H' hy => ?_⟩
  obtain ⟨rfl, hx⟩ := hy
  obtain ⟨v, hv, rv⟩ := r.get (List.getElem?_eq_getElem hi)
  have := hx vs hs
  rw [hv] at this
  cases this
  exact ⟨G, Same.refl G, S, _, List.getElem?_eq_getElem hi, rv.mono g⟩
theorem upto_len : ∀ (n : Nat) (lo : Int), (upto lo n).length = n
  | 0, _ => rfl
  | n + 1, lo => by
    unfold upto
    rw [List.length_cons, upto_len n]
theorem upto_get : ∀ (n : Nat) (lo : Int) (i : Nat), i < n → (upto lo n)[i]? = some (lo + i)
  | 0, _, _, h => by omega
  | n + 1, lo, 0, _ => by
    unfold upto
    simp
  | n + 1, lo, i + 1, h => by
    unfold upto
    rw [List.getElem?_cons_succ, upto_get n (lo + 1) i (by omega)]
    congr 1
    omega
theorem yld_rng {c : Cs} {G1 : Hp} {lo : Int} {n : Nat} : Yld c (Itr lo n) ((upto lo n).map D.int) G1 := by
  intro b hb i σ H G env g S
  rw [List.length_map, upto_len]
  refine ⟨fun hi => ⟨hi, fun x H' hy => ?_⟩, fun hi => hi⟩
  obtain ⟨rfl, rfl⟩ := hy
  refine ⟨G, Same.refl G, S, .int (lo + i), ?_, .int _⟩
  rw [List.getElem?_map, upto_get n lo i hi]
  rfl
theorem ji_seq {a : IE} (hK : X.K = b.cs.K) (ha : JE X b e (sem Φ gv a)) : PI X tg e (tI b (semI Φ gv (.seq a))) := by
  refine ((pi_list ha.ev).or (pi_tup ha.ev)).wk fun σ H R ⟨env, G, ds, env', q, S, k⟩ => ?_
  obtain ⟨⟨o, x, w⟩, h1, q⟩ := Option.bind_eq_some_iff.mp q
  simp only at q
  split at q
  · cases q
    refine .inl (use h1 S fun v1 H1 G1 g1 S1 r1 => ?_)
    cases r1 with
    | lst hl r =>
      refine ⟨_, rfl, ⟨_, .of (S1.ex _ _ hl)⟩, ?_⟩
      rw [hK]
      exact k _ H1 G1 g1 S1 (yld_lst hl r)
  · cases q
    refine .inr (use h1 S fun v1 H1 G1 g1 S1 r1 => ?_)
    cases r1 with
    | tup hl r =>
      refine ⟨_, rfl, ⟨_, by rw [hK]; exact SqT.seen S1 hl⟩, ?_⟩
      rw [hK]
      exact k _ H1 G1 g1 S1 (yld_tup hl r)
  · cases q
theorem ji_rng1 {a : IE} (hg : Gl X "range") (hm : X.mg "range" = none) (ha : JE X b e (sem Φ gv a)) : PI X tg (.Call (.Name "range" p) [e] [] pos) (tI b (semI Φ gv (.rng1 a))) := by
  refine (pi_range1 hg hm (pa_cons ha.ev pa_nil (ha.ns _ _)) (ha.ns _ _)).wk fun σ H R ⟨env, G, ds, env', q, S, k⟩ => ?_
  obtain ⟨⟨o, x, w⟩, h1, q⟩ := Option.bind_eq_some_iff.mp q
  refine use h1 S fun v1 H1 G1 g1 S1 r1 => ?_
  simp only at q
  split at q
  · split at q
    · rename_i n hn
      cases q
      cases r1
      exact ⟨n, rfl, by omega, by omega, k _ H1 G1 g1 S1 yld_rng⟩
    · cases q
  · cases q
theorem ji_rng2 {a c : IE} (hg : Gl X "range") (hm : X.mg "range" = none) (ha : JE X b e1 (sem Φ gv a)) (hc : JE X b e2 (sem Φ gv c)) : PI X tg (.Call (.Name "range" p) [e1, e2] [] pos) (tI b (semI Φ gv (.rng2 a c))) := by
  have s2 : starEach [e2] X.env = [(false, eval e2 X.env)] := hc.ns _ _
  have s1 : starEach [e1, e2] X.env = [(false, eval e1 X.env), (false, eval e2 X.env)] := by
    rw [ha.ns, s2]
  refine (pi_range2 hg hm (pa_cons ha.ev (pa_cons hc.ev pa_nil (hc.ns _ _)) (ha.ns _ _)) s1 s2).wk fun σ H R ⟨env, G, ds, env', q, S, k⟩ => ?_
  obtain ⟨⟨o, x, w⟩, h1, q⟩ := Option.bind_eq_some_iff.mp q
  obtain ⟨⟨o2, x2, w2⟩, h2, q⟩ := Option.bind_eq_some_iff.mp q
  refine use h1 S fun v1 H1 G1 g1 S1 r1 => use h2 S1 fun v2 H2 G2 g2 S2 r2 => ?_
  simp only at q
  split at q
  · split at q
    · rename_i hn
      cases q
      cases r1
      cases r2
      exact ⟨_, _, rfl, ⟨by omega, by omega, by omega, by omega⟩, k _ H2 G2 (g1.trans g2) S2 yld_rng⟩
    · cases q
  · cases q
end
end PD
namespace PD
open PySem L2
theorem _root_.L2.PE.any {ι : Type} {p : ι → Prop} {X : Cx} {e : Expr} {t : ι → TE} (h : ∀ i, p i → PE X e (t i)) : PE X e (fun σ H Q => ∃ i, p i ∧ t i σ H Q) := ⟨fun pins s σ H Q I ⟨i, hi, q⟩ => (h i hi).run pins s σ H Q I q⟩
theorem _root_.L2.PTs.any {ι : Type} {p : ι → Prop} {X : Cx} {e : List Expr} {t : ι → TT} (h : ∀ i, p i → PTs X e (t i)) : PTs X e (fun σ H Q => ∃ i, p i ∧ t i σ H Q) := ⟨fun pins s σ H Q I ⟨i, hi, q⟩ => (h i hi).run pins s σ H Q I q⟩
def tAE (c : Cs) (f : FE) : TE := fun σ H Q => ∃ b : Bs, b.cs = c ∧ tEv b f σ H Q
def tAT (c : Cs) (f : Env → Option (Bool × Env)) : TT := fun σ H Q => ∃ b : Bs, b.cs = c ∧ tTt b f σ H Q
theorem wipe_put {is : List Nat} {σ : L2.St} : ∀ {js : List Nat} {vs : List V}, (∀ j ∈ js, j ∈ is) → wipe ((js.zip vs).foldl (fun s p => s.set p.1 (some p.2)) σ) is = wipe σ is
  | [], vs, _ => rfl
  | j :: js, [], _ => rfl
  | j :: js, v :: vs, h => by
    show wipe ((js.zip vs).foldl (fun s p => s.set p.1 (some p.2)) (σ.set j (some v))) is = wipe σ is
    rw [wipe_put fun k hk => h k (List.mem_cons_of_mem _ hk)]
    have hj := h j List.mem_cons_self
    clear h
    induction is with
    | nil => simp at hj
    | cons i is ih =>
      show (wipe (σ.set j (some v)) is).set i none = (wipe σ is).set i none
      by_cases hji : j ∈ is
      · rw [ih hji]
      · have e : j = i := (List.mem_cons.mp hj).elim id fun q => absurd q hji
        subst e
        have com : ∀ (ks : List Nat) (s : L2.St), j ∉ ks → wipe (s.set j (some v)) ks = (wipe s ks).set j (some v) := by
          intro ks
          induction ks with
          | nil => intro s _; rfl
          | cons k ks ih2 =>
            intro s hk
            show (wipe (s.set j (some v)) ks).set k none = ((wipe s ks).set k none).set j (some v)
            rw [ih2 s fun q => hk (List.mem_cons_of_mem _ q)]
            exact List.set_comm _ _ fun q => hk (by rw [← q]; exact List.mem_cons_self)
        rw [com is σ hji, List.set_set]
theorem wipe_twice {is : List Nat} {σ : L2.St} : wipe (wipe σ is) is = wipe σ is := by
  refine List.ext_getElem? fun j => ?_
  by_cases hj : j ∈ is
  · have key : ∀ (ks : List Nat) (s : L2.St), j ∈ ks → (wipe s ks)[j]? = if j < s.length then some none else none := by
      intro ks
      induction ks with
      | nil => intro s h; simp at h
      | cons k ks ih =>
        intro s h
        show ((wipe s ks).set k none)[j]? = _
        by_cases e : k = j
        · subst e
          by_cases hl : k < s.length
          · rw [List.getElem?_set_self (by rw [wipe_length]; exact hl), if_pos hl]
          · rw [List.getElem?_eq_none (by rw [List.length_set, wipe_length]; omega), if_neg hl]
        · rw [List.getElem?_set_ne e]
          exact ih s ((List.mem_cons.mp h).elim (fun q => absurd q.symm e) id)
    rw [key is _ hj, key is _ hj, wipe_length]
  · rw [wipe_ne hj]
theorem unset_is {env : Env} {is : List Nat} (h : is.all (unset env) = true) : ∀ i ∈ is, ∀ c, env[i]? ≠ some (some c) := by
  intro i hi c e
  have := List.all_eq_true.mp h i hi
  unfold unset at this
  rw [e] at this
  cases this
theorem wipe_none {is : List Nat} {σ : L2.St} (h : ∀ i ∈ is, ∀ v, σ[i]? ≠ some (some v)) : wipe σ is = σ := by
  refine List.ext_getElem? fun j => ?_
  induction is with
  | nil => rfl
  | cons i is ih =>
    show ((wipe σ is).set i none)[j]? = _
    by_cases e : i = j
    · subst e
      by_cases hl : i < σ.length
      · rw [List.getElem?_set_self (by rw [wipe_length]; exact hl)]
        cases q : σ[i]? with
        | none => rw [List.getElem?_eq_none_iff] at q; omega
        | some c =>
          cases c with
          | none => rfl
          | some v => exact absurd q (h i List.mem_cons_self v)
      · rw [List.getElem?_eq_none (by rw [List.length_set, wipe_length]; omega), List.getElem?_eq_none (by omega)]
    · rw [List.getElem?_set_ne e]
      exact ih fun k hk => h k (List.mem_cons_of_mem _ hk)
section
variable {X : Cx} {b : Bs} {elt tg iter : Expr} {ifs : List Expr} {scope : Scope} {own : List (Str × Nat)} {pos : Pos} {Φ : Phi} {gv : Nat → D} {t : TGt} {it : IT} {cs : IEs} {e : IE}
def turnC (Φ : Phi) (gv : Nat → D) (t : TGt) (cs : IEs) (e : IE) : D → Env → Option (Option D × Env) := fun x en => (putT t x en).bind fun e1 => ((sems Φ gv cs).t e1).bind fun b =>
  if b.1 then ((sem Φ gv e).ev b.2).map fun q => (some q.2.1, clearAt t.is q.2.2) else some (none, clearAt t.is b.2)
theorem Sat.fro {σ : L2.St} {H G : Hp} {en : Env} (S : Sat b σ H G en) {i : Nat} {v : V} {d : PD.D} (hv : σ[i]? = some (some v)) (r : Rep b.cs G v d) : Sat b σ H G (en.set i (some (.fro, d))) := by
  have hl : i < en.length := by
    rw [S.len]
    exact (List.getElem?_eq_some_iff.mp hv).1
  have ow : ∀ (j : Nat) (f : Fl) (e : PD.D), (en.set i (some (.fro, d)))[j]? = some (some (f, e)) → isOwn f = true → en[j]? = some (some (f, e)) := by
    intro j f e hj hf
    by_cases hij : i = j
    · subst hij
      rw [List.getElem?_set_self hl] at hj
      cases hj
      cases hf
    · rwa [List.getElem?_set_ne hij] at hj
  refine ⟨by rw [List.length_set]; exact S.len, S.ex, S.ex0, S.keep, S.new, S.lents, fun j f e hj => ?_, fun j l f g d1 e1 a hj hl o1 o2 s1 s2 => S.apart j l f g d1 e1 a (ow _ _ _ hj o1) (ow _ _ _ hl o2) o1 o2 s1 s2⟩
  by_cases hij : i = j
  · subst hij
    rw [List.getElem?_set_self hl] at hj
    cases hj
    exact ⟨v, hv, r⟩
  · rw [List.getElem?_set_ne hij] at hj
    exact S.slot j f e hj
theorem Sat.backed {σ : L2.St} {H G : Hp} {H1 G1 : Hp} {e0 : Env} (S1 : Sat b σ H1 G1 e0) (g : Same G1 G) : ∀ {is : List Nat} {en : Env}, Sat b σ H G en → Sat b σ H G (back e0 is en)
  | [], _, S => S
  | i :: is, en, S => by
    unfold back
    refine Sat.backed S1 g (is := is) ?_
    split
    · rename_i d h
      obtain ⟨v, hv, c⟩ := S1.slot i _ _ h
      exact S.fro hv (Rep.mono g c)
    · exact S
theorem back_own {e0 : Env} : ∀ {is : List Nat} {en : Env} {j : Nat} {f : Fl} {e : PD.D}, (back e0 is en)[j]? = some (some (f, e)) → isOwn f = true → en[j]? = some (some (f, e))
  | [], _, _, _, _, h, _ => h
  | i :: is, en, j, f, e, h, o => by
    unfold back at h
    have h2 := back_own (is := is) h o
    split at h2
    · by_cases hij : i = j
      · subst hij
        by_cases hl : i < en.length
        · rw [List.getElem?_set_self hl] at h2
          cases h2
          cases o
        · rw [List.getElem?_eq_none (by rw [List.length_set]; omega)] at h2
          cases h2
      · rwa [List.getElem?_set_ne hij] at h2
    · exact h2
theorem comp_ok {c : Cs} {σ : L2.St} {H1 G1 : Hp} {env1 env' : Env} {ds ys : List D} {J : It} {Q : VK} (hb : b.cs = c) (S1 : Sat b σ H1 G1 env1) (hy : Yld c J ds G1) (hn : ds.length ≤ 1000000)
    (hq : cloop (turnC Φ gv t cs e) ds (clearAt t.is env1) = some (ys, env')) (k : Kon b σ (back env1 t.is env') G1 true (.lst ys) Q) (D : Addr) (hD : H1 D = none) :
    ∃ W : Nat → Nat → Hp → Prop, (∃ m, W 0 m (upd H1 D (.lst []))) ∧ ∀ i m H, W i m H →
      (J.stop i H ∧ Q (.ref D) H) ∨ (J.go i H ∧ ∃ Nx : Hp → Prop, (∀ H', Nx H' → ∃ m', m' < m ∧ W (i + 1) m' H') ∧ ∀ x H', J.yld i H x H' → gT c.K t x (wipe σ t.is) H' fun σ2 H2 => wipe σ2 t.is = wipe σ t.is ∧ tAT c (sems Φ gv cs).t σ2 H2 fun b H3 =>
        if b = true then tAE c (sem Φ gv e).ev σ2 H3 fun y H4 => ∃ acc, H4 D = some (.lst acc) ∧ acc.length < sizeLine ∧ Nx (upd H4 D (.lst (acc ++ [y]))) else Nx H3) := by
  have gD : G1 D = none := S1.ex.free hD
  have g0 : b.G0 D = none := S1.ex0.free gD
  have lD : ∀ q ∈ b.L, q.2 ≠ D := by
    intro q hq' eq
    obtain ⟨o, ho⟩ := S1.lents q hq'
    rw [eq, hD] at ho; cases ho
  obtain ⟨S0, _, h0, n0⟩ := S1.made (o := .lst []) hD
  refine ⟨fun i m H => m = ds.length - i ∧ i ≤ ds.length ∧ ∃ (en : Env) (G : Hp) (acc : List V) (ad os : List PD.D), Same G1 G ∧ Sat b (wipe σ t.is) H G en ∧ H D = some (.lst acc) ∧ Reps c G acc ad ∧ G D = none ∧
    (∀ (i : Nat) (f : Fl) (e : PD.D), en[i]? = some (some (f, e)) → isOwn f = true → (wipe σ t.is)[i]? ≠ some (some (V.ref D))) ∧ acc.length ≤ i ∧ cloop (turnC Φ gv t cs e) (ds.drop i) en = some (os, env') ∧ ad ++ os = ys,
    ⟨ds.length, by simp, Nat.zero_le _, clearAt t.is env1, G1, [], [], ys, Same.refl G1, S0.cleared t.is, upd_same, .nil, gD, fun i f e he hf hs => n0 i f e (clear_at he).1 hf (wipe_some hs).1, Nat.le_refl _, by simpa using hq, rfl⟩, ?_⟩
  rintro i m H ⟨rfl, hi, en, G, acc, ad, os, g, S, hacc, ra, gD', nD, hla, hcl, hys⟩
  by_cases hlt : i < ds.length
  · have A : Aside b G (wipe σ t.is) en D := ⟨gD', h0, lD⟩
    have dr : ds.drop i = ds[i] :: ds.drop (i + 1) := List.drop_eq_getElem_cons hlt
    rw [dr] at hcl
    unfold cloop at hcl
    have Sb : Sat (b.with D (.lst acc)) (wipe σ t.is) H G en := S.into A nD hacc
    obtain ⟨go, yl⟩ := (hy (b.with D (.lst acc)) hb i _ H G en g Sb).1 hlt
    refine .inr ⟨go, fun H' => ∃ (en : Env) (G : Hp) (acc : List V) (ad os : List PD.D), Same G1 G ∧ Sat b (wipe σ t.is) H' G en ∧ H' D = some (.lst acc) ∧ Reps c G acc ad ∧ G D = none ∧
      (∀ (i : Nat) (f : Fl) (e : PD.D), en[i]? = some (some (f, e)) → isOwn f = true → (wipe σ t.is)[i]? ≠ some (some (V.ref D))) ∧ acc.length ≤ i + 1 ∧ cloop (turnC Φ gv t cs e) (ds.drop (i + 1)) en = some (os, env') ∧ ad ++ os = ys,
      fun H' p => ⟨ds.length - (i + 1), by omega, rfl, hlt, p⟩, fun x H' hx => ?_⟩
    obtain ⟨G2, g2, S2, d, hd, rd⟩ := yl x H' hx
    rw [List.getElem?_eq_getElem hlt] at hd
    cases hd
    cases ht : turnC Φ gv t cs e ds[i] en with
    | none => rw [ht] at hcl; cases hcl
    | some r =>
      obtain ⟨o, en2⟩ := r
      rw [ht] at hcl
      simp only at hcl
      cases hc2 : cloop (turnC Φ gv t cs e) (ds.drop (i + 1)) en2 with
      | none => rw [hc2] at hcl; cases hcl
      | some r2 =>
        obtain ⟨os2, en3⟩ := r2
        rw [hc2] at hcl
        simp only [Option.some.injEq, Prod.mk.injEq] at hcl
        obtain ⟨hos, hen⟩ := hcl
        subst hen
        obtain ⟨e1, hp, ht⟩ := Option.bind_eq_some_iff.mp ht
        obtain ⟨⟨tb, e2⟩, ht1, ht⟩ := Option.bind_eq_some_iff.mp ht
        have rd' : Rep (b.with D (.lst acc)).cs G2 x ds[i] := by
          show Rep b.cs G2 x ds[i]
          rw [hb]; exact rd
        have hbw : (b.with D (.lst acc)).cs = c := hb
        have cK : (b.with D (.lst acc)).cs.K = c.K := by rw [hbw]
        rw [← cK]
        refine put_ok S2 hp rd' fun σ2 S3 ⟨vs, hvs, hσ⟩ => ?_
        have hw2 : wipe σ2 t.is = wipe σ t.is := by
          rw [hσ, wipe_put fun j hj => hj, wipe_twice]
        refine ⟨hw2, b.with D (.lst acc), hbw, useT ht1 S3 fun H3 G3 g3 S4 => ?_⟩
        cases tb with
        | true =>
          rw [if_pos rfl] at ht ⊢
          obtain ⟨⟨o4, y4, e4⟩, he4, ht⟩ := Option.map_eq_some_iff.mp ht
          simp only [Prod.mk.injEq] at ht
          obtain ⟨ht1', ht2'⟩ := ht
          subst ht1'
          subst ht2'
          refine ⟨b.with D (.lst acc), hbw, use he4 S4 fun v5 H5 G5 g5 S5 r5 => ?_⟩
          obtain ⟨S6, hD6, A6, n6⟩ := S5.outof h0 g0 lD
          have S7 := S6.cleared t.is
          rw [hw2] at S7
          have n7 : ∀ (i : Nat) (f : Fl) (e : PD.D), (clearAt t.is e4)[i]? = some (some (f, e)) → isOwn f = true → (wipe σ t.is)[i]? ≠ some (some (V.ref D)) := by
            intro j f e' hj hf hs
            obtain ⟨q1, q2⟩ := clear_at hj
            rw [← hw2, wipe_ne q2] at hs
            exact n6 j f e' q1 hf hs
          have r5' : Rep c G5 v5 y4 := by
            have : Rep (b.with D (.lst acc)).cs G5 v5 y4 := r5
            rw [hbw] at this
            exact this
          have rr : Reps c G5 acc ad := ((ra.mono g2).mono g3).mono g5
          refine ⟨acc, hD6, by rw [sizeLine_eq]; omega, clearAt t.is e4, G5, acc ++ [v5], ad ++ [y4], os2, ((g.trans g2).trans g3).trans g5, S7.poke ⟨A6.g, A6.h, A6.l⟩ n7 _, upd_same, rr.app (.cons r5' .nil), A6.g, n7, ?_, hc2, ?_⟩
          · rw [List.length_append, List.length_cons, List.length_nil]
            omega
          · rw [List.append_assoc, ← hys, ← hos]
            rfl
        | false =>
          rw [if_neg Bool.false_ne_true] at ht ⊢
          simp only [Option.some.injEq, Prod.mk.injEq] at ht
          obtain ⟨ht1', ht2'⟩ := ht
          subst ht1'
          subst ht2'
          obtain ⟨S6, hD6, A6, n6⟩ := S4.outof h0 g0 lD
          have S7 := S6.cleared t.is
          rw [hw2] at S7
          have n7 : ∀ (i : Nat) (f : Fl) (e : PD.D), (clearAt t.is e2)[i]? = some (some (f, e)) → isOwn f = true → (wipe σ t.is)[i]? ≠ some (some (V.ref D)) := by
            intro j f e' hj hf hs
            obtain ⟨q1, q2⟩ := clear_at hj
            rw [← hw2, wipe_ne q2] at hs
            exact n6 j f e' q1 hf hs
          refine ⟨clearAt t.is e2, G3, acc, ad, os2, (g.trans g2).trans g3, S7, hD6, (ra.mono g2).mono g3, A6.g, n7, Nat.le_succ_of_le hla, hc2, ?_⟩
          rw [← hys, ← hos]
  · have e0 : i = ds.length := by omega
    subst e0
    rw [List.drop_length] at hcl
    cases hcl
    rw [List.append_nil] at hys
    subst hys
    have Su := S1.backed g (is := t.is) S.unwiped
    refine .inl ⟨?_, ?_⟩
    · exact (hy b hb _ _ H G env' g S).2 (Nat.le_refl _)
    · refine k _ H G g Su ⟨D, rfl, gD', h0, ⟨acc, hacc, by rw [hb]; exact ra⟩, fun i f e he hf hs => ?_⟩
      have he := back_own he hf
      obtain ⟨v, hv, cc⟩ := S.slot i f e he
      have q := (wipe_some hv).1
      rw [hs] at q
      cases q
      exact nD i f e he hf hv
theorem je_comp {c : Cs} (hK : X.K = c.K) (hb : b.cs = c) (hc : X.calm = true) (hN : X.N.Nodup) (hi : PI X tg iter (tI b (semI Φ gv it))) (ok : BlkOk X.N X.env.scope scope own) (ho : own.map (·.2) = t.is)
    (hg : ∀ (s : Shared) (H : Hp) (C : Addr) (cl : List (Str × Addr)) (fp : List Addr), PG (X.blk s H scope (compEnvC scope cl C X.env) fp) tg (gT c.K t))
    (ht : ∀ (s : Shared) (H : Hp) (C : Addr) (cl : List (Str × Addr)) (fp : List Addr), PTs (X.blk s H scope (compEnvC scope cl C X.env) fp) ifs (tAT c (sems Φ gv cs).t))
    (he : ∀ (s : Shared) (H : Hp) (C : Addr) (cl : List (Str × Addr)) (fp : List Addr), PE (X.blk s H scope (compEnvC scope cl C X.env) fp) elt (tAE c (sem Φ gv e).ev)) (hs : ∀ x, foldedSetIterable iter X.env x = pure x) :
    PE X (.ListComp elt [⟨tg, iter, ifs, 0⟩] scope pos) (tEv b (sem Φ gv (.comp t it cs e)).ev) := by
  refine (pe_lc hc hN hi ok hg ht he hs).wk fun σ H Q ⟨env, G, own', d, env', q, S, k⟩ => ?_
  obtain ⟨⟨ds, env1⟩, h1, q⟩ := Option.bind_eq_some_iff.mp q
  simp only at q
  split at q
  · rename_i hn
    obtain ⟨⟨ys, env2⟩, h2, h3⟩ := Option.map_eq_some_iff.mp q
    cases h3
    refine ⟨env, G, ds, env1, h1, S, fun J H1 G1 g1 S1 hy D hD => ?_⟩
    rw [ho]
    exact comp_ok hb S1 (by rw [← hb]; exact hy) hn h2 (k.step g1) D hD
  · cases q
end
/-! ### xs[::-1] -/
section
open PySem.Spec PyProof.Rows HT PySem.MeetsSeq PySem.MeetsSeq2 PySem.MeetsSeq3
section
variable {prog : Program} {w : World} {A : Around} {E : Value → Shared → Prop} {s : Shared}
theorem places_back (n : Nat) : Builtin.Slice.sliceAdjust none none (-1) (n : Int) = ((n : Int) - 1, -1) ∧ Builtin.Slice.slicePlaces ((n : Int) - 1) (-1) (-1) = n := by
  refine ⟨rfl, ?_⟩
  unfold Builtin.Slice.slicePlaces
  have h1 : ¬ ((-1 : Int) > 0) := by omega
  rw [if_neg h1]
  by_cases h : (n : Int) - 1 > -1
  · rw [if_pos h, show (- -1 : Int) = 1 by decide, Int.ediv_one]
    omega
  · rw [if_neg h]
    omega
theorem fm_congr {α β : Type} {f g : α → Option β} : ∀ {l : List α}, (∀ x ∈ l, f x = g x) → l.filterMap f = l.filterMap g
  | [], _ => rfl
  | x :: r, h => by
    rw [List.filterMap_cons, List.filterMap_cons, h x List.mem_cons_self, fm_congr fun y hy => h y (List.mem_cons_of_mem _ hy)]
theorem pick_back (xs : Array Value) : ((List.range xs.size).filterMap fun (m : Nat) => xs[(((xs.size : Int) - 1) + (m : Int) * (-1)).toNat]?).toArray = xs.toList.reverse.toArray := by
  have e : (List.range xs.size).filterMap (fun (m : Nat) => xs[(((xs.size : Int) - 1) + (m : Int) * (-1)).toNat]?) = ((List.range xs.size).map fun k => xs.size - 1 - k).filterMap (xs[·]?) := by
    rw [List.filterMap_map]
    refine fm_congr fun m hm => ?_
    have hm' := List.mem_range.mp hm
    show xs[(((xs.size : Int) - 1) + (m : Int) * (-1)).toNat]? = xs[xs.size - 1 - m]?
    congr 1
    omega
  rw [e, PySem.W.krv_range, List.filterMap_reverse, PySem.W.krv_all]
theorem tuple_back {t sl : Addr} {items : Array Value} {vs : Value} {Q : Value → Shared → Prop} (ht : IsTup s.heap t items) (hs : s.heap.IsSliceOf sl .none .none vs) (ps : IsPart vs (some (-1)))
    (h : Q (.ref s.heap.objs.size) { s with heap := s.heap.push { cls := .type "tuple", data := .seq items.toList.reverse.toArray } }) (hsz : items.size ≤ sizeLine) : wpAny (model prog w) A (getItem (.ref t) (.ref sl)) Q E s := by
  have fits : sizeOk (.seq items.toList.reverse.toArray) := by
    show items.toList.reverse.toArray.size ≤ sizeLine
    rw [List.size_toArray, List.length_reverse, Array.length_toList]
    exact hsz
  obtain ⟨os, hos, hcs, hds⟩ := id hs
  have hTs : s.TypeIs (.ref sl) "slice" := ⟨os, hos, hcs⟩
  unfold getItem
  (try with_reducible refine wpAny_holding ?_)
  (first
    | refine wpAny_bind (wpAny_pure ?_)
    | skip)
  refine wpAny_bind (wpAny_sequenceKey ht.typeIs (by decide) ?_)
  refine wpAny_bind (wpAny_callSpecial?_slot (name := Str.ofString "__getitem__") ht.typeIs PyProof.Rows.slot_tuple_getitem
    (wpAny_call_entry PyProof.Rows.slot_tuple_getitem ht.typeIs PyProof.Rows.entry_tuple_getitem ?_ (PyProof.Rows.args_tuple_getitem _ _)))
  show wpAny _ _ (Builtin.Tuple.tupleItemsOf (.ref t) >>= _) _ _ s
  refine wpAny_bind (PyProof.Rows.tupleItemsOf_ ht ?_)
  refine wpAny_bind (wpAny_typeOf hTs ?_)
  rw [if_pos (by decide)]
  obtain ⟨a1, a2⟩ := places_back items.size
  refine wpAny_bind ?_
  unfold Builtin.Slice.sliceApplied Builtin.Slice.sliceFields
  refine wpAny_bind (wpAny_bind (wpAny_field hos hds (x := .none) rfl (wpAny_bind (wpAny_field hos hds (x := .none) rfl (wpAny_bind (wpAny_field hos hds (x := vs) rfl (wpAny_pure ?_)))))))
  refine wpAny_bind (slicePart_ ps ?_)
  show wpAny _ _ (if ((-1 : Int) == 0) = true then _ else _) _ _ s
  rw [if_neg (by decide)]
  refine wpAny_bind (slicePart_ .none (wpAny_bind (slicePart_ .none (wpAny_bind (wpAny_pure ?_)))))
  show wpAny _ _ (match Builtin.Slice.sliceAdjust none none (-1) (items.size : Int) with | (lo, hi) => pure (lo, (-1 : Int), Builtin.Slice.slicePlaces lo hi (-1))) _ _ s
  rw [a1]
  show wpAny _ _ (pure ((items.size : Int) - 1, (-1 : Int), Builtin.Slice.slicePlaces ((items.size : Int) - 1) (-1) (-1))) _ _ s
  rw [a2]
  refine wpAny_pure ?_
  show wpAny _ _ (if (((items.size : Int) - 1 == 0 && (-1 : Int) == 1 && items.size == items.size) = true) then _ else _) _ _ s
  rw [if_neg (by rw [show ((-1 : Int) == 1) = false by decide, Bool.and_false, Bool.false_and]; exact Bool.false_ne_true), pick_back]
  first
    | exact wpAny_bind (m := Builtin.Tuple.tupleExact _) (wpAny_newObj_type (wpAny_pure ⟨_, rfl, wpAny_pure h⟩) fits)
    | exact wpAny_bind (m := Builtin.Tuple.tupleExact _) (wpAny_newObj_type (wpAny_bind (wpAny_pure (wpAny_pure ⟨_, rfl, wpAny_pure h⟩))) fits)
    | exact wpAny_bind (wpAny_bind (m := Builtin.Tuple.tupleExact _) (wpAny_newObj_type (wpAny_pure (wpAny_pure ⟨_, rfl, wpAny_pure h⟩)) fits))
    | exact wpAny_bind (wpAny_bind (m := Builtin.Tuple.tupleExact _) (wpAny_newObj_type (wpAny_pure ⟨_, rfl, wpAny_pure h⟩) fits))
end
variable {X : Cx} {e : Expr} {te : TE}
def tRevT (K : PySem.W.Frag) (te : TE) : TE := fun σ H Q => te σ H fun x H1 => ∃ a xs, x = .ref a ∧ SqT K H1 a xs ∧ ∀ p, H1 p = none → Q (.ref p) (upd H1 p (.tup xs.reverse))
theorem pe_revT {k : Nat} {p1 p2 p3 pos : Pos} (he : PE X e te) : PE X (.Subscript e (.Slice none none (some (.UnaryOp .USub (.Constant (.int 1) k p1) p2)) p3) pos) (tRevT X.K te) := by
  refine ⟨fun pins s σ H Q I h => Subscript_ (thn (he.run pins s σ H _ I h) fun v s1 ⟨x, H1, I1, r1, a, xs, ex, hx, q⟩ => ?_)⟩
  subst ex
  cases r1
  have stp : PO X (some (.UnaryOp .USub (.Constant (.int 1) k p1) p2)) (tPart (tUn (rU fun i => .int (-i)) (tC (.int 1)))) := po_some (pe_un un_neg pe_int)
  refine wpAny_Slice (thn (po_none.run pins s1 σ H1 (fun o H2 => o = none ∧ H2 = H1) I1 ⟨rfl, rfl⟩) fun vl s2 ⟨l, H2, I2, pl, el, e2⟩ => ?_)
  subst el e2
  refine thn (po_none.run pins s2 σ H2 (fun o H3 => o = none ∧ H3 = H2) I2 ⟨rfl, rfl⟩) fun vu s3 ⟨u, H3, I3, pu, eu, e3⟩ => ?_
  subst eu e3
  refine thn (stp.run pins s3 σ H3 (fun o H4 => o = some (-1) ∧ H4 = H3) I3 ⟨1, rfl, -1, rfl, rfl, rfl⟩) fun vs s4 ⟨o, H4, I4, ps, eo, e4⟩ => ?_
  subst eo e4
  have I5 : Inv X pins σ H4 { s4 with heap := s4.heap.push { cls := .type "slice", data := .fields #[vl, vu, vs] } } := I4.kept (t' := s4.toks) fun b ob q => Heap.get?_push_of_some _ q
  obtain ⟨its, r, ht, hz⟩ := I5.tuple hx
  have hlen := r.length
  cases pl
  cases pu
  show wpAny (model X.prog X.w) X.A (subscriptTail e (.Slice none none (some (.UnaryOp .USub (.Constant (.int 1) k p1) p2)) p3) (.ref a) (.ref s4.heap.objs.size)) (EP X pins σ Q) X.xe { s4 with heap := s4.heap.push { cls := .type "slice", data := .fields #[.none, .none, vs] } }
  refine tail_any (ops := [.ref a, .ref s4.heap.objs.size]) ht.typeIs (PyProof.Rows.slot_tuple_getitem.lookup) ?_ (by with_unfolding_all rfl)
  refine tuple_back ht (Heap.IsSliceOf.new _ .none .none vs) ps ?_ (by rw [List.size_toArray]; omega)
  refine ⟨.ref _, _, I5.laid (t' := s4.toks) (o := .tup xs.reverse) (fun b ob q => Heap.get?_push_of_some _ q) (Nat.le_refl _) ?_, rfl, q _ (I5.hok.fresh (Nat.le_refl _))⟩
  exact ⟨by rw [List.length_reverse]; exact hz, _, r.reverse, IsTup.new _ _⟩
end
section
variable {X : Cx} {b : Bs} {e : Expr} {pos : Pos} {Φ : Phi} {gv : Nat → D}
theorem je_slR {a : IE} {k : Nat} {p1 p2 p3 : Pos} (hK : X.K = b.cs.K) (ha : JE X b e (sem Φ gv a)) : JE X b (.Subscript e (.Slice none none (some (.UnaryOp .USub (.Constant (.int 1) k p1) p2)) p3) pos) (sem Φ gv (.slR a)) := by
  have both : PE X (.Subscript e (.Slice none none (some (.UnaryOp .USub (.Constant (.int 1) k p1) p2)) p3) pos) (fun σ H Q => tRevL X.K (tEv b (sem Φ gv a).ev) σ H Q ∨ tRevT X.K (tEv b (sem Φ gv a).ev) σ H Q) :=
    ⟨fun pins s σ H Q I q => q.elim ((pe_revL ha.ev).run pins s σ H Q I) ((pe_revT ha.ev).run pins s σ H Q I)⟩
  refine JE.of hK (both.wk fun σ H Q ⟨env, G, own, d, env', q, S, kk⟩ => ?_) bare_sub
  obtain ⟨⟨o, x, w⟩, h1, q⟩ := Option.bind_eq_some_iff.mp q
  obtain ⟨d', h2, h3⟩ := Option.map_eq_some_iff.mp q
  cases h3
  unfold revD at h2
  simp only at h2
  split at h2
  · cases h2
    refine .inl (use h1 S fun v1 H1 G1 g1 S1 r1 => ?_)
    cases r1 with
    | lst hl r => exact ⟨_, _, rfl, .of (S1.ex _ _ hl), fun p hp => (kk.step g1).lstN S1 r.rev hp⟩
  · cases h2
    refine .inr (use h1 S fun v1 H1 G1 g1 S1 r1 => ?_)
    cases r1 with
    | tup ht r => exact ⟨_, _, rfl, by rw [hK]; exact SqT.seen S1 ht, fun p hp => (kk.step g1).tupN S1 r.rev hp⟩
  · cases h2
end
end PD
/-! max(xs, default=d); sorted(set(xs)). -/
namespace PD
open PySem L2
theorem maxI_fold : ∀ (l : List Int) (m : Int), maxI m l = l.foldl max m
  | [], m => rfl
  | x :: r, m => by
    show maxI (if m < x then x else m) r = r.foldl max (max m x)
    rw [maxI_fold r]
    congr 1
    by_cases h : m < x
    · rw [if_pos h]; omega
    · rw [if_neg h]; omega
theorem alike_ints (ns : List Int) : PySem.W.AlikeAll (ns.map PyData.int) := by
  refine ⟨fun x hx y hy => ?_, fun x hx => ?_⟩
  · obtain ⟨i, _, rfl⟩ := List.mem_map.mp hx
    obtain ⟨j, _, rfl⟩ := List.mem_map.mp hy
    rfl
  · obtain ⟨i, _, rfl⟩ := List.mem_map.mp hx
    exact fun z => nomatch z
def rMaxDf (K : PySem.W.Frag) : List V → List V → Hp → VK → Prop := fun vs zs H Q => ∃ (a : Addr) (ns : List Int) (d : Int), vs = [V.ref a] ∧ zs = [.int d] ∧ SqL K H a (ns.map V.int) ∧ Q (.int (match ns with | [] => d | m :: r => maxI m r)) H
theorem cr_maxDf {X : Cx} (hc : X.calm = true) (hu : X.A.units + 600 < cLine) : CallRK X (.builtin "max") [Str.ofString "default"] (rMaxDf X.K) := by
  intro pins s σ H vs zs us ws Q I r rz h
  obtain ⟨a, ns, d, rfl, rfl, hs, q⟩ := h
  obtain rfl := Vals.ref1 r
  obtain ⟨w1, rfl, t, e1⟩ := vals1 rz
  subst e1
  obtain ⟨its, rv, pl, hz⟩ := I.list hs
  obtain ⟨as, hr⟩ := Dp.readsAll I (ns.map PyData.int) _ its dp_scr rv
  refine PySem.W.max_list_default (I.ok.hd hc) pl.isList (vs := its.toArray) (as := as) (xs := ns.map PyData.int) (by simpa using hr) (alike_ints ns) ?_ (fun hn h' tk k => ?_) fun y ys i v h' tk bs hy hv rr k => ?_
  · rw [(lay_scr ns).2]; omega
  · have e : ns = [] := by simpa using hn
    subst e
    exact ⟨.int d, H, I.kept (t' := tk) k, ⟨_, rfl⟩, q⟩
  · cases ns with
    | nil => simp at hy
    | cons m l =>
      rw [List.map_cons] at hy
      cases hy
      rw [PySem.W.maxD_ints, ← maxI_fold] at rr
      cases rr
      exact ⟨.int _, H, I.kept (t' := tk) k, ⟨_, rfl⟩, q⟩
section
variable {X : Cx} {b : Bs} {e e2 : Expr} {pos p kp : Pos} {Φ : Phi} {gv : Nat → D}
theorem je_maxD {a c : IE} (hK : X.K = b.cs.K) (hc : X.calm = true) (hu : X.A.units + 600 < cLine) (hg : Gl X "max") (hm : X.mg "max" = none) (ha : JE X b e (sem Φ gv a)) (hd : JE X b e2 (sem Φ gv c)) :
    JE X b (.Call (.Name "max" p) [e] [⟨some (Str.ofString "default"), e2, kp⟩] pos) (sem Φ gv (.maxD a c)) := by
  have pk : PK X [⟨some (Str.ofString "default"), e2, kp⟩] _ := pk_cons hd.ev pk_nil
  refine JE.of hK ((pe_callBK (cr_maxDf hc hu) hg hm (bi_blt .max) (pa_cons ha.ev pa_nil (ha.ns _ _)) pk (by decide) (by decide) (by rw [ha.ns]; rfl) (by rw [ha.ns]; rfl) rfl rfl rfl).wk fun σ H Q ⟨env, G, own, d, env', q, S, k⟩ => ?_) bare_call
  obtain ⟨⟨o1, x1, env1⟩, h1, q⟩ := Option.bind_eq_some_iff.mp q
  obtain ⟨⟨o2, x2, env2⟩, h2, q⟩ := Option.bind_eq_some_iff.mp q
  refine use h1 S fun v1 H1 G1 g1 S1 r1 => use h2 S1 fun v2 H2 G2 g2 S2 r2 => ?_
  simp only at q
  split at q
  · rename_i xs dd _
    obtain ⟨ns, h3, h4⟩ := Option.map_eq_some_iff.mp q
    cases h4
    cases r2
    cases r1 with
    | lst hl rr =>
      have ei := rr.toInts h3
      subst ei
      refine ⟨_, ns, dd, rfl, rfl, ?_, ?_⟩
      · rw [hK]
        exact .of (S2.ex _ _ (g2 _ _ hl))
      · exact k _ H2 G2 (g1.trans g2) S2 (.int _)
  · cases q
end
/-! ### sorted(set(xs)) -/
section
open PySem.Spec PyProof.Rows
variable {P : Program} {w : World} {A : Around} {E : Value → Shared → Prop} {s : Shared}
/-- a set that was just made -/
abbrev eset (w : World) : Obj := { cls := .type "set", dict := none, data := .set #[] 0 (.fresh 0 0 (!w.params.followText "set-order")) }
abbrev hset (w : World) (h : Heap) : Heap := h.push (eset w)
set_option maxHeartbeats 4000000 in
theorem call_set_ints {l : Addr} {items : Array Value} (ns : List Int) {Q : Value → Shared → Prop} (hh : A.handled = none) (hl : s.heap.IsList l items) (hit : IntsAre items.toList ns) (hb : ns.length + 1 < scanBound)
    (fin : ∀ (h' : Heap) (tk c : Nat), SetR w h' s.heap.objs.size (fun j => decide (j ∈ ns)) c → c ≤ ns.length → (∀ a o, s.heap.get? a = some o → h'.get? a = some o) → Q (.ref s.heap.objs.size) { s with heap := h', toks := tk }) :
    wpAny (model P w) A (call (.type "set") [.ref l]) Q E s := by
  have hsz : items.size = ns.length := by
    have z := IntsAre.length hit
    rwa [Array.length_toList] at z
  obtain ⟨c, tl, hmro⟩ := PySem.F.called_set.mro
  have f1 := PySem.F.called_set.made
  have f2 := PySem.F.called_set.sub
  have f3 := PySem.F.called_set.notType
  have f4 := PySem.F.called_set.canCreate
  have f5 := PySem.F.typeCall_set_1 (.ref l)
  refine wpAny_call (codeAny_of_tree (show wpAny _ _ (callAny (.type "set") _) _ _ _ from wpAny_pure ⟨Code.quiet_builtin _ (by decide +kernel), codeAny_builtin PySem.F.entry_type_call ?_⟩))
  rw [Around.under_plain (weight_type_call_type "set" [.ref l] []) rfl]
  repeat (any_goals (first | assumption | wp_step))
  refine codeAny_mono (code_set_led1 (.ref l) (E := E) (Q₁ := fun o s1 => o = .ref s.heap.objs.size ∧ s1 = { s with heap := hset w s.heap }) ⟨rfl, rfl⟩) fun r s1 hr => ?_
  rcases r with e | fl
  · exact hr
  rcases fl with _ | _ | _ | obj
  all_goals first | exact hr.elim | skip
  obtain ⟨rfl, rfl⟩ := hr
  have at0 : (hset w s.heap).get? s.heap.objs.size = some (eset w) := Heap.get?_push_size _ rfl
  have ty0 : Shared.TypeIs { s with heap := hset w s.heap } (.ref s.heap.objs.size) "set" := ⟨_, at0, rfl⟩
  have g1 := PySem.F.called_set.init.lookup
  have g2 := PySem.F.called_set.init.bind (.ref s.heap.objs.size)
  repeat (any_goals (first | assumption | wp_step))
  have old : ∀ a, a < s.heap.objs.size → a ∉ [s.heap.objs.size, (hset w s.heap).objs.size] := by
    intro a ha hm
    rw [Heap.size_push] at hm
    simp only [List.mem_cons, List.not_mem_nil, or_false] at hm
    omega
  refine codeAny_mono (codeAny_call_builtin (R := wants (fun r s2 => r = .none ∧ ∃ h' tk c, s2 = { s with heap := h', toks := tk } ∧ SetR w h' s.heap.objs.size (fun j => decide (j ∈ ns)) c ∧ c ≤ ns.length ∧ ∀ a o, s.heap.get? a = some o → h'.get? a = some o) E)
    PySem.F.called_set.init.plain PySem.F.entry_set_init (check_set_init_1 ty0 ?_)) fun r2 s2 hr2 => ?_
  · obtain ⟨⟨oc, od, odt, osl⟩, ho, hc, nl, hd⟩ := hl
    dsimp only at hc hd
    subst hc hd
    have ho1 : (hset w s.heap).get? l = some { cls := .type "list", dict := od, data := .seq items nl, slots := osl } := Heap.get?_push_of_some _ ho
    have k1 := PySem.F.sub_list_set
    have k2 := PySem.F.sub_list_frozenset
    have k3 : (Value.type "list" == Value.type "dict") = false := by decide
    have hl1 : (hset w s.heap).IsList l items := ⟨_, ho1, rfl, nl, rfl⟩
    unfold Builtin.«set.__init__» noKeywords Builtin.Frozenset.updateFrom
    generalize hPI : pyIter = PI
    wp_walk
    subst hPI
    refine wpAny_pyIter_list hl1 (wpAny_bind (wpAny_runValue ?_))
    have lt0 : l < s.heap.objs.size := Heap.lt_size ho
    have h3 : A.in1.in1.in1.handled = none := by simp [hh]
    have e1 : (hset w s.heap).objs.size = s.heap.objs.size + 1 := Heap.size_push ..
    have ne1 : l ≠ (hset w s.heap).objs.size := by
      rw [e1]
      exact Nat.ne_of_lt (Nat.lt_succ_of_lt lt0)
    have nin : s.heap.objs.size ∉ [(hset w s.heap).objs.size, l] := by
      rw [e1]
      simp only [List.mem_cons, List.not_mem_nil, or_false, not_or]
      exact ⟨Nat.ne_of_lt (Nat.lt_succ_self _), Nat.ne_of_gt lt0⟩
    have val : ∀ (i : Nat) (v : Value), items[i]? = some v → ∃ k t, ns[i]? = some k ∧ v = .int k t := by
      intro i v hv
      have hi : i < ns.length := hsz ▸ (Array.getElem?_eq_some_iff.mp hv).1
      obtain ⟨t, e⟩ := IntsAre.int_at hit i v (by rw [Array.getElem?_toList]; exact hv)
      have en : ns[i]? = some (ns.getD i 0) := by
        rw [List.getD_eq_getElem?_getD, List.getElem?_eq_getElem hi]
        rfl
      exact ⟨_, t, en, e⟩
    have put0 : ((hset w s.heap).push { cls := .type "list_iterator", data := .fields #[.ref l, .int 0 0] }).get? s.heap.objs.size = some (eset w) := Heap.get?_push_of_some _ at0
    refine set_update_ints ((Walks.list h3 _ l ne1 items).toS) s.heap.objs.size nin ns hsz hb val (items.size - 0) 0 _ (by omega) (Nat.zero_le _) ⟨⟨_, Heap.get?_push_size _ rfl, rfl, rfl⟩, hl1.push _⟩ ⟨0, Nat.le_refl 0, setR_new_at put0⟩ ?_
    rintro ⟨h', gg, dd, tk', os'⟩ c' hm hc' hS'
    have eg : gg = s.gens := hm.gens
    have ed : dd = s.drawn := hm.drawn
    have eo : os' = s.os := hm.os
    subst eg ed eo
    show wpAny _ _ _ _ _ _
    refine wpAny_pure ?_
    show wpAny _ _ (ret Value.none) _ _ _
    refine wpAny_pure ⟨rfl, h', tk', c', rfl, hS', by omega, fun a o e => ?_⟩
    have z := old a (Heap.lt_size e)
    exact hm.heap a o z (Heap.get?_push_of_some _ (Heap.get?_push_of_some _ e))
  · rcases r2 with e | fl
    · exact hr2
    rcases fl with _ | _ | _ | r
    all_goals first | exact hr2.elim | skip
    obtain ⟨rfl, h', tk, c', rfl, hS', hc', hk⟩ := hr2
    repeat (any_goals (first | assumption | wp_step))
    exact fin _ _ _ hS' hc' hk
end
/-! rising, each once -/
theorem insU_mem {x y : Int} : ∀ {l : List Int}, y ∈ insU x l ↔ y = x ∨ y ∈ l
  | [] => by simp [insU]
  | z :: l => by
    unfold insU
    by_cases h : x < z
    · rw [if_pos h]; simp
    · rw [if_neg h]
      by_cases e : x = z
      · rw [if_pos e]; subst e; simp
      · rw [if_neg e, List.mem_cons, insU_mem, List.mem_cons]
        constructor
        · rintro (h | h | h)
          · exact .inr (.inl h)
          · exact .inl h
          · exact .inr (.inr h)
        · rintro (h | h | h)
          · exact .inr (.inl h)
          · exact .inl h
          · exact .inr (.inr h)
theorem insU_up {x : Int} : ∀ {l : List Int}, l.Pairwise (· < ·) → (insU x l).Pairwise (· < ·)
  | [], _ => by simp [insU]
  | z :: l, h => by
    have h' := List.pairwise_cons.mp h
    unfold insU
    by_cases c : x < z
    · rw [if_pos c]
      refine List.pairwise_cons.mpr ⟨fun y hy => ?_, h⟩
      rcases List.mem_cons.mp hy with rfl | hy
      · exact c
      · exact Int.lt_trans c (h'.1 y hy)
    · rw [if_neg c]
      by_cases e : x = z
      · rw [if_pos e]; exact h
      · rw [if_neg e]
        refine List.pairwise_cons.mpr ⟨fun y hy => ?_, insU_up h'.2⟩
        rcases insU_mem.mp hy with rfl | hy
        · omega
        · exact h'.1 y hy
theorem sortU_up : ∀ l : List Int, (sortU l).Pairwise (· < ·)
  | [] => .nil
  | x :: l => insU_up (sortU_up l)
theorem sortU_mem {y : Int} : ∀ {l : List Int}, y ∈ sortU l ↔ y ∈ l
  | [] => Iff.rfl
  | x :: l => by
    show y ∈ insU x (sortU l) ↔ _
    rw [insU_mem, sortU_mem, List.mem_cons]
theorem up_one : ∀ {l m : List Int}, l.Pairwise (· < ·) → m.Pairwise (· < ·) → (∀ k, k ∈ l ↔ k ∈ m) → l = m
  | [], [], _, _, _ => rfl
  | [], y :: m, _, _, h => absurd ((h y).mpr List.mem_cons_self) (by simp)
  | x :: l, [], _, _, h => absurd ((h x).mp List.mem_cons_self) (by simp)
  | x :: l, y :: m, h1, h2, h => by
    have p := List.pairwise_cons.mp h1
    have q := List.pairwise_cons.mp h2
    have e : x = y := by
      have a := (h x).mp List.mem_cons_self
      have c := (h y).mpr List.mem_cons_self
      rcases List.mem_cons.mp a with e | a
      · exact e
      · rcases List.mem_cons.mp c with e | c
        · exact e.symm
        · have := q.1 x a
          have := p.1 y c
          omega
    subst e
    refine congrArg (x :: ·) (up_one p.2 q.2 fun k => ⟨fun hk => ?_, fun hk => ?_⟩)
    · rcases List.mem_cons.mp ((h k).mp (List.mem_cons_of_mem _ hk)) with rfl | z
      · have := p.1 k hk; omega
      · exact z
    · rcases List.mem_cons.mp ((h k).mpr (List.mem_cons_of_mem _ hk)) with rfl | z
      · have := q.1 k hk; omega
      · exact z
def rSetLI (K : PySem.W.Frag) (w : World) : List V → Hp → VK → Prop := fun xs H Q => ∃ (l : Addr) (ns : List Int), xs = [V.ref l] ∧ SqL K H l (ns.map V.int) ∧ ns.length < 64 ∧
  ∀ (p : Addr) (c : Nat), H p = none → c < 64 → Q (.ref p) (upd H p (SetO w p (fun j => decide (j ∈ ns)) c))
theorem cr_setLI {X : Cx} (hc : X.calm = true) : CallR X (.type "set") (rSetLI X.K X.w) := by
  intro pins s σ H vs us Q I r h
  obtain ⟨l, ns, rfl, hs, hn, q⟩ := h
  obtain rfl := Vals.ref1 r
  obtain ⟨its, rv, pl, hz⟩ := I.list hs
  refine call_set_ints ns (I.ok.hd hc) pl.isList (by simpa using rv.ints) (by unfold scanBound; omega) fun h' tk c R hcn k => ?_
  exact ⟨.ref _, upd H s.heap.objs.size (SetO X.w s.heap.objs.size (fun j => decide (j ∈ ns)) c), I.laid (t' := tk) (fun b u e => k b u e) (Nat.le_refl _) (setO_new R), rfl, q _ c (I.hok.fresh (Nat.le_refl _)) (by omega)⟩
section
variable {X : Cx} {b : Bs} {e : Expr} {pos p p2 pos2 : Pos} {Φ : Phi} {gv : Nat → D}
theorem je_sset {a : IE} (hK : X.K = b.cs.K) (hc : X.calm = true) (hg : Gl X "sorted") (hm : X.mg "sorted" = none) (hg2 : Gl X "set") (hm2 : X.mg "set" = none) (ha : JE X b e (sem Φ gv a)) :
    JE X b (.Call (.Name "sorted" p) [.Call (.Name "set" p2) [e] [] pos2] [] pos) (sem Φ gv (.sset a)) := by
  have ps := pe_callTy (p := p2) (pos := pos2) (cr_setLI hc) hg2 hm2 (bi_blt .set) (pa_cons ha.ev pa_nil (ha.ns _ _)) (by decide) (by decide) (ha.ns _ _) rfl
  refine JE.of hK ((pe_callB (p := p) (pos := pos) (cr_sortedSet hc) hg hm (bi_blt .sorted) (pa_cons ps pa_nil) (by decide) (by decide) rfl rfl).wk fun σ H Q ⟨env, G, own, d, env', q, S, k⟩ => ?_) bare_call
  obtain ⟨⟨o1, x1, env1⟩, h1, q⟩ := Option.bind_eq_some_iff.mp q
  refine use h1 S fun v1 H1 G1 g1 S1 r1 => ?_
  simp only at q
  split at q
  · obtain ⟨ns, h3, h4⟩ := Option.bind_eq_some_iff.mp q
    split at h4
    · rename_i hlen
      cases h4
      cases r1 with
      | lst hl rr =>
        have ei := rr.toInts h3
        subst ei
        refine ⟨_, ns, rfl, by rw [hK]; exact .of (S1.ex _ _ hl), hlen, fun t c ht hc64 => ?_⟩
        obtain ⟨g2, S2⟩ := S1.laid (o := SetO X.w t (fun j => decide (j ∈ ns)) c) ht
        refine ⟨t, _, c, rfl, upd_same, hc64, fun ms t2 hup hmem _ ht2 => ?_⟩
        have em : ms = sortU ns := up_one hup (sortU_up ns) fun j => by
          rw [hmem, sortU_mem, decide_eq_true_iff]
        subst em
        exact (Kon.step k (g1.trans g2)).lstN S2 (.ofInts _) ht2
    · cases h4
  · cases q
end
end PD
/-! Dicts written out with sixteen pairs and more. -/
namespace PD
open PySem PySem.Spec PyProof.Rows L2
section
variable {X : Cx} {pos : Pos}
inductive PPL (X : Cx) : List Expr → List Expr → List (TE × TE) → Prop where
  | nil : PPL X [] [] []
  | cons {k v : Expr} {ks vs : List Expr} {tk tv : TE} {trs : List (TE × TE)} : PE X k tk → PE X v tv → PPL X ks vs trs → PPL X (k :: ks) (v :: vs) ((tk, tv) :: trs)
def tPutL (p : Addr) : List (TE × TE) → List (Key × V) → L2.St → Hp → (List (Key × V) → Hp → Prop) → Prop
  | [], kvs, _, H, Q => Q kvs H
  | (tk, tv) :: r, kvs, σ, H, Q => tk σ H fun x H1 => tv σ H1 fun y H2 => H2 p = some (.dK kvs) ∧ kvs.length < sizeLine ∧ ∃ k, x = kV k ∧ tPutL p r (putK kvs k y) σ (upd H2 p (.dK (putK kvs k y))) Q
theorem put_loop {p : Addr} {pins : List (Addr × Obj)} {σ : L2.St} : ∀ {ks vs : List Expr} {trs : List (TE × TE)} (_ : PPL X ks vs trs) {s : Shared} {H : Hp} {kvs : List (Key × V)} {Q : List (Key × V) → Hp → Prop},
    Inv X pins σ H s → tPutL p trs kvs σ H Q →
    wpAny (model X.prog X.w) X.A (forIn (pairTrees (ks.map some) vs X.env pos) PUnit.unit fun (x : Sem Value × Sem Value) (_ : PUnit) => (match x with
          | (k, v) => do
            let kv ← k
            let vv ← holding [kv] v
            holding [kv, vv] (dictSet p kv vv)
            pure (ForInStep.yield PUnit.unit) : Sem (ForInStep PUnit))) (fun _ s' => ∃ kvs' H', Inv X pins σ H' s' ∧ Q kvs' H') X.xe s
  | _, _, _, .nil, s, H, kvs, Q, I, q => by
    show wpAny _ _ (forIn [] _ _) _ _ _
    rw [List.forIn_nil]
    exact wpAny_pure ⟨kvs, H, I, q⟩
  | _, _, _, .cons (k := k) (v := v) (ks := ks) (vs := vs) (tk := tk) (tv := tv) (trs := trs) hk hv hr, s, H, kvs, Q, I, q => by
    show wpAny _ _ (forIn ((eval k X.env, (do let x ← eval v X.env; standAt pos; pure x)) :: pairTrees (ks.map some) vs X.env pos) _ _) _ _ _
    rw [List.forIn_cons]
    refine wpAny_bind (wpAny_bind (thn (hk.run pins s σ H _ I q) fun u s1 ⟨x, H1, I1, rx, q1⟩ => ?_))
    refine wpAny_bind (wpAny_holding (wpAny_bind (thn (hv.run pins s1 σ H1 _ I1 q1) fun u2 s2 ⟨y, H2, I2, ry, q2⟩ => wpAny_bind (wpAny_standAt (wpAny_pure ?_)))))
    obtain ⟨e, hl, key, rfl, q3⟩ := q2
    obtain ⟨z, hd, vs0, r0, dd⟩ := dk_of I2.hok e
    have hz : vs0.length ≤ sizeLine := by rw [← r0.length]; exact z
    refine wpAny_bind (wpAny_holding (wpAny_dictSet_pairs (hsz := hz) (kV_is rx) dd fun h' dd' hs => wpAny_pure ?_))
    have he : ∃ q, h'.get? p = some q := let ⟨q, _, _, hq, _⟩ := dd'; ⟨q, hq⟩
    have hl2 : (putK kvs key y).length ≤ sizeLine := by have := length_putK kvs key y; omega
    exact put_loop hr (d_write I2 (by rw [e]; exact True.intro) hs he (dk_new hl2 hd (r0.put key ry) dd')) q3
theorem sub_long {ks vs : List Expr} {trs : List (TE × TE)} (h : PPL X ks vs trs) (hn : ¬ (pairTrees (ks.map some) vs X.env pos).length ≤ 15) {pins : List (Addr × Obj)} {σ : L2.St} {H : Hp} {s : Shared} {Q : Addr → List (Key × V) → Hp → Prop}
    (I : Inv X pins σ H s) (q : ∀ p, H p = none → tPutL p trs [] σ (upd H p (.dK [])) (Q p)) :
    wpAny (model X.prog X.w) X.A (subDict (pairTrees (ks.map some) vs X.env pos)) (fun a s' => ∃ kvs H', Inv X pins σ H' s' ∧ Q a kvs H') X.xe s := by
  unfold subDict
  refine wpAny_bind (wpAny_alloc ?_)
  refine wpAny_bind (wpAny_holding ?_)
  rw [if_neg hn]
  refine wpAny_bind (wpAny_rule ?_)
  have h0 := I.hok.fresh (Nat.le_refl s.heap.objs.size)
  have I1 := I.laid (a := s.heap.objs.size) (o := .dK []) (h' := s.heap.push { cls := .type "dict", data := .dict #[] }) (t' := s.toks) (fun _ _ q => Heap.get?_push_of_some _ q) (Nat.le_refl _) (dk_empty s.heap I.big)
  refine wpAny_bind (thn (put_loop h I1 (q _ h0)) fun _ s' ⟨kvs, H', I', q'⟩ => ?_)
  exact wpAny_pure (wpAny_pure ⟨kvs, H', I', q'⟩)
end
section
variable {prog : Program} {w : World} {K : Type} [DecidableEq K] {knd : KeyKind prog w K} {A : Around} {E : Value → Shared → Prop} {s : Shared}
theorem put_new {d : Addr} {kvs : List (K × Value)} {k : K} {key v : Value} {Q : Unit → Shared → Prop} (hkey : knd.is k key = true) (hm : s.heap.DictOf knd d kvs) (hkn : k ∉ kvs.map (·.1))
    (hQ : ∀ h', h'.DictOf knd d (kvs ++ [(k, v)]) → Heap.SameBut d s.heap h' → Q () { s with heap := h' }) (hsz : kvs.length ≤ sizeLine) : wpAny (model prog w) A (dictPut d (knd.hash k) key v) Q E s := by
  obtain ⟨o, es, ep, ho, hc, hd, hk, hp, hn⟩ := hm
  have hes : es.size ≤ sizeLine := by
    have e1 := hp.length
    have e2 : es.toList.length = es.size := by simp
    omega
  have hx : (es.findIdx? fun e => knd.is k e.key) = kvs.findIdx? fun kv => decide (kv.1 = k) := by
    rw [← hp.findIdx k]
    obtain ⟨l⟩ := es
    simp
  have hno : (es.findIdx? fun e => knd.is k e.key) = none := by
    rw [hx, List.findIdx?_eq_none_iff]
    intro kv hkv
    exact decide_eq_false fun e => hkn (List.mem_map.mpr ⟨kv, hkv, e⟩)
  unfold dictPut
  refine wpAny_bind (wpAny_dictFind_of hkey ho hd hk ?_)
  rw [hno]
  refine wpAny_updateDictKeys (hz := hes) ho hd (hQ _ ⟨_, _, ep + 1, Heap.get?_update_self _ ho (Obj.isFreed_of_dict (Obj.data_mapDictKeys hd _)), hc.mapDictKeys _, Obj.data_mapDictKeys hd _, hk.push hkey _, ?_, ?_⟩ (Heap.SameBut.update ..))
  · have := hp.append hkey (knd.hash k) v
    obtain ⟨l⟩ := es
    simpa using this
  · rw [List.map_append, List.nodup_append]
    refine ⟨hn, by simp, fun a ha b hb e => ?_⟩
    simp only [List.map_cons, List.map_nil, List.mem_singleton] at hb
    exact hkn (hb ▸ e ▸ ha)
theorem merge_one {d a : Addr} {kvs : List (K × Value)} {k : K} {v : Value} {Q : Unit → Shared → Prop} (hda : d ≠ a) (haS : (a == sysModules) = false) (hd : s.heap.DictOf knd d kvs) (ha : s.heap.DictOf knd a [(k, v)]) (h0 : kvs ≠ []) (hkn : k ∉ kvs.map (·.1)) (hsz : kvs.length ≤ sizeLine)
    (hQ : ∀ h', h'.DictOf knd d (kvs ++ [(k, v)]) → Heap.SameBut d s.heap h' → Q () { s with heap := h' }) : wpAny (model prog w) A (mergeMapping d (.ref a) false) Q E s := by
  unfold mergeMapping
  refine wpAny_bind (wpAny_isInstance (b := true) (T := "dict") ha.typeIs rfl ?_)
  rw [if_pos rfl]
  refine wpAny_bind (wpAny_specialOf (T := "dict") (r := some (.builtin "dict.__iter__")) ha.typeIs PySem.F.slot_dict_iter.lookup ?_)
  refine wpAny_bind (wpAny_pure ?_)
  rw [show (some (Value.builtin "dict.__iter__") == some (Value.builtin "dict.__iter__")) = true from rfl]
  obtain ⟨od, esd, epd, hod, hcd, hdd, hkd, hpd, hnd⟩ := id hd
  obtain ⟨oo, eso, epo, hoo, hco, hdo, hko, hpo, hno⟩ := id ha
  dsimp only
  rw [if_neg (by rw [haS]; exact Bool.false_ne_true)]
  have hlen : eso.size = 1 := by
    have e1 := hpo.length
    have e2 : eso.toList.length = eso.size := by simp
    rw [List.length_cons, List.length_nil] at e1
    omega
  have hle : esd.isEmpty = false := by
    have e1 := hpd.length
    have e2 : esd.toList.length = esd.size := by simp
    rw [Array.isEmpty_eq_false_iff]
    rintro rfl
    exact h0 (List.length_eq_zero_iff.mp (by simpa using e1.symm))
  refine wpAny_bind (wpAny_dictEntries hod hdd ?_)
  rw [if_neg (by rw [hle]; exact Bool.false_ne_true)]
  refine wpAny_bind (wpAny_dictEntries hoo hdo ?_)
  refine wpAny_bind (wpAny_dictEpoch hoo hdo ?_)
  rw [hlen, show List.range 1 = [0] from rfl, List.forIn_cons]
  refine wpAny_bind (wpAny_bind (wpAny_bind (wpAny_dictEntries hoo hdo ?_)))
  have hlt : 0 < eso.size := by omega
  rw [Array.getElem?_eq_getElem hlt]
  obtain ⟨hkey, hval⟩ := hpo.get? (e := eso[0]) (i := 0) (by simp [hlt]) rfl
  obtain ⟨k', hkey', hhash⟩ := hko eso[0] (Array.getElem_mem hlt)
  obtain rfl : k' = k := knd.inj _ _ _ hkey' hkey
  dsimp only
  rw [hhash, hval]
  refine wpAny_bind (wpAny_holding ?_)
  rw [if_neg Bool.false_ne_true]
  refine put_new hkey hd hkn (fun h' hd' hs => ?_) hsz
  have hoo' : h'.get? a = some oo := (hs.2 a (Ne.symm hda)).trans hoo
  refine wpAny_bind (wpAny_dictEpoch hoo' hdo ?_)
  rw [if_neg (by simp)]
  refine wpAny_pure ?_
  dsimp only
  rw [List.forIn_nil]
  exact wpAny_pure (wpAny_pure (hQ h' hd' hs))
end
section
theorem gather_tail (f : Option (Sem Value) × Sem Value → Option Addr × List (Sem Value × Sem Value) → Sem (ForInStep (Option Addr × List (Sem Value × Sem Value))))
    (hf : ∀ (p : Sem Value × Sem Value) (run : List (Sem Value × Sem Value)), run.length + 1 < 17 → f (some p.1, p.2) (none, run) = pure (.yield (none, run ++ [p]))) :
    ∀ (items run : List (Sem Value × Sem Value)) (tail : List (Option (Sem Value) × Sem Value)), run.length + items.length < 17 → forIn (items.map (fun p => (some p.1, p.2)) ++ tail) ((none : Option Addr), run) f = forIn tail (none, run ++ items) f
  | [], run, tail, _ => by simp
  | p :: rest, run, tail, h => by
    rw [List.map_cons, List.cons_append, List.forIn_cons, hf p run (by rw [List.length_cons] at h; omega), pure_bind]
    have := gather_tail f hf rest (run ++ [p]) tail (by simp at h ⊢; omega)
    simpa using this
theorem disp17 (B : List (Sem Value × Sem Value)) (b q : Sem Value × Sem Value) (h : B.length = 16) :
    dictDisplay ((B ++ [b, q]).map fun p => (some p.1, p.2)) = (do
      let d ← subDict (B ++ [b])
      let sub ← holding [.ref d] (subDict [q])
      (holding [.ref d, .ref sub] (mergeMapping d (.ref sub) false)).onRaise fun x => do let _ ← holding [.ref d, x] (runValue (.builtin "proto.let_go" {}))
      pure (.ref d)) := by
  unfold dictDisplay
  dsimp only
  rw [List.map_append, gather_tail _ (fun p run hr => by
    have hne : ((run ++ [(p.1, p.2)]).length == 17) = false := by simp; omega
    simp only [hne, Bool.false_eq_true, if_false]) B [] _ (by simp; omega)]
  have h17 : ((B ++ [b]).length == 17) = true := by simp [h]
  simp only [List.nil_append, List.map_cons, List.map_nil, List.forIn_cons, List.forIn_nil, h17, if_true]
  have he : (B ++ [(b.fst, b.snd)]).isEmpty = false := by simp
  have h1 : (([q] : List (Sem Value × Sem Value)).length == 17) = false := rfl
  simp only [he, Bool.false_eq_true, if_false, bind_assoc, pure_bind, List.nil_append, h1, List.isEmpty_cons]
end
section
variable {X : Cx} {pos : Pos}
theorem PPL.len {ks vs : List Expr} {trs : List (TE × TE)} (h : PPL X ks vs trs) : ks.length = vs.length := by
  induction h with
  | nil => rfl
  | cons _ _ _ ih => exact congrArg (· + 1) ih
theorem all_some {ks : List Expr} : (ks.map some).all (·.isSome) = true := by simp
theorem pair_len {ks vs : List Expr} {trs : List (TE × TE)} (h : PPL X ks vs trs) : (pairTrees (ks.map some) vs X.env pos).length = ks.length := by
  rw [pairTrees_length _ _ _ _ all_some (by rw [List.length_map]; exact h.len), List.length_map]
/-- sixteen pairs -/
theorem pe_disp16 {ks vs : List Expr} {trs : List (TE × TE)} (h : PPL X ks vs trs) (hn : ks.length = 16) :
    PE X (.Dict (ks.map some) vs pos) (fun σ H Q => ∀ p, H p = none → tPutL p trs [] σ (upd H p (.dK [])) fun _ H' => Q (.ref p) H') := by
  refine ⟨fun pins s σ H Q I q => ?_⟩
  have hl := pair_len (pos := pos) h
  have h0 : pairTrees (ks.map some) vs X.env pos ≠ [] := by
    intro e
    rw [e] at hl
    rw [hn] at hl
    cases hl
  rw [arm_eval_Dict, zip_pairTrees _ _ _ _ all_some (by rw [List.length_map]; exact h.len), dictDisplay_pairs _ h0 (by omega)]
  refine wpAny_bind (wpAny_standAt (wpAny_bind (thn (sub_long h (by omega) I q) fun a s' ⟨kvs, H', I', q'⟩ => ?_)))
  exact wpAny_pure ⟨.ref a, H', I', rfl, q'⟩
theorem pairTrees_snoc : ∀ {ks : List (Option Expr)} {vs : List Expr} {k v : Expr}, ks.all (·.isSome) = true → ks.length = vs.length →
    pairTrees (ks ++ [some k]) (vs ++ [v]) X.env pos = pairTrees ks vs X.env pos ++ [(eval k X.env, (do let x ← eval v X.env; standAt pos; pure x))]
  | [], [], k, v, _, _ => rfl
  | [], _ :: _, _, _, _, h => by simp at h
  | _ :: _, [], _, _, _, h => by simp at h
  | none :: _, _ :: _, _, _, h, _ => by simp at h
  | some a :: ks, b :: vs, k, v, h, hl => by
    have ih := pairTrees_snoc (ks := ks) (vs := vs) (k := k) (v := v) (by simpa using h) (by simpa using hl)
    show (eval a X.env, _) :: pairTrees (ks ++ [some k]) (vs ++ [v]) X.env pos = _
    rw [ih]
    rfl
/-- what a display of eighteen pairs does: seventeen, then a dict of the last one, which is poured in -/
def tDisp18 (trs : List (TE × TE)) (tk tv : TE) : TE := fun σ H Q => ∀ p, H p = none → tPutL p trs [] σ (upd H p (.dK [])) fun kvs H1 => ∀ p2, H1 p2 = none →
  tk σ (upd H1 p2 (.dK [])) fun x H2 => tv σ H2 fun y H3 => H3 p2 = some (.dK []) ∧ H3 p = some (.dK kvs) ∧ kvs ≠ [] ∧ p2 ≠ p ∧ kvs.length < sizeLine ∧ ∃ key, x = kV key ∧ valV kvs key = none ∧
    Q (.ref p) (upd (upd H3 p2 (.dK [(key, y)])) p (.dK (kvs ++ [(key, y)])))
theorem pe_disp18 {ks vs : List Expr} {trs : List (TE × TE)} {k v : Expr} {tk tv : TE} (h : PPL X ks vs trs) (hn : ks.length = 17) (hk : PE X k tk) (hv : PE X v tv) :
    PE X (.Dict (ks.map some ++ [some k]) (vs ++ [v]) pos) (tDisp18 trs tk tv) := by
  refine ⟨fun pins s σ H Q I q => ?_⟩
  have hl := pair_len (pos := pos) h
  have hlv : (ks.map some).length = vs.length := by rw [List.length_map]; exact h.len
  rw [arm_eval_Dict, zip_pairTrees _ _ _ _ (by simp) (by simp [h.len]), pairTrees_snoc all_some hlv]
  obtain ⟨B, b, hB⟩ : ∃ B b, pairTrees (ks.map some) vs X.env pos = B ++ [b] := by
    rcases List.eq_nil_or_concat (pairTrees (ks.map some) vs X.env pos) with e | ⟨B, b, e⟩
    · rw [e, hn] at hl
      cases hl
    · exact ⟨B, b, by rw [e, List.concat_eq_append]⟩
  have hB16 : B.length = 16 := by
    have := hl
    rw [hB, List.length_append, hn] at this
    simpa using this
  rw [hB, List.append_assoc, show [b] ++ [(eval k X.env, (do let x ← eval v X.env; standAt pos; pure x))] = [b, (eval k X.env, (do let x ← eval v X.env; standAt pos; pure x))] from rfl, disp17 B b _ hB16, ← hB]
  refine wpAny_bind (wpAny_standAt (wpAny_bind (thn (sub_long h (by omega) I q) fun p s1 ⟨kvs, H1, I1, q1⟩ => ?_)))
  have f2 := I1.hok.fresh (Nat.le_refl s1.heap.objs.size)
  have I2 := I1.laid (a := s1.heap.objs.size) (o := .dK []) (h' := s1.heap.push { cls := .type "dict", data := .dict #[] }) (t' := s1.toks) (fun _ _ q => Heap.get?_push_of_some _ q) (Nat.le_refl _) (dk_empty s1.heap I1.big)
  refine wpAny_bind (wpAny_holding (wpAny_subDict (knd := mixKind X.prog X.w) (by simp) (evalPairs_cons ?_)))
  refine thn (hk.run pins _ σ _ _ I2 (q1 _ f2)) fun u s2 ⟨x, H2, I3, rx, q2⟩ => ?_
  refine wpAny_bind (thn (hv.run pins s2 σ H2 _ I3 q2) fun u2 s3 ⟨y, H3, I4, ry, e2, e1, hne, hpp, hsz, key, ek, hnk, q3⟩ => wpAny_bind (wpAny_standAt (wpAny_pure (evalPairs_nil ?_))))
  subst ek
  obtain ⟨rs, c, rk⟩ := carries_of (P := X.prog) (w := X.w) (kvs := [(key, y)]) (ws := [(u, u2)]) (.cons ⟨rx, ry⟩ .nil)
  obtain ⟨z, hd, vs0, r0, dd⟩ := dk_of I4.hok e2
  cases r0
  refine ⟨rs, c, dd, fun h' dd' hs => ?_⟩
  have he : ∃ q, h'.get? s1.heap.objs.size = some q := let ⟨q, _, _, hq, _⟩ := dd'; ⟨q, hq⟩
  have I5 := d_write (t' := s3.toks + 1) I4 (by rw [e2]; exact True.intro) hs he (dk_new (kvs := [(key, y)]) (by rw [sizeLine_eq]; simp) hd (rk.merge .nil) dd')
  obtain ⟨za, ha, vsa, ra, da⟩ := dk_of (H := upd H3 s1.heap.objs.size (.dK [(key, y)])) I5.hok (a := s1.heap.objs.size) (kvs := [(key, y)]) upd_same
  obtain ⟨zp, hp, vsp, rp, dp⟩ := dk_of (H := upd H3 s1.heap.objs.size (.dK [(key, y)])) I5.hok (a := p) (kvs := kvs) (by rw [upd_ne (Ne.symm hpp)]; exact e1)
  cases ra with
  | cons hr ht =>
    cases ht
    obtain ⟨hr1, hr2⟩ := hr
    rename_i pr
    obtain ⟨key', val⟩ := pr
    dsimp only at hr1 hr2
    subst hr1
    have hany : ¬ (vsp.any fun kv => decide (kv.1 = key)) = true := by
      rw [← rp.any key, valV_any, hnk]
      simp
    have hkn : key ∉ vsp.map (·.1) := fun m => by
      obtain ⟨kv, hkv, e⟩ := List.mem_map.mp m
      exact hany (List.any_eq_true.mpr ⟨kv, hkv, decide_eq_true e⟩)
    have hv0 : vsp ≠ [] := by
      rintro rfl
      exact hne (List.length_eq_zero_iff.mp rp.length)
    have hz : vsp.length ≤ sizeLine := by rw [← rp.length]; exact zp
    refine wpAny_bind (wpAny_onRaise (wpAny_holding (merge_one (Ne.symm hpp) ha dp da hv0 hkn hz fun h'' dd'' hs'' => ?_)))
    have he2 : ∃ q, h''.get? p = some q := let ⟨q, _, _, hq, _⟩ := dd''; ⟨q, hq⟩
    have rel : KV (kvs ++ [(key, y)]) (vsp ++ [(key, val)]) := by
      have := rp.put key hr2
      rw [putK_new y hnk] at this
      unfold stored at this
      rwa [if_neg hany] at this
    have I6 := d_write (t' := s3.toks + 1) I5 (a := p) (by rw [upd_ne (Ne.symm hpp), e1]; exact True.intro) hs'' he2 (dk_new (kvs := kvs ++ [(key, y)]) (by rw [List.length_append, List.length_cons, List.length_nil]; omega) hp rel dd'')
    exact wpAny_pure ⟨.ref p, _, I6, rfl, q3⟩
end
end PD
/-! Dicts that are written in an expression. -/
namespace PD
open PySem PySem.Spec PyProof.Rows L2
section
variable {X : Cx} {b : Bs} {e e1 e2 e3 : Expr} {pos : Pos} {Φ : Phi} {gv : Nat → D}
theorem Keys.snoc {c : Cs} {k : Key} {v : V} {q : DK} : ∀ {kvs : List (Key × V)} {ks : List DK}, Keys c kvs ks → c.key q = some k → Keys c (kvs ++ [(k, v)]) (ks ++ [q])
  | _, _, .nil, h => .cons h .nil
  | _, _, .cons h0 r, h => .cons h0 (Keys.snoc r h)
theorem find_w_none {k : Nat} : ∀ {ks : List Nat} {ds : List D}, k ∉ ks → findD (ks.map DK.w) ds (.w k) = none
  | [], _, _ => by unfold findD; rfl
  | a :: ks, [], _ => rfl
  | a :: ks, d :: ds, h => by
    show (if DK.w a = DK.w k then some d else findD (ks.map DK.w) ds (.w k)) = none
    rw [if_neg fun e => h (by cases e; exact List.mem_cons_self), find_w_none fun m => h (List.mem_cons_of_mem _ m)]
/-- pairs of a display, as the rules ask for them -/
inductive TrL (Φ : Phi) (gv : Nat → D) (c : Cs) : List Nat → IEs → List (TE × TE) → Prop where
  | nil : TrL Φ gv c [] .nil []
  | cons {k : Nat} {ks : List Nat} {a : IE} {es : IEs} {trs : List (TE × TE)} : TrL Φ gv c ks es trs → TrL Φ gv c (k :: ks) (.cons a es) ((tAE c (sem Φ gv (.cW k)).ev, tAE c (sem Φ gv a).ev) :: trs)
def NotAt (σ : L2.St) (env : Env) (p : Addr) : Prop := ∀ (i : Nat) (f : Fl) (e : D), env[i]? = some (some (f, e)) → isOwn f = true → σ[i]? ≠ some (some (V.ref p))
theorem lit_loop {c : Cs} (ok : WOk b.cs.W) (hb : b.cs = c) {σ : L2.St} {p : Addr} (g0 : b.G0 p = none) {Q : List (Key × V) → Hp → Prop} {env' : Env} : ∀ {ks : List Nat} {es : IEs} {trs : List (TE × TE)} (_ : TrL Φ gv c ks es trs) {env : Env} {G H : Hp} {kvs : List (Key × V)} {ks0 : List Nat} {ds0 ds : List D},
    Sat b σ H G env → Aside b G σ env p → NotAt σ env p → H p = some (.dK kvs) → Keys b.cs kvs (ks0.map DK.w) → Reps b.cs G (kvs.map (·.2)) ds0 → (ks0 ++ ks).Nodup → kvs.length + ks.length ≤ 1000 → (sems Φ gv es).ev env = some (ds, env') →
    (∀ kvs' H' G', Same G G' → Sat b σ H' G' env' → Aside b G' σ env' p → NotAt σ env' p → H' p = some (.dK kvs') → Keys b.cs kvs' ((ks0 ++ ks).map DK.w) → Reps b.cs G' (kvs'.map (·.2)) (ds0 ++ ds) → Q kvs' H') →
    tPutL p trs kvs σ H Q
  | _, _, _, .nil, env, G, H, kvs, ks0, ds0, ds, S, A, n, hp, ky, r, nd, hl, he, k => by
    cases he
    refine k kvs H G (Same.refl G) S A n hp ?_ ?_
    · rw [List.append_nil]; exact ky
    · rw [List.append_nil]; exact r
  | _, _, _, .cons (k := w) (ks := ks) (a := a) (es := es) (trs := trs) ht, env, G, H, kvs, ks0, ds0, ds, S, A, n, hp, ky, r, nd, hl, he, k => by
    obtain ⟨⟨o, d, env1⟩, h1, he⟩ := Option.bind_eq_some_iff.mp he
    obtain ⟨⟨ds1, env2⟩, h2, he⟩ := Option.map_eq_some_iff.mp he
    cases he
    have hbw : (b.with p (.dK kvs)).cs = c := hb
    have Sb : Sat (b.with p (.dK kvs)) σ H G env := S.into A n hp
    refine ⟨b.with p (.dK kvs), hbw, use (own := false) (d := .w w) (env' := env) rfl Sb fun v1 H1 G1 g1 S1 r1 => ?_⟩
    refine ⟨b.with p (.dK kvs), hbw, use h1 S1 fun v2 H2 G2 g2 S2 r2 => ?_⟩
    obtain ⟨S3, hp2, A3, n3⟩ := S2.outof A.h g0 A.l
    obtain ⟨key, hk, ev⟩ := key_rep (b := b) (q := .w w) rfl r1
    have hlw : kvs.length < sizeLine := by
      rw [sizeLine_eq]
      rw [List.length_cons] at hl
      omega
    have hn : w ∉ ks0 := fun m => by
      rw [List.nodup_append] at nd
      exact nd.2.2 w m w List.mem_cons_self rfl
    have hv : valV kvs key = none := by
      have := (find_ok (b := b) ok (q := .w w) hk ky r).2
      rw [find_w_none hn] at this
      cases hq : valV kvs key with
      | none => rfl
      | some z => rw [hq] at this; cases this
    refine ⟨hp2, hlw, key, ev, ?_⟩
    rw [putK_new v2 hv]
    have r2' : Rep b.cs G2 v2 d := r2
    have lk : kvs.length + 1 + ks.length ≤ 1000 := by rw [List.length_cons] at hl; omega
    refine lit_loop ok hb g0 ht (ks0 := ks0 ++ [w]) (ds0 := ds0 ++ [d]) (S3.poke A3 n3 _) ⟨A3.g, A3.h, A3.l⟩ n3 upd_same ?_ ?_ ?_ (by rw [List.length_append, List.length_cons, List.length_nil]; exact lk) h2 fun kvs' H' G' g' S' A' n' hp' ky' r' => ?_
    · rw [List.map_append]
      exact ky.snoc hk
    · rw [List.map_append]
      exact ((r.mono g1).mono g2).app (.cons r2' .nil)
    · rw [List.append_assoc]
      exact nd
    · refine k kvs' H' G' ((g1.trans g2).trans g') S' A' n' hp' ?_ ?_
      · rw [List.append_assoc] at ky'
        exact ky'
      · rw [List.append_assoc] at r'
        exact r'
/-- a display of sixteen -/
theorem je_dlit16 {keys vals : List Expr} {trs : List (TE × TE)} {ws : List Nat} {es : IEs} (hK : X.K = b.cs.K) (ok : WOk b.cs.W) (h : PPL X keys vals trs) (ht : TrL Φ gv b.cs ws es trs) (hn : keys.length = 16) (hw : ws.length ≤ 1000) :
    JE X b (.Dict (keys.map some) vals pos) (sem Φ gv (.dlit ws es)) := by
  refine JE.of hK ((pe_disp16 h hn).wk fun σ H Q ⟨env, G, own, d, env', q, S, k⟩ p hp => ?_) bare_dict
  obtain ⟨⟨ds, env1⟩, h1, q⟩ := Option.bind_eq_some_iff.mp q
  dsimp only at q
  split at q
  · rename_i hl
    cases q
    obtain ⟨S', gp, h0, n0⟩ := S.made (o := .dK []) hp
    have lD : ∀ q ∈ b.L, q.2 ≠ p := by
      intro q hq' eq
      obtain ⟨o, ho⟩ := S.lents q hq'
      rw [eq, hp] at ho; cases ho
    refine lit_loop ok rfl (S.ex0.free gp) ht (ks0 := []) (ds0 := []) S' ⟨gp, h0, lD⟩ n0 upd_same .nil .nil hl.2 (by rw [List.length_nil]; omega) h1 fun kvs' H' G' g' S2 A2 n2 hp2 ky r => ?_
    exact k (.ref p) H' G' g' S2 ⟨p, rfl, A2.g, h0, ⟨kvs', hp2, ky, r⟩, n2⟩
  · cases q
theorem TrL.len {c : Cs} {ws : List Nat} {es : IEs} {trs : List (TE × TE)} (h : TrL Φ gv c ws es trs) : ∀ {keys vals : List Expr}, PPL X keys vals trs → ws.length = keys.length := by
  induction h with
  | nil =>
    intro keys vals p
    cases p
    rfl
  | cons _ ih =>
    intro keys vals p
    cases p with
    | cons _ _ r => exact congrArg (· + 1) (ih r)
def IEs.snoc : IEs → IE → IEs
  | .nil, a => .cons a .nil
  | .cons x r, a => .cons x (r.snoc a)
theorem sems_snoc {a : IE} : ∀ {es : IEs} {env : Env}, (sems Φ gv (es.snoc a)).ev env = ((sems Φ gv es).ev env).bind fun p => ((sem Φ gv a).ev p.2).map fun q => (p.1 ++ [q.2.1], q.2.2)
  | .nil, env => by
    show (((sem Φ gv a).ev env).bind fun p => ((some ([], p.2.2) : Option (List D × Env))).map fun q => (p.2.1 :: q.1, q.2)) = ((sem Φ gv a).ev env).map fun q => ([] ++ [q.2.1], q.2.2)
    cases (sem Φ gv a).ev env <;> rfl
  | .cons x r, env => by
    show (((sem Φ gv x).ev env).bind fun p => ((sems Φ gv (r.snoc a)).ev p.2.2).map fun q => (p.2.1 :: q.1, q.2)) = (((sem Φ gv x).ev env).bind fun p => ((sems Φ gv r).ev p.2.2).map fun q => (p.2.1 :: q.1, q.2)).bind _
    cases (sem Φ gv x).ev env with
    | none => rfl
    | some p =>
      rw [Option.bind_some, Option.bind_some, sems_snoc]
      cases (sems Φ gv r).ev p.2.2 with
      | none => rfl
      | some q =>
        rw [Option.bind_some, Option.map_some, Option.bind_some]
        dsimp only
        cases (sem Φ gv a).ev q.2 <;> rfl
theorem PPL.split {ks vs : List Expr} {trs : List (TE × TE)} (h : PPL X ks vs trs) (h0 : ks ≠ []) : ∃ ks' k vs' v trs' tk tv, ks = ks' ++ [k] ∧ vs = vs' ++ [v] ∧ trs = trs' ++ [(tk, tv)] ∧ PPL X ks' vs' trs' ∧ PE X k tk ∧ PE X v tv := by
  induction h with
  | nil => exact absurd rfl h0
  | @cons k v ks vs tk tv trs hk hv hr ih =>
    cases hr with
    | nil => exact ⟨[], k, [], v, [], tk, tv, rfl, rfl, rfl, .nil, hk, hv⟩
    | cons a1 a2 a3 =>
      obtain ⟨ks', k', vs', v', trs', tk', tv', e1, e2, e3, h1, h2, h3⟩ := ih (by simp)
      exact ⟨k :: ks', k', v :: vs', v', (tk, tv) :: trs', tk', tv', by rw [e1]; rfl, by rw [e2]; rfl, by rw [e3]; rfl, .cons hk hv h1, h2, h3⟩
theorem TrL.split {c : Cs} : ∀ {trs : List (TE × TE)} {tk tv : TE} {ws : List Nat} {es : IEs}, TrL Φ gv c ws es (trs ++ [(tk, tv)]) → ∃ ws' w es' a, ws = ws' ++ [w] ∧ es = es'.snoc a ∧ TrL Φ gv c ws' es' trs ∧ tk = tAE c (sem Φ gv (.cW w)).ev ∧ tv = tAE c (sem Φ gv a).ev
  | [], tk, tv, ws, es, h => by
    cases h with
    | cons r =>
      cases r
      exact ⟨[], _, .nil, _, rfl, rfl, .nil, rfl, rfl⟩
  | t :: trs, tk, tv, ws, es, h => by
    cases h with
    | @cons k ks a es2 _ r =>
      obtain ⟨ws', w, es', a', e1, e2, h1, e3, e4⟩ := TrL.split (trs := trs) r
      exact ⟨k :: ws', w, .cons a es', a', by rw [e1]; rfl, by rw [e2]; rfl, .cons h1, e3, e4⟩
/-- a display of eighteen -/
theorem je_dlit18 {keys vals : List Expr} {trs : List (TE × TE)} {ws : List Nat} {es : IEs} (hK : X.K = b.cs.K) (ok : WOk b.cs.W) (h : PPL X keys vals trs) (ht : TrL Φ gv b.cs ws es trs) (hn : keys.length = 18) (hw : ws.length ≤ 900) :
    JE X b (.Dict (keys.map some) vals pos) (sem Φ gv (.dlit ws es)) := by
  obtain ⟨ks', kx, vs', vx, trs', tk, tv, rfl, rfl, rfl, h', hk, hv⟩ := h.split (by rintro rfl; cases hn)
  obtain ⟨ws', w, es', a, rfl, rfl, ht', rfl, rfl⟩ := ht.split
  have hn' : ks'.length = 17 := by
    rw [List.length_append, List.length_cons, List.length_nil] at hn
    omega
  rw [List.map_append]
  refine JE.of hK ((pe_disp18 h' hn' hk hv).wk fun σ H Q ⟨env, G, own, d, env', q, S, k⟩ p hp => ?_) bare_dict
  obtain ⟨⟨ds, env1⟩, h1, q⟩ := Option.bind_eq_some_iff.mp q
  rw [sems_snoc] at h1
  obtain ⟨⟨ds1, env2⟩, h2, h3⟩ := Option.bind_eq_some_iff.mp h1
  obtain ⟨⟨o4, d4, env4⟩, h4, h5⟩ := Option.map_eq_some_iff.mp h3
  cases h5
  dsimp only at q
  split at q
  · rename_i hl
    cases q
    obtain ⟨S', gp, h0, n0⟩ := S.made (o := .dK []) hp
    have g0 := S.ex0.free gp
    have lD : ∀ q ∈ b.L, q.2 ≠ p := by
      intro q hq' eq
      obtain ⟨o, ho⟩ := S.lents q hq'
      rw [eq, hp] at ho; cases ho
    have nd := hl.2
    have nd' : ws'.Nodup := (List.nodup_append.mp nd).1
    rw [List.length_append, List.length_cons, List.length_nil] at hw
    refine lit_loop ok rfl g0 ht' (ks0 := []) (ds0 := []) S' ⟨gp, h0, lD⟩ n0 upd_same .nil .nil nd' (by rw [List.length_nil]; omega) h2 fun kvs H1 G1 g1 S1 A1 n1 hp1 ky r => ?_
    intro p2 hp2
    have hpp : p2 ≠ p := by
      rintro rfl
      rw [hp1] at hp2
      cases hp2
    have Sb := S1.into A1 n1 hp1
    obtain ⟨T1, gp2, hq0, m0⟩ := Sb.made (o := .dK []) hp2
    have lD2 : ∀ q ∈ (b.with p (.dK kvs)).L, q.2 ≠ p2 := by
      intro q hq' eq
      obtain ⟨o, ho⟩ := Sb.lents q hq'
      rw [eq, hp2] at ho; cases ho
    have T2 := T1.into (p := p2) (o := .dK []) ⟨gp2, hq0, lD2⟩ m0 upd_same
    refine ⟨(b.with p (.dK kvs)).with p2 (.dK []), rfl, use (own := false) (d := .w w) (env' := env2) rfl T2 fun v1 H2 G2 g2 S2 r2 => ?_⟩
    refine ⟨(b.with p (.dK kvs)).with p2 (.dK []), rfl, use h4 S2 fun v2 H3 G3 g3 S3 r3 => ?_⟩
    obtain ⟨S4, e4, A4, n4⟩ := S3.outof hq0 (Sb.ex0.free gp2) lD2
    have S5 := S4.poke A4 n4 (.dK [])
    obtain ⟨S6, e6, A6, n6⟩ := S4.outof A1.h g0 A1.l
    obtain ⟨key, hkk, ev⟩ := key_rep (b := b) (q := .w w) rfl r2
    have hnw : w ∉ ws' := fun m => (List.nodup_append.mp nd).2.2 w m w List.mem_cons_self rfl
    have hvn : valV kvs key = none := by
      have := (find_ok (b := b) ok (q := .w w) hkk ky r).2
      rw [show ([] : List Nat) ++ ws' = ws' from rfl, find_w_none hnw] at this
      cases hq : valV kvs key with
      | none => rfl
      | some z => rw [hq] at this; cases this
    have hlw : ws'.length = 17 := by
      have e1 := ht'.len h'
      rw [e1, hn']
    have kl : kvs.length = 17 := by
      rw [ky.length, List.length_map, List.nil_append, hlw]
    have k0 : kvs ≠ [] := by
      rintro rfl
      cases kl
    have p4 : (upd H3 p2 (.dK [(key, v2)])) p = some (.dK kvs) := by
      rw [upd_ne (Ne.symm hpp)]
      exact e6
    refine ⟨e4, e6, k0, hpp, by rw [sizeLine_eq]; omega, key, ev, hvn, ?_⟩
    have S7 := S4.poke A4 n4 (.dK [(key, v2)])
    obtain ⟨S8, e8, A8, n8⟩ := S7.outof A1.h g0 A1.l
    have S9 := S8.poke A8 n8 (.dK (kvs ++ [(key, v2)]))
    have r3' : Rep b.cs G3 v2 d4 := r3
    refine k (.ref p) _ G3 (((g1.trans g2)).trans g3) S9 ⟨p, rfl, A8.g, h0, ⟨kvs ++ [(key, v2)], upd_same, ?_, ?_⟩, n8⟩
    · rw [List.map_append]
      exact ky.snoc hkk
    · rw [List.map_append]
      exact ((r.mono g2).mono g3).app (.cons r3' .nil)
  · cases q
theorem keys_nd (ok : WOk b.cs.W) : ∀ {kvs : List (Key × V)} {ks : List Nat}, Keys b.cs kvs (ks.map DK.w) → ks.Nodup → (kvs.map (·.1)).Nodup
  | _, [], .nil, _ => List.nodup_nil
  | _, k :: ks, .cons (kvs := kvs) h r, hn => by
    obtain ⟨h1, h2⟩ := List.nodup_cons.mp hn
    refine List.nodup_cons.mpr ⟨fun m => ?_, keys_nd ok r h2⟩
    have find : ∀ {kvs : List (Key × V)} {ks : List Nat} {x : Key}, Keys b.cs kvs (ks.map DK.w) → x ∈ kvs.map (·.1) → ∃ j ∈ ks, b.cs.key (.w j) = some x := by
      intro kvs ks
      induction ks generalizing kvs with
      | nil =>
        intro x r m
        cases r
        cases m
      | cons a ks ih =>
        intro x r m
        cases r with
        | cons h r =>
          rcases List.mem_cons.mp m with e | m
          · exact ⟨a, List.mem_cons_self, by rw [e]; exact h⟩
          · obtain ⟨j, hj, e⟩ := ih r m
            exact ⟨j, List.mem_cons_of_mem _ hj, e⟩
    obtain ⟨j, hj, e⟩ := find r m
    have := key_inj ok h e
    cases this
    exact h1 hj
theorem merge_nd : ∀ {more acc : List (Key × V)}, ((acc ++ more).map (·.1)).Nodup → mergeK acc more = acc ++ more
  | [], acc, _ => by rw [List.append_nil]; rfl
  | p :: r, acc, h => by
    have hv : valV acc p.1 = none := by
      cases hq : valV acc p.1 with
      | none => rfl
      | some v =>
        have m := valV_in hq
        rw [List.map_append, List.map_cons] at h
        exact absurd rfl ((List.nodup_append.mp h).2.2 _ m _ List.mem_cons_self)
    show mergeK (putK acc p.1 p.2) r = _
    rw [putK_new p.2 hv, merge_nd (by rw [List.append_assoc]; exact h), List.append_assoc]
    rfl
theorem pairs_loop {c : Cs} (hb : b.cs = c) {σ : L2.St} {p : Addr} {env' : Env} : ∀ {ks : List Nat} {es : IEs} {trs : List (TE × TE)} (_ : TrL Φ gv c ks es trs) {env : Env} {G H : Hp} {ds : List D} {Q : List (V × V) → Hp → Prop},
    Sat (b.with p (.dK [])) σ H G env → (sems Φ gv es).ev env = some (ds, env') →
    (∀ (kvs : List (Key × V)) H' G', Same G G' → Sat (b.with p (.dK [])) σ H' G' env' → Keys b.cs kvs (ks.map DK.w) → Reps b.cs G' (kvs.map (·.2)) ds → Q (kvs.map fun kv => (kV kv.1, kv.2)) H') →
    tPairs trs σ H Q
  | _, _, _, .nil, env, G, H, ds, Q, S, he, k => by
    cases he
    exact k [] H G (Same.refl G) S .nil .nil
  | _, _, _, .cons (k := w) (ks := ks) (a := a) (es := es) (trs := trs) ht, env, G, H, ds, Q, S, he, k => by
    obtain ⟨⟨o, d, env1⟩, h1, he⟩ := Option.bind_eq_some_iff.mp he
    obtain ⟨⟨ds1, env2⟩, h2, he⟩ := Option.map_eq_some_iff.mp he
    cases he
    refine ⟨b.with p (.dK []), hb, use (own := false) (d := .w w) (env' := env) rfl S fun v1 H1 G1 g1 S1 r1 => ?_⟩
    refine ⟨b.with p (.dK []), hb, use h1 S1 fun v2 H2 G2 g2 S2 r2 => ?_⟩
    obtain ⟨key, hk, ev⟩ := key_rep (b := b) (q := .w w) rfl r1
    subst ev
    refine pairs_loop hb ht S2 h2 fun kvs H' G' g' S' ky r => ?_
    have r2' : Rep b.cs G2 v2 d := r2
    exact k ((key, v2) :: kvs) H' G' ((g1.trans g2).trans g') S' (.cons hk ky) (.cons (r2'.mono g') r)
theorem pps_of {keys vals : List Expr} {trs : List (TE × TE)} (h : PPL X keys vals trs) : PPs X pos (keys.map some) vals trs := by
  induction h with
  | nil => exact pps_nil
  | cons hk hv _ ih => exact pps_cons hk hv ih
/-- a display of fifteen or fewer -/
theorem je_dlit15 {keys vals : List Expr} {trs : List (TE × TE)} {ws : List Nat} {es : IEs} (hK : X.K = b.cs.K) (ok : WOk b.cs.W) (h : PPL X keys vals trs) (ht : TrL Φ gv b.cs ws es trs) (h0 : keys ≠ []) (hn : keys.length ≤ 15) :
    JE X b (.Dict (keys.map some) vals pos) (sem Φ gv (.dlit ws es)) := by
  refine JE.of hK ((pe_disp (pps_of h) all_some (by rw [List.length_map]; exact h.len) (by simpa using h0) (by rw [List.length_map]; exact hn)).wk fun σ H Q ⟨env, G, own, d, env', q, S, k⟩ p hp => ?_) bare_dict
  obtain ⟨⟨ds, env1⟩, h1, q⟩ := Option.bind_eq_some_iff.mp q
  dsimp only at q
  split at q
  · rename_i hl
    cases q
    obtain ⟨S', gp, h0', n0⟩ := S.made (o := .dK []) hp
    have g0 := S.ex0.free gp
    have lD : ∀ q ∈ b.L, q.2 ≠ p := by
      intro q hq' eq
      obtain ⟨o, ho⟩ := S.lents q hq'
      rw [eq, hp] at ho; cases ho
    refine pairs_loop rfl ht (S'.into ⟨gp, h0', lD⟩ n0 upd_same) h1 fun kvs H' G' g' S2 ky r => ?_
    obtain ⟨S3, hp3, A3, n3⟩ := S2.outof h0' g0 lD
    have hlen : kvs.length = keys.length := by
      rw [ky.length, List.length_map, ht.len h]
    refine ⟨hp3, kvs, rfl, by omega, ?_⟩
    rw [merge_nd (acc := []) (by rw [List.nil_append]; exact keys_nd ok ky hl.2), List.nil_append]
    exact k (.ref p) _ G' g' (S3.poke A3 n3 _) ⟨p, rfl, A3.g, h0', ⟨kvs, upd_same, ky, r⟩, n3⟩
  · cases q
/-- {..}[k] of a dict that an expression gives -/
theorem je_dgetE {a c : IE} (hK : X.K = b.cs.K) (ok : WOk b.cs.W) (hu : X.A.units + 1 < cLine) (ha : JE X b e1 (sem Φ gv a)) (hc : JE X b e2 (sem Φ gv c)) : JE X b (.Subscript e1 e2 pos) (sem Φ gv (.dgetE a c)) := by
  refine JE.of hK ((pe_dget hu ha.ev hc.ev hc.ix).wk fun σ H Q ⟨env, G, own, d, env', q, S, k⟩ => ?_) bare_sub
  obtain ⟨⟨o1, x, w1⟩, h1, q⟩ := Option.bind_eq_some_iff.mp q
  obtain ⟨⟨o2, y, w2⟩, h2, q⟩ := Option.bind_eq_some_iff.mp q
  obtain ⟨d', h3, h4⟩ := Option.map_eq_some_iff.mp q
  cases h4
  refine use h1 S fun v1 H1 G1 g1 S1 r1 => ?_
  refine use h2 S1 fun v2 H2 G2 g2 S2 r2 => ?_
  dsimp only at h3
  unfold dgetD at h3
  split at h3
  · obtain ⟨qk, h5, h6⟩ := Option.bind_eq_some_iff.mp h3
    cases r1 with
    | dic ea ky r =>
      obtain ⟨key, hq, rfl⟩ := key_rep h5 r2
      obtain ⟨u, hu', ru⟩ := (find_ok ok hq ky (r.mono g2)).1 _ h6
      refine ⟨_, u, rfl, ?_, (k.step (g1.trans g2)).rep S2 ru⟩
      rw [← hu']
      exact DGet.k (S2.ex _ _ (g2 _ _ ea))
  · cases h3
/-- {..}.get(k, x) -/
theorem je_getE {a c z : IE} {ap cp : Pos} (hK : X.K = b.cs.K) (ok : WOk b.cs.W) (hu : X.A.units + 1 < cLine) (ha : JE X b e1 (sem Φ gv a)) (hc : JE X b e2 (sem Φ gv c)) (hz : JE X b e3 (sem Φ gv z)) (m : M2 X e1 "get" ap e2 e3 cp) :
    JE X b (.Call (.Attribute e1 "get" ap) [e2, e3] [] cp) (sem Φ gv (.getE a c z)) := by
  refine JE.of hK ((pe_dget2 hu ha.ev hc.ev hz.ev m).wk fun σ H Q ⟨env, G, own, d, env', q, S, k⟩ => ?_) bare_call
  obtain ⟨⟨o1, x, w1⟩, h1, q⟩ := Option.bind_eq_some_iff.mp q
  obtain ⟨⟨o2, y, w2⟩, h2, q⟩ := Option.bind_eq_some_iff.mp q
  obtain ⟨⟨o3, u3, w3⟩, h3, q⟩ := Option.bind_eq_some_iff.mp q
  cases x with
  | dic ks ds =>
    cases h5 : keyD y with
    | none =>
      have q : (match (D.dic ks ds), keyD y with | .dic ks vs, some y => some (false, (findD ks vs y).getD u3, w3) | _, _ => none) = some (own, d, env') := q
      rw [h5] at q
      cases q
    | some qk =>
      have q : (match (D.dic ks ds), keyD y with | .dic ks vs, some y => some (false, (findD ks vs y).getD u3, w3) | _, _ => none) = some (own, d, env') := q
      rw [h5] at q
      cases q
      refine use h1 S fun v1 H1 G1 g1 S1 r1 => ?_
      cases r1 with
      | dic ea ky r =>
        refine ⟨_, rfl, .inl ⟨_, .of (S1.ex _ _ ea)⟩, ?_⟩
        refine use h2 S1 fun v2 H2 G2 g2 S2 r2 => ?_
        refine use h3 S2 fun v3 H3 G3 g3 S3 r3 => ?_
        obtain ⟨key, hq, rfl⟩ := key_rep h5 r2
        have F := find_ok ok hq ky ((r.mono g2).mono g3)
        refine ⟨_, DGet.k (S3.ex _ _ (g3 _ _ (g2 _ _ ea))), ?_⟩
        have kk := k.step ((g1.trans g2).trans g3)
        cases hf : findD ks ds qk with
        | some d' =>
          rw [hf] at kk
          obtain ⟨u, hu', ru⟩ := F.1 _ hf
          rw [hu']
          exact kk.rep S3 ru
        | none =>
          rw [hf] at kk
          have e := F.2
          rw [hf] at e
          cases hv : valV _ key with
          | some u => rw [hv] at e; cases e
          | none => exact kk.rep S3 r3
  | _ => cases q
/-! ### sorted(d): the words of a dict, rising -/
abbrev RisS (a c : Str) : Prop := a.cps.toList ≤ c.cps.toList
theorem rising_pw : ∀ (p : Str) (l : List Str), risingS p l = true → (p :: l).Pairwise RisS
  | p, [], _ => List.pairwise_singleton _ _
  | p, x :: r, h => by
    have h : (!ltCps x.cps.toList p.cps.toList && risingS x r) = true := h
    rw [Bool.and_eq_true] at h
    have ih := rising_pw x r h.2
    have px : RisS p x := by
      have h1 : ltCps x.cps.toList p.cps.toList = false := by simpa using h.1
      rw [ltCps_eq] at h1
      exact List.not_lt.mp (of_decide_eq_false h1)
    refine List.pairwise_cons.mpr ⟨fun y hy => ?_, ih⟩
    rcases List.mem_cons.mp hy with e | hy
    · rw [e]; exact px
    · exact List.le_trans px ((List.pairwise_cons.mp ih).1 y hy)
theorem sorted_pw : ∀ (l : List Str), sortedS l = true → l.Pairwise RisS
  | [], _ => .nil
  | x :: r, h => rising_pw x r h
theorem str_of {a c : Str} (h : a.cps.toList = c.cps.toList) : a = c := by
  obtain ⟨⟨x⟩⟩ := a
  obtain ⟨⟨y⟩⟩ := c
  have h : x = y := h
  rw [h]
theorem sorted_one {l m : List Str} (p : l.Perm m) (hl : sortedS l = true) (hm : sortedS m = true) : l = m :=
  List.Perm.eq_of_pairwise (fun a c _ _ h1 h2 => str_of (List.le_antisymm h1 h2)) (sorted_pw l hl) (sorted_pw m hm) p
def strsOf (W : List Str) : List Nat → Option (List Str)
  | [] => some []
  | k :: r => match W[k]?, strsOf W r with
    | some z, some l => some (z :: l)
    | _, _ => none
theorem strs_reps {c : Cs} {G : Hp} : ∀ {ss : List Nat} {l : List Str}, strsOf c.W ss = some l → Reps c G (l.map V.str) (ss.map D.w)
  | [], l, h => by
    cases h
    exact .nil
  | k :: r, l, h => by
    unfold strsOf at h
    split at h
    · rename_i z l' h1 h2
      cases h
      exact .cons (.w h1) (strs_reps h2)
    · cases h
theorem strs_keys {c : Cs} : ∀ {kvs : List (Key × V)} {ks : List Nat} {l : List Str}, Keys c kvs (ks.map DK.w) → strsOf c.W ks = some l → kvs.map (·.1) = l.map Sum.inr
  | _, [], l, .nil, h => by
    cases h
    rfl
  | _, k :: r, l, .cons hk hr, h => by
    unfold strsOf at h
    split at h
    · rename_i z l' h1 h2
      cases h
      have hk : (c.W[k]?).map Sum.inr = some _ := hk
      rw [h1] at hk
      cases hk
      rw [List.map_cons, List.map_cons, strs_keys hr h2]
    · cases h
theorem strs_perm {W : List Str} {ks ss : List Nat} (p : ss.Perm ks) : ∀ {l : List Str}, strsOf W ss = some l → ∃ m, strsOf W ks = some m ∧ l.Perm m := by
  induction p with
  | nil => intro l h; exact ⟨l, h, .refl l⟩
  | @cons x a c _ ih =>
    intro l h
    unfold strsOf at h
    split at h
    · rename_i z l' h1 h2
      cases h
      obtain ⟨m, hm, pm⟩ := ih h2
      exact ⟨z :: m, by unfold strsOf; rw [h1, hm], pm.cons z⟩
    · cases h
  | @swap x y a =>
    intro l h
    unfold strsOf at h
    split at h
    · rename_i z l' h1 h2
      cases h
      unfold strsOf at h2
      split at h2
      · rename_i z2 l2 h3 h4
        cases h2
        exact ⟨z2 :: z :: l2, by unfold strsOf; rw [h3]; unfold strsOf; rw [h1, h4], .swap _ _ _⟩
      · cases h2
    · cases h
  | trans _ _ ih1 ih2 =>
    intro l h
    obtain ⟨m, hm, pm⟩ := ih1 h
    obtain ⟨m2, hm2, pm2⟩ := ih2 hm
    exact ⟨m2, hm2, pm.trans pm2⟩
theorem je_sortW {a : IE} {ks ss : List Nat} {l : List Str} {p : Pos} (hK : X.K = b.cs.K) (hc : X.calm = true) (hg : Gl X "sorted") (hm : X.mg "sorted" = none) (ha : JE X b e (sem Φ gv a)) (hl : strsOf b.cs.W ss = some l) (hs : sortedS l = true) (hp : ss.Perm ks) (hn : ks.length < 64) :
    JE X b (.Call (.Name "sorted" p) [e] [] pos) (sem Φ gv (.sortW a ks ss)) := by
  have pa := pa_cons ha.ev pa_nil (ha.ns _ _)
  refine JE.of hK ((pe_callB (call_sortedD hc) hg hm (by decide +kernel) pa (by decide +kernel) (by decide +kernel) (ha.ns _ _) rfl).wk fun σ H Q ⟨env, G, own, d, env', q, S, k⟩ => ?_) bare_call
  obtain ⟨⟨o, x, w1⟩, h1, q⟩ := Option.bind_eq_some_iff.mp q
  cases x with
  | dic qs ds =>
    dsimp only at q
    split at q
    · rename_i he
      cases q
      refine use h1 S fun v1 H1 G1 g1 S1 r1 => ?_
      cases r1 with
      | dic ea ky r =>
        rw [he] at ky
        obtain ⟨m, hm2, pm⟩ := strs_perm hp hl
        have ml : m.length = ks.length := by
          have e1 := strs_keys ky hm2
          have e2 := ky.length
          rw [List.length_map] at e2
          have e3 := congrArg List.length e1
          rw [List.length_map, List.length_map] at e3
          omega
        refine ⟨_, _, m, rfl, .of (S1.ex _ _ ea), strs_keys ky hm2, by omega, fun ys p2 hy hsy hp2 => ?_⟩
        rw [sorted_one (hy.trans pm.symm) hsy hs]
        exact (k.step g1).lstN S1 (strs_reps hl) hp2
    · cases q
  | _ => cases q
end
end PD
/-! Which syntax an expression of data matches. -/
namespace PD
open PySem L2
def visB (sc : Scope) (x : Str) : Bool := match sc.names.lookup x with
  | some .local => true
  | some .cell => true
  | some .free => true
  | _ => false
def locB (sc : Scope) (x : Str) : Bool := match sc.names.lookup x with
  | some .local => true
  | some .cell => true
  | _ => false
def glB (sc : Scope) (x : Str) : Bool := match sc.names.lookup x with
  | some .globalImplicit => true
  | _ => false
def nmB (N : List Str) (i : Nat) (x : Str) : Bool := decide (N[i]? = some x)
def plainN (x : Str) : Bool := !(x == ("__debug__" : Str)) && !(x == ("__classdict__" : Str))
def varB (N : List Str) (sc : Scope) (i : Nat) : Expr → Bool
  | .Name x _ => nmB N i x && visB sc x && plainN x
  | _ => false
def noSet : Expr → Bool
  | .Set .. => false
  | _ => true
theorem noSet_ok {e : Expr} (h : noSet e = true) (env : PySem.Env) : ∀ x, foldedSetIterable e env x = pure x := by
  intro x
  cases e <;> first | rfl | cases h
def ownOf : TGt → Expr → List (Str × Nat)
  | .one i, .Name x _ => [(x, i)]
  | .two i j, .Tuple [.Name x _, .Name y _] _ _ => [(x, i), (y, j)]
  | _, _ => []
/-- a target of a walk -/
def tgB (N : List Str) (sc : Scope) : TGt → Expr → Bool
  | .one i, .Name x _ => nmB N i x && locB sc x
  | .two i j, .Tuple [.Name x _, .Name y _] _ _ => nmB N i x && locB sc x && nmB N j y && locB sc y
  | _, _ => false
structure CkF where
  e : Expr → Bool
  an : List Expr → Bool
  orr : List Expr → Bool
def CkF.of (f : Expr → Bool) : CkF where
  e := f
  an := fun l => match l with | [x] => f x | _ => false
  orr := fun l => match l with | [x] => f x | _ => false
def opB (a b : Operator) : Bool := match a, b with
  | .Add, .Add => true
  | .Sub, .Sub => true
  | .Mult, .Mult => true
  | .Mod, .Mod => true
  | .FloorDiv, .FloorDiv => true
  | .Pow, .Pow => true
  | _, _ => false
def cmB (a b : CmpOp) : Bool := match a, b with
  | .Eq, .Eq => true
  | .NotEq, .NotEq => true
  | .Lt, .Lt => true
  | .LtE, .LtE => true
  | .Gt, .Gt => true
  | .GtE, .GtE => true
  | .In, .In => true
  | .NotIn, .NotIn => true
  | .Is, .Is => true
  | .IsNot, .IsNot => true
  | _, _ => false
theorem opB_eq {a b : Operator} (h : opB a b = true) : a = b := by
  cases a <;> cases b <;> first | rfl | cases h
theorem cmB_eq {a b : CmpOp} (h : cmB a b = true) : a = b := by
  cases a <;> cases b <;> first | rfl | cases h
def notOdd : Expr → Bool
  | .Starred .. => false
  | .Slice .. => false
  | _ => true
/-- the tables alone -/
structure Tb where
  W : List Str
  fnm : Nat → Option Str
  gnm : Nat → Option Str
  gdm : Nat → Option Str
  gms : Nat → List Nat
  xcl : List (Nat × Nat)
  xcs : List Nat
abbrev Tx.tb (T : Tx) : Tb := ⟨T.W, T.fnm, T.gnm, T.gdm, T.gms, T.xcl, T.xcs⟩
/-- the keys of a display are these words -/
def keysB (W : List Str) : List Nat → List (Option Expr) → Bool
  | [], [] => true
  | k :: ks, some (.Constant (.str z) _ _) :: r => decide (W[k]? = some z) && keysB W ks r
  | _, _ => false
section
variable (T : Tb) (N : List Str)
mutual
def ck : IE → Scope → CkF
  | .never, sc => CkF.of notOdd
  | .var i, sc => CkF.of (varB N sc i)
  | .cI j, sc => CkF.of fun e => match e with | .Constant (.int k) _ _ => decide (j = k) | _ => false
  | .cB j, sc => CkF.of fun e => match e with | .Constant (.bool k) _ _ => decide (j = k) | _ => false
  | .cN, sc => CkF.of fun e => match e with | .Constant .none _ _ => true | _ => false
  | .cW j, sc => CkF.of fun e => match e with | .Constant (.str k) _ _ => decide (T.W[j]? = some k) | _ => false
  | .gl g, sc => CkF.of fun e => match e with | .Name x _ => decide (T.gnm g = some x) && glB sc x && plainN x | _ => false
  | .bin op a c, sc => CkF.of fun e => match e with | .BinOp x o y _ => opB (pOp op) o && (ck a sc).e x && (ck c sc).e y | _ => false
  | .neg a, sc => CkF.of fun e => match e with | .UnaryOp .USub x _ => (ck a sc).e x | _ => false
  | .cmp op a c, sc => CkF.of fun e => match e with | .Compare x [o] [y] _ => cmB (pCmp op) o && !behindInMarks (pCmp op) y && (ck a sc).e x && (ck c sc).e y | _ => false
  | .ch o1 o2 a c d, sc => CkF.of fun e => match e with
      | .Compare x [p1, p2] [y, z] _ => cmB (pCmp o1) p1 && cmB (pCmp o2) p2 && !lastMarks [pCmp o1, pCmp o2] [y, z] && (ck a sc).e x && (ck c sc).e y && (ck d sc).e z
      | _ => false
  | .and_ a c, sc =>
      let f := fun e => match e with | .BoolOp .And (x :: y :: r) _ => (ck a sc).e x && (ck c sc).an (y :: r) | _ => false
      { CkF.of f with an := fun l => match l with | [x] => f x | x :: y :: r => (ck a sc).e x && (ck c sc).an (y :: r) | _ => false }
  | .or_ a c, sc =>
      let f := fun e => match e with | .BoolOp .Or (x :: y :: r) _ => (ck a sc).e x && (ck c sc).orr (y :: r) | _ => false
      { CkF.of f with orr := fun l => match l with | [x] => f x | x :: y :: r => (ck a sc).e x && (ck c sc).orr (y :: r) | _ => false }
  | .not_ a, sc => CkF.of fun e => match e with | .UnaryOp .Not x _ => (ck a sc).e x | _ => false
  | .ite c a d, sc => CkF.of fun e => match e with | .IfExp x y z _ => (ck c sc).e x && (ck a sc).e y && (ck d sc).e z | _ => false
  | .tup es, sc => CkF.of fun e => match e with | .Tuple xs _ _ => decide (xs.length ≤ 1000) && cks es sc xs | _ => false
  | .lst es, sc => CkF.of fun e => match e with | .List xs _ => decide (xs.length ≤ 1000) && cks es sc xs | _ => false
  | .dnew, sc => CkF.of fun e => match e with | .Dict [] [] _ => true | _ => false
  | .idx a c, sc => CkF.of fun e => match e with | .Subscript x y _ => (ck a sc).e x && (ck c sc).e y | _ => false
  | .idxV i c, sc => CkF.of fun e => match e with | .Subscript x y _ => varB N sc i x && (ck c sc).e y | _ => false
  | .slL a lo, sc => CkF.of fun e => match e with | .Subscript x (.Slice (some y) none none _) _ => (ck a sc).e x && (ck lo sc).e y | _ => false
  | .slU a hi, sc => CkF.of fun e => match e with | .Subscript x (.Slice none (some y) none _) _ => (ck a sc).e x && (ck hi sc).e y | _ => false
  | .slB a lo hi, sc => CkF.of fun e => match e with | .Subscript x (.Slice (some y) (some z) none _) _ => (ck a sc).e x && (ck lo sc).e y && (ck hi sc).e z | _ => false
  | .slR a, sc => CkF.of fun e => match e with | .Subscript x (.Slice none none (some (.UnaryOp .USub (.Constant (.int c) _ _) _)) _) _ => decide (c = 1) && (ck a sc).e x | _ => false
  | .call f es, sc => CkF.of fun e => match e with | .Call (.Name x _) xs [] _ => decide (T.fnm f = some x) && glB sc x && plainN x && cks es sc xs | _ => false
  | .bi i a, sc => CkF.of fun e => match e with | .Call (.Name x _) [y] [] _ => decide (x = biName i) && glB sc x && (ck a sc).e y | _ => false
  | .b2 i a c, sc => CkF.of fun e => match e with | .Call (.Name x _) [y, z] [] _ => decide (x = b2Name i) && glB sc x && (ck a sc).e y && (ck c sc).e z | _ => false
  | .isi t a, sc => CkF.of fun e => match e with | .Call (.Name x _) [y, .Name z _] [] _ => decide (x = ("isinstance" : Str)) && glB sc x && decide (z = tyName t) && glB sc z && (ck a sc).e y | _ => false
  | .tupR a, sc => CkF.of fun e => match e with | .Call (.Name x _) [.Call (.Name z _) [y] [] _] [] _ => decide (x = ("tuple" : Str)) && glB sc x && decide (z = ("range" : Str)) && glB sc z && (ck a sc).e y | _ => false
  | .lstR a, sc => CkF.of fun e => match e with | .Call (.Name x _) [.Call (.Name z _) [y] [] _] [] _ => decide (x = ("list" : Str)) && glB sc x && decide (z = ("range" : Str)) && glB sc z && (ck a sc).e y | _ => false
  | .comp t it cs a, sc => CkF.of fun e => match e with
      | .ListComp el [⟨tg, iter, ifs, z⟩] scope _ => decide (z = 0) && tgB N scope t tg && ckI it sc iter && decide (ifs.length ≤ 1) && cks cs scope ifs &&
          (ck a scope).e el && blkC N sc scope (ownOf t tg) && noSet iter
      | _ => false
  | .dget i k, sc => CkF.of fun e => match e with | .Subscript x y _ => varB N sc i x && (ck k sc).e y | _ => false
  | .gget g k, sc => CkF.of fun e => match e with | .Subscript (.Name x _) y _ => decide (T.gdm g = some x) && glB sc x && plainN x && (ck k sc).e y | _ => false
  | .din neg a i, sc => CkF.of fun e => match e with | .Compare x [o] [y] _ => cmB (if neg then .NotIn else .In) o && !behindInMarks (if neg then .NotIn else .In) y && (ck a sc).e x && varB N sc i y | _ => false
  | .dinG neg a g ms, sc => CkF.of fun e => match e with | .Compare x [o] [.Name y _] _ => !neg && cmB .In o && (ck a sc).e x && decide (T.gdm g = some y) && glB sc y && plainN y && ms.all (fun k => (T.gms g).contains k) | _ => false
  | .dlit ks es, sc => CkF.of fun e => match e with | .Dict keys vals _ => decide (keys.length = 16 ∨ keys.length = 18 ∨ (0 < keys.length ∧ keys.length ≤ 15)) && decide (keys.length = vals.length) && keysB T.W ks keys && cks es sc vals | _ => false
  | .sortW a ks ss, sc => CkF.of fun e => match e with | .Call (.Name x _) [y] [] _ => decide (x = ("sorted" : Str)) && glB sc x && (ck a sc).e y && decide (ks.length < 64) && ss.isPerm ks && (match strsOf T.W ss with | some l => PyProof.Rows.sortedS l | none => false) | _ => false
  | .getE d k z, sc => CkF.of fun e => match e with | .Call (.Attribute (.Dict ks vs dp) m ap) [y, u] [] pos => decide (m = ("get" : Str)) && (ap.endLine == pos.line) && (ck d sc).e (.Dict ks vs dp) && (ck k sc).e y && (ck z sc).e u | _ => false
  | .dgetE d k, sc => CkF.of fun e => match e with | .Subscript x y _ => (ck d sc).e x && (ck k sc).e y | _ => false
  | .eqE neg i, sc => CkF.of fun e => match e with | .Compare x [o] [.List [] _] _ => cmB (pCmp (if neg then .ne else .eq)) o && varB N sc i x | _ => false
  | .maxD a c, sc => CkF.of fun e => match e with | .Call (.Name x _) [y] [⟨some k, z, _⟩] _ => decide (x = ("max" : Str)) && decide (k = Str.ofString "default") && glB sc x && (ck a sc).e y && (ck c sc).e z | _ => false
  | .sset a, sc => CkF.of fun e => match e with | .Call (.Name x _) [.Call (.Name z _) [y] [] _] [] _ => decide (x = ("sorted" : Str)) && decide (z = ("set" : Str)) && glB sc x && glB sc z && (ck a sc).e y | _ => false
  | .app i a, sc => CkF.of fun e => match e with | .Call (.Attribute x m ap) [y] [] pos => decide (m = ("append" : Str)) && (ap.endLine == pos.line) && varB N sc i x && (ck a sc).e y | _ => false
  | .ext i a, sc => CkF.of fun e => match e with | .Call (.Attribute x m ap) [y] [] pos => decide (m = ("extend" : Str)) && (ap.endLine == pos.line) && varB N sc i x && (ck a sc).e y | _ => false
  | .popAt i a, sc => CkF.of fun e => match e with | .Call (.Attribute x m ap) [y] [] pos => decide (m = ("pop" : Str)) && (ap.endLine == pos.line) && varB N sc i x && (ck a sc).e y | _ => false
  | .pop i, sc => CkF.of fun e => match e with | .Call (.Attribute x m ap) [] [] pos => decide (m = ("pop" : Str)) && (ap.endLine == pos.line) && varB N sc i x | _ => false
  | .clear i, sc => CkF.of fun e => match e with | .Call (.Attribute x m ap) [] [] pos => decide (m = ("clear" : Str)) && (ap.endLine == pos.line) && varB N sc i x | _ => false
def cks : IEs → Scope → List Expr → Bool
  | .nil, sc => fun l => match l with | [] => true | _ => false
  | .cons a r, sc => fun l => match l with | x :: xs => (ck a sc).e x && cks r sc xs | _ => false
def ckI : IT → Scope → Expr → Bool
  | .seq a, sc => fun e => (ck a sc).e e
  | .rng1 a, sc => fun e => match e with | .Call (.Name x _) [y] [] _ => decide (x = ("range" : Str)) && glB sc x && (ck a sc).e y | _ => false
  | .rng2 a c, sc => fun e => match e with | .Call (.Name x _) [y, z] [] _ => decide (x = ("range" : Str)) && glB sc x && (ck a sc).e y && (ck c sc).e z | _ => false
end
end
end PD
namespace PD
open PySem L2
section
variable {T : Tx} {N : List Str} {n : Nat} {Φ : Phi}
structure Snd (T : Tx) (N : List Str) (n : Nat) (Φ : Phi) (a : IE) : Prop where
  e : ∀ (X : Cx) (sc : Scope) (b : Bs), Gx T X N sc n → b.cs = T.cs → ∀ x, (ck T.tb N a sc).e x = true → JE X b x (sem Φ T.gv a)
  an : ∀ (X : Cx) (sc : Scope) (b : Bs), Gx T X N sc n → b.cs = T.cs → ∀ (x : Expr) (r : List Expr) (pos : Pos), (ck T.tb N a sc).an (x :: r) = true → JB X b (.BoolOp .And (x :: r) pos) (sem Φ T.gv a)
  orr : ∀ (X : Cx) (sc : Scope) (b : Bs), Gx T X N sc n → b.cs = T.cs → ∀ (x : Expr) (r : List Expr) (pos : Pos), (ck T.tb N a sc).orr (x :: r) = true → JB X b (.BoolOp .Or (x :: r) pos) (sem Φ T.gv a)
theorem Snd.of {a : IE} (f : Scope → Expr → Bool) (hf : ∀ sc, ck T.tb N a sc = CkF.of (f sc)) (h : ∀ (X : Cx) (sc : Scope) (b : Bs), Gx T X N sc n → b.cs = T.cs → ∀ x, f sc x = true → JE X b x (sem Φ T.gv a)) : Snd T N n Φ a where
  e := fun X sc b g hb x hx => h X sc b g hb x (by rw [hf] at hx; exact hx)
  an := fun X sc b g hb x r pos hx => by
    rw [hf] at hx
    cases r with
    | nil => exact jb_and1 (h X sc b g hb x hx)
    | cons _ _ => cases hx
  orr := fun X sc b g hb x r pos hx => by
    rw [hf] at hx
    cases r with
    | nil => exact jb_or1 (h X sc b g hb x hx)
    | cons _ _ => cases hx
variable {X : Cx} {sc : Scope} {b : Bs} {i : Nat} {x : Expr} {y : Str}
theorem Gx.hK (g : Gx T X N sc n) (hb : b.cs = T.cs) : X.K = b.cs.K := by rw [g.K, hb]
theorem vis_of (g : Gx T X N sc n) (h : visB sc y = true) : Vis X.env.scope y := by
  unfold visB at h
  rcases g.scp y with e | ⟨_, e⟩
  · unfold Vis
    rw [e]
    split at h
    · exact .inl (by assumption)
    · exact .inr (.inl (by assumption))
    · exact .inr (.inr (by assumption))
    · cases h
  · exact .inr (.inl e)
theorem loc_of (h : locB sc y = true) : L2.Loc sc y := by
  unfold locB at h
  split at h
  · exact .inl (by assumption)
  · exact .inr (by assumption)
  · cases h
theorem locX (g : Gx T X N sc n) (h : L2.Loc sc y) : L2.Loc X.env.scope y := by
  unfold L2.Loc at h ⊢
  rcases g.scp y with e | ⟨e, _⟩
  · rw [e]
    exact h
  · rw [e] at h
    rcases h with h | h <;> cases h
theorem gl_of (g : Gx T X N sc n) (h : glB sc y = true) : Gl X y := by
  show X.env.scope.names.lookup y = some .globalImplicit
  unfold glB at h
  split at h
  · rename_i e
    rcases g.scp y with q | ⟨q, _⟩
    · rw [q]; exact e
    · rw [e] at q; cases q
  · cases h
theorem plain_of (h : plainN y = true) : (y == ("__debug__" : Str)) = false ∧ (y == ("__classdict__" : Str)) = false := by
  unfold plainN at h
  rw [Bool.and_eq_true] at h
  exact ⟨by simpa using h.1, by simpa using h.2⟩
theorem nm_of (g : Gx T X N sc n) (h : nmB N i y = true) : X.N[i]? = some y := by
  rw [g.ns]
  exact of_decide_eq_true h
theorem var_of (g : Gx T X N sc n) (h : varB N sc i x = true) : PE X x (tVar i) ∧ Bare X x ∧ ∃ y p, x = .Name y p := by
  unfold varB at h
  split at h
  · rename_i y p
    rw [Bool.and_eq_true, Bool.and_eq_true] at h
    obtain ⟨⟨h1, h2⟩, h3⟩ := h
    obtain ⟨p1, p2⟩ := plain_of h3
    exact ⟨pe_var (nm_of g h1) (vis_of g h2) p1 p2, bare_name, y, p, rfl⟩
  · cases h
theorem mg_of' (ok : TOk T) (g : Gx T X N sc n) (h : y ∈ bltNames) : X.mg y = none := by
  rw [g.mg]
  exact ok.blt y h
theorem tg_of (g : Gx T X N sc n) {t : TGt} (h : tgB N sc t x = true) : PG X x (gT T.K t) := by
  unfold tgB at h
  split at h
  · rw [Bool.and_eq_true] at h
    have l := loc_of h.2
    exact pg_name (by rw [g.ns]; exact g.nd) (nm_of g h.1) (locX g l) (g.fnok _ l)
  · rw [Bool.and_eq_true, Bool.and_eq_true, Bool.and_eq_true] at h
    obtain ⟨⟨⟨h1, h2⟩, h3⟩, h4⟩ := h
    have l1 := loc_of h2
    have l2 := loc_of h4
    have hN : X.N.Nodup := by rw [g.ns]; exact g.nd
    show PG X _ (gTup T.K 2 (gCons (gName _) (gCons (gName _) gNil)))
    rw [← g.K]
    exact pg_tup g.calm (pgs_cons (pg_name hN (nm_of g h1) (locX g l1) (g.fnok _ l1)) (pgs_cons (pg_name hN (nm_of g h3) (locX g l2) (g.fnok _ l2)) pgs_nil)) rfl rfl
  · cases h
theorem relabel_at {env : PySem.Env} : ∀ (l : List (Str × NameKind)) (x : Str), (l.map fun (n, k) => if (k == NameKind.free && env.scope.kind == .function && env.kindOf n == some .cell) then (n, NameKind.cell) else (n, k)).lookup x = l.lookup x ∨
    (l.lookup x = some .free ∧ (l.map fun (n, k) => if (k == NameKind.free && env.scope.kind == .function && env.kindOf n == some .cell) then (n, NameKind.cell) else (n, k)).lookup x = some .cell)
  | [], _ => .inl rfl
  | (m, k) :: r, x => by
    have ih := relabel_at (env := env) r x
    rw [List.map_cons]
    by_cases e : x = m
    · subst e
      by_cases c : (k == NameKind.free && env.scope.kind == .function && env.kindOf x == some .cell) = true
      · refine .inr ⟨?_, ?_⟩
        · rw [List.lookup_cons_self]
          rw [Bool.and_eq_true, Bool.and_eq_true] at c
          rw [eq_of_beq c.1.1]
        · simp only [c, if_true]
          exact List.lookup_cons_self
      · refine .inl ?_
        simp only [c, if_neg Bool.false_ne_true]
        exact (List.lookup_cons_self (k := x) (b := k)).trans (List.lookup_cons_self (k := x) (b := k)).symm
    · have ne : (x == m) = false := beq_eq_false_iff_ne.mpr e
      have h1 : ∀ k' : NameKind, List.lookup x ((m, k') :: r) = r.lookup x := fun k' => by
        rw [List.lookup_cons, ne]
      have h2 : ∀ (k' : NameKind) (l : List (Str × NameKind)), List.lookup x ((m, k') :: l) = l.lookup x := fun k' l => by
        rw [List.lookup_cons, ne]
      rw [h1]
      by_cases c : (k == NameKind.free && env.scope.kind == .function && env.kindOf m == some .cell) = true
      · simp only [c, if_true]
        rw [h2]
        exact ih
      · simp only [c, if_neg Bool.false_ne_true]
        rw [h2]
        exact ih
theorem Gx.blk (g : Gx T X N sc n) (s : Shared) (H : Hp) (scope : Scope) (C : Addr) (cl : List (Str × Addr)) (fp : List Addr) : Gx T (X.blk s H scope (compEnvC scope cl C X.env) fp) N scope n where
  prog := g.prog
  wld := g.wld
  K := g.K
  mg := g.mg
  base := g.base
  ns := g.ns
  scp := fun x => relabel_at scope.names x
  nd := g.nd
  calm := g.calm
  guards := g.guards
  room := g.room
  fnok := fun x hx => by
    rcases hx with h | h
    · refine .inr ?_
      rcases relabel_at (env := X.env) scope.names x with q | ⟨q, _⟩
      · exact q.trans h
      · rw [h] at q; cases q
    · refine .inl ?_
      show (scope.names.lookup x == some .cell) = true
      rw [h]
      rfl

/-! ### every expression that matches -/
theorem je_never {x : Expr} (h : notOdd x = true) : JE X b x (sem Φ T.gv .never) where
  ev := ⟨fun pins s σ H Q I ⟨env, G, own, d, env', q, S, k⟩ => nomatch q⟩
  lk := ⟨fun pins s σ H Q I ⟨env, G, d, env', q, S, k⟩ => nomatch q⟩
  t := ⟨fun pins s σ H Q I ⟨env, G, d, env', q, S, k⟩ => nomatch q⟩
  ar := ⟨fun pins s σ H Q I ⟨env, G, d, env', q, S, k⟩ => nomatch q⟩
  ns := fun es env => by cases x <;> first | rfl | cases h
  ix := fun o i => by cases x <;> first | rfl | cases h
theorem blk_ok {scope : Scope} {own : List (Str × Nat)} (g : Gx T X N sc n) (h : blkC N sc scope own = true) : BlkOk X.N X.env.scope scope own := by
  obtain ⟨h1, h2, h3, h4, h5⟩ := blkOk_by h
  rw [g.ns]
  refine ⟨h1, h2, h3, fun y hy e => ?_, h5⟩
  rcases g.scp y.1 with q | ⟨_, q⟩
  · rw [q]; exact h4 y hy e
  · exact .inl q
abbrev Cal (T : Tx) (n : Nat) (Φ : Phi) : Prop := ∀ f x, T.fnm f = some x → FnG T n x (Φ f)
mutual
theorem snd (ok : TOk T) (F : Cal T n Φ) : ∀ a : IE, Snd T N n Φ a
  | .never => Snd.of (fun _ => notOdd) (fun _ => rfl) fun X sc b g hb x h => je_never h
  | .var i => Snd.of (fun sc => varB N sc i) (fun _ => rfl) fun X sc b g hb x h => by
    obtain ⟨h1, h2, _⟩ := var_of g h
    exact JE.va (g.hK hb) h1 h2
  | .cI j => Snd.of _ (fun _ => rfl) fun X sc b g hb x h => by
    try dsimp only at h
    split at h
    · have e := of_decide_eq_true h
      subst e
      exact JE.co (g.hK hb) pe_int bare_const fun G => .int _
    · cases h
  | .cB j => Snd.of _ (fun _ => rfl) fun X sc b g hb x h => by
    try dsimp only at h
    split at h
    · have e := of_decide_eq_true h
      subst e
      exact JE.co (g.hK hb) pe_bl bare_const fun G => .bl _
    · cases h
  | .cN => Snd.of _ (fun _ => rfl) fun X sc b g hb x h => by
    try dsimp only at h
    split at h
    · exact JE.co (g.hK hb) pe_non bare_const fun G => .non
    · cases h
  | .cW j => Snd.of _ (fun _ => rfl) fun X sc b g hb x h => by
    try dsimp only at h
    split at h
    · have e := of_decide_eq_true h
      exact JE.co (g.hK hb) pe_str bare_const fun G => .w (by rw [hb]; exact e)
    · cases h
  | .gl k => Snd.of _ (fun _ => rfl) fun X sc b g hb x h => by
    try dsimp only at h
    split at h
    · simp only [Bool.and_eq_true] at h
      obtain ⟨⟨h1, h2⟩, h3⟩ := h
      obtain ⟨v, u, m, r, q⟩ := ok.glob k _ (of_decide_eq_true h1)
      exact JE.co (g.hK hb) (pe_glob (gl_of g h2) (by rw [g.mg]; exact m) r (plain_of h3).1) bare_name fun G => by rw [hb]; exact q G
    · cases h
  | .bin op a c => Snd.of _ (fun _ => rfl) fun X sc b g hb x h => by
    try dsimp only at h
    split at h
    · simp only [Bool.and_eq_true] at h
      obtain ⟨⟨h1, h2⟩, h3⟩ := h
      rw [← opB_eq h1]
      exact je_bin (g.hK hb) ((snd ok F a).e X sc b g hb _ h2) ((snd ok F c).e X sc b g hb _ h3)
    · cases h
  | .neg a => Snd.of _ (fun _ => rfl) fun X sc b g hb x h => by
    try dsimp only at h
    split at h
    · exact je_neg (g.hK hb) ((snd ok F a).e X sc b g hb _ h)
    · cases h
  | .cmp op a c => Snd.of _ (fun _ => rfl) fun X sc b g hb x h => by
    try dsimp only at h
    split at h
    · simp only [Bool.and_eq_true] at h
      obtain ⟨⟨⟨h1, h2⟩, h3⟩, h4⟩ := h
      rw [← cmB_eq h1]
      exact je_cmp (g.hK hb) (by rw [hb]; exact ok.wok) g.units (by simpa using h2) ((snd ok F a).e X sc b g hb _ h3) ((snd ok F c).e X sc b g hb _ h4)
    · cases h
  | .ch o1 o2 a c d => Snd.of _ (fun _ => rfl) fun X sc b g hb x h => by
    try dsimp only at h
    split at h
    · simp only [Bool.and_eq_true] at h
      obtain ⟨⟨⟨⟨⟨h1, h2⟩, h3⟩, h4⟩, h5⟩, h6⟩ := h
      rw [← cmB_eq h1, ← cmB_eq h2]
      exact je_ch (g.hK hb) (by rw [hb]; exact ok.wok) g.units (by simpa using h3) ((snd ok F a).e X sc b g hb _ h4) ((snd ok F c).e X sc b g hb _ h5) ((snd ok F d).e X sc b g hb _ h6)
    · cases h
  | .and_ a c => by
    have tail : ∀ (X : Cx) (sc : Scope) (b : Bs), Gx T X N sc n → b.cs = T.cs → ∀ (x y : Expr) (r : List Expr) (pos : Pos), (ck T.tb N a sc).e x = true → (ck T.tb N c sc).an (y :: r) = true → JB X b (.BoolOp .And (x :: y :: r) pos) (sem Φ T.gv (.and_ a c)) :=
      fun X sc b g hb x y r pos h1 h2 => jb_and ((snd ok F a).e X sc b g hb x h1) ((snd ok F c).an X sc b g hb y r pos h2)
    have one : ∀ (X : Cx) (sc : Scope) (b : Bs), Gx T X N sc n → b.cs = T.cs → ∀ x, (ck T.tb N (.and_ a c) sc).e x = true → JE X b x (sem Φ T.gv (.and_ a c)) := by
      intro X sc b g hb x h
      simp only [ck, CkF.of] at h
      split at h
      · simp only [Bool.and_eq_true] at h
        exact je_and (tail X sc b g hb _ _ _ _ h.1 h.2)
      · cases h
    refine ⟨one, fun X sc b g hb x r pos h => ?_, fun X sc b g hb x r pos h => ?_⟩
    · cases r with
      | nil => exact jb_and1 (one X sc b g hb x h)
      | cons y r =>
        have h : ((ck T.tb N a sc).e x && (ck T.tb N c sc).an (y :: r)) = true := h
        simp only [Bool.and_eq_true] at h
        exact tail X sc b g hb _ _ _ _ h.1 h.2
    · cases r with
      | nil => exact jb_or1 (one X sc b g hb x h)
      | cons y r => cases h
  | .or_ a c => by
    have tail : ∀ (X : Cx) (sc : Scope) (b : Bs), Gx T X N sc n → b.cs = T.cs → ∀ (x y : Expr) (r : List Expr) (pos : Pos), (ck T.tb N a sc).e x = true → (ck T.tb N c sc).orr (y :: r) = true → JB X b (.BoolOp .Or (x :: y :: r) pos) (sem Φ T.gv (.or_ a c)) :=
      fun X sc b g hb x y r pos h1 h2 => jb_or ((snd ok F a).e X sc b g hb x h1) ((snd ok F c).orr X sc b g hb y r pos h2)
    have one : ∀ (X : Cx) (sc : Scope) (b : Bs), Gx T X N sc n → b.cs = T.cs → ∀ x, (ck T.tb N (.or_ a c) sc).e x = true → JE X b x (sem Φ T.gv (.or_ a c)) := by
      intro X sc b g hb x h
      simp only [ck, CkF.of] at h
      split at h
      · simp only [Bool.and_eq_true] at h
        exact je_or (tail X sc b g hb _ _ _ _ h.1 h.2)
      · cases h
    refine ⟨one, fun X sc b g hb x r pos h => ?_, fun X sc b g hb x r pos h => ?_⟩
    · cases r with
      | nil => exact jb_and1 (one X sc b g hb x h)
      | cons y r => cases h
    · cases r with
      | nil => exact jb_or1 (one X sc b g hb x h)
      | cons y r =>
        have h : ((ck T.tb N a sc).e x && (ck T.tb N c sc).orr (y :: r)) = true := h
        simp only [Bool.and_eq_true] at h
        exact tail X sc b g hb _ _ _ _ h.1 h.2
  | .not_ a => Snd.of _ (fun _ => rfl) fun X sc b g hb x h => by
    try dsimp only at h
    split at h
    · exact je_not ((snd ok F a).e X sc b g hb _ h)
    · cases h
  | .ite c a d => Snd.of _ (fun _ => rfl) fun X sc b g hb x h => by
    try dsimp only at h
    split at h
    · simp only [Bool.and_eq_true] at h
      obtain ⟨⟨h1, h2⟩, h3⟩ := h
      exact je_ite ((snd ok F c).e X sc b g hb _ h1) ((snd ok F a).e X sc b g hb _ h2) ((snd ok F d).e X sc b g hb _ h3)
    · cases h
  | .tup es => Snd.of _ (fun _ => rfl) fun X sc b g hb x h => by
    try dsimp only at h
    split at h
    · simp only [Bool.and_eq_true] at h
      exact je_tup (g.hK hb) (of_decide_eq_true h.1) (snds ok F es X sc b g hb _ h.2)
    · cases h
  | .lst es => Snd.of _ (fun _ => rfl) fun X sc b g hb x h => by
    try dsimp only at h
    split at h
    · simp only [Bool.and_eq_true] at h
      exact je_lst (g.hK hb) (of_decide_eq_true h.1) (snds ok F es X sc b g hb _ h.2)
    · cases h
  | .dnew => Snd.of _ (fun _ => rfl) fun X sc b g hb x h => by
    try dsimp only at h
    split at h
    · exact je_dnew (g.hK hb)
    · cases h
  | .idx a c => Snd.of _ (fun _ => rfl) fun X sc b g hb x h => by
    try dsimp only at h
    split at h
    · simp only [Bool.and_eq_true] at h
      exact je_idx (g.hK hb) ((snd ok F a).e X sc b g hb _ h.1) ((snd ok F c).e X sc b g hb _ h.2)
    · cases h
  | .idxV i c => Snd.of _ (fun _ => rfl) fun X sc b g hb x h => by
    try dsimp only at h
    split at h
    · simp only [Bool.and_eq_true] at h
      exact je_idxV (g.hK hb) (var_of g h.1).1 ((snd ok F c).e X sc b g hb _ h.2)
    · cases h
  | .slL a c => Snd.of _ (fun _ => rfl) fun X sc b g hb x h => by
    try dsimp only at h
    split at h
    · simp only [Bool.and_eq_true] at h
      exact je_slL (g.hK hb) ((snd ok F a).e X sc b g hb _ h.1) ((snd ok F c).e X sc b g hb _ h.2)
    · cases h
  | .slU a c => Snd.of _ (fun _ => rfl) fun X sc b g hb x h => by
    try dsimp only at h
    split at h
    · simp only [Bool.and_eq_true] at h
      exact je_slU (g.hK hb) ((snd ok F a).e X sc b g hb _ h.1) ((snd ok F c).e X sc b g hb _ h.2)
    · cases h
  | .slB a c d => Snd.of _ (fun _ => rfl) fun X sc b g hb x h => by
    try dsimp only at h
    split at h
    · simp only [Bool.and_eq_true] at h
      exact je_slB (g.hK hb) ((snd ok F a).e X sc b g hb _ h.1.1) ((snd ok F c).e X sc b g hb _ h.1.2) ((snd ok F d).e X sc b g hb _ h.2)
    · cases h
  | .slR a => Snd.of _ (fun _ => rfl) fun X sc b g hb x h => by
    try dsimp only at h
    split at h
    · simp only [Bool.and_eq_true] at h
      have e := of_decide_eq_true h.1
      subst e
      exact je_slR (g.hK hb) ((snd ok F a).e X sc b g hb _ h.2)
    · cases h
  | .call f es => Snd.of _ (fun _ => rfl) fun X sc b g hb x h => by
    try dsimp only at h
    split at h
    · simp only [Bool.and_eq_true] at h
      obtain ⟨⟨⟨h1, h2⟩, h3⟩, h4⟩ := h
      have Ff := F f _ (of_decide_eq_true h1)
      have ja := snds ok F es X sc b g hb _ h4
      rename_i xs pos
      cases xs with
      | nil =>
        cases es with
        | nil => exact je_call0 g hb Ff (gl_of g h2) (plain_of h3).1
        | cons _ _ => cases h4
      | cons y ys =>
        cases es with
        | nil => cases h4
        | cons a r =>
          have hh : ((ck T.tb N a sc).e y && cks T.tb N r sc ys) = true := h4
          simp only [Bool.and_eq_true] at hh
          exact je_call g hb Ff (gl_of g h2) (plain_of h3).1 (((snd ok F a).e X sc b g hb _ hh.1).ns _ _) ja
    · cases h
  | .bi i a => Snd.of _ (fun _ => rfl) fun X sc b g hb x h => by
    try dsimp only at h
    split at h
    · simp only [Bool.and_eq_true] at h
      obtain ⟨⟨h1, h2⟩, h3⟩ := h
      have e := of_decide_eq_true h1
      subst e
      exact je_bi (g.hK hb) (by rw [hb]; exact ok.wok) (cr_bi g.calm g.units g.guards cr_sortT i) (gl_of g h2) (mg_of' ok g (bi_mem i)) ((snd ok F a).e X sc b g hb _ h3)
    · cases h
  | .b2 i a c => Snd.of _ (fun _ => rfl) fun X sc b g hb x h => by
    try dsimp only at h
    split at h
    · simp only [Bool.and_eq_true] at h
      obtain ⟨⟨⟨h1, h2⟩, h3⟩, h4⟩ := h
      have e := of_decide_eq_true h1
      subst e
      exact je_b2 (g.hK hb) g.calm (gl_of g h2) (mg_of' ok g (by cases i <;> decide +kernel)) ((snd ok F a).e X sc b g hb _ h3) ((snd ok F c).e X sc b g hb _ h4)
    · cases h
  | .isi t a => Snd.of _ (fun _ => rfl) fun X sc b g hb x h => by
    try dsimp only at h
    split at h
    · simp only [Bool.and_eq_true] at h
      obtain ⟨⟨⟨⟨h1, h2⟩, h3⟩, h4⟩, h5⟩ := h
      have e := of_decide_eq_true h1
      subst e
      have e := of_decide_eq_true h3
      subst e
      exact je_isi (g.hK hb) (gl_of g h2) (mg_of' ok g (by decide +kernel)) (gl_of g h4) (mg_of' ok g (by cases t <;> decide +kernel)) ((snd ok F a).e X sc b g hb _ h5)
    · cases h
  | .tupR a => Snd.of _ (fun _ => rfl) fun X sc b g hb x h => by
    try dsimp only at h
    split at h
    · simp only [Bool.and_eq_true] at h
      obtain ⟨⟨⟨⟨h1, h2⟩, h3⟩, h4⟩, h5⟩ := h
      have e := of_decide_eq_true h1
      subst e
      have e := of_decide_eq_true h3
      subst e
      exact je_tupR (g.hK hb) g.calm (gl_of g h2) (mg_of' ok g (by decide +kernel)) (gl_of g h4) (mg_of' ok g (by decide +kernel)) ((snd ok F a).e X sc b g hb _ h5)
    · cases h
  | .lstR a => Snd.of _ (fun _ => rfl) fun X sc b g hb x h => by
    try dsimp only at h
    split at h
    · simp only [Bool.and_eq_true] at h
      obtain ⟨⟨⟨⟨h1, h2⟩, h3⟩, h4⟩, h5⟩ := h
      have e := of_decide_eq_true h1
      subst e
      have e := of_decide_eq_true h3
      subst e
      exact je_lstR (g.hK hb) g.calm (gl_of g h2) (mg_of' ok g (by decide +kernel)) (gl_of g h4) (mg_of' ok g (by decide +kernel)) ((snd ok F a).e X sc b g hb _ h5)
    · cases h
  | .comp t it cs a => Snd.of _ (fun _ => rfl) fun X sc b g hb x h => by
    try dsimp only at h
    split at h
    · rename_i el tg iter ifs z scope pos
      simp only [Bool.and_eq_true] at h
      obtain ⟨⟨⟨⟨⟨⟨⟨h1, h2⟩, h3⟩, h0⟩, h4⟩, h5⟩, h6⟩, h7⟩ := h
      have e := of_decide_eq_true h1
      subst e
      refine JE.of (g.hK hb) ?_ bare_comp
      refine je_comp g.K hb g.calm (by rw [g.ns]; exact g.nd) (sndI ok F it X sc b g hb tg iter h3) (blk_ok g h6) ?_ ?_ ?_ ?_ (noSet_ok h7 _)
      · cases t with
        | one i =>
          unfold tgB at h2
          split at h2 <;> first | rfl | (rename_i q; cases q; done) | skip
          all_goals first | rfl | cases h2
        | two i j =>
          unfold tgB at h2
          split at h2 <;> first | rfl | (rename_i q; cases q; done) | skip
          all_goals first | rfl | cases h2
      · intro s H C cl fp
        exact tg_of (g.blk s H scope C cl fp) h2
      · intro s H C cl fp
        refine PTs.any fun b' hb' => ?_
        have gb := g.blk s H scope C cl fp
        have hl := of_decide_eq_true h0
        cases cs with
        | nil =>
          cases ifs with
          | nil => exact jt_nil
          | cons _ _ => cases h4
        | cons c r =>
          cases ifs with
          | nil => cases h4
          | cons y ys =>
            cases ys with
            | cons _ _ => simp at hl
            | nil =>
              cases r with
              | cons _ _ =>
                have hh : ((ck T.tb N c scope).e y && false) = true := h4
                simp at hh
              | nil =>
                have hh : ((ck T.tb N c scope).e y && true) = true := h4
                rw [Bool.and_true] at hh
                exact jt_one ((snd ok F c).e _ scope b' gb hb' _ hh)
      · intro s H C cl fp
        exact PE.any fun b' hb' => ((snd ok F a).e _ scope b' (g.blk s H scope C cl fp) hb' _ h5).ev
    · cases h
  | .dget i a => Snd.of _ (fun _ => rfl) fun X sc b g hb x h => by
    try dsimp only at h
    split at h
    · simp only [Bool.and_eq_true] at h
      exact je_dget (g.hK hb) (by rw [hb]; exact ok.wok) g.units (var_of g h.1).1 ((snd ok F a).e X sc b g hb _ h.2)
    · cases h
  | .gget k a => Snd.of _ (fun _ => rfl) fun X sc b g hb x h => by
    try dsimp only at h
    split at h
    · simp only [Bool.and_eq_true] at h
      obtain ⟨⟨⟨h1, h2⟩, h3⟩, h4⟩ := h
      obtain ⟨pa, ks, vs, e, m, _, q⟩ := ok.gdic k _ (of_decide_eq_true h1)
      exact je_gget (g.hK hb) (by rw [g.wld, hb]) e (pe_glob (gl_of g h2) (by rw [g.mg]; exact m) rfl (plain_of h3).1) (by rw [hb]; exact q) ((snd ok F a).e X sc b g hb _ h4)
    · cases h
  | .dinG neg a k ms => Snd.of _ (fun _ => rfl) fun X sc b g hb x h => by
    try dsimp only at h
    split at h
    · simp only [Bool.and_eq_true] at h
      obtain ⟨⟨⟨⟨⟨⟨h0, h1⟩, h2⟩, h3⟩, h4⟩, h5⟩, h6⟩ := h
      have hn : neg = false := by simpa using h0
      subst hn
      rw [← cmB_eq h1]
      obtain ⟨pa, ks, vs, e, m, low, q⟩ := ok.gdic k _ (of_decide_eq_true h3)
      refine je_dinG (g.hK hb) (by rw [g.wld, hb]) e low (pe_glob (gl_of g h4) (by rw [g.mg]; exact m) rfl (plain_of h5).1) (by rw [hb]; exact q) (fun j hj => ?_) rfl ((snd ok F a).e X sc b g hb _ h2)
      obtain ⟨z, a', hz, m', km⟩ := ok.gmis k _ (of_decide_eq_true h3) j (by
        have := List.all_eq_true.mp h6 j hj
        simpa using this)
      rw [m] at m'
      cases m'
      rw [hb]
      exact ⟨z, hz, km⟩
    · cases h
  | .dlit ks es => Snd.of _ (fun _ => rfl) fun X sc b g hb x h => by
    try dsimp only at h
    split at h
    · rename_i keys vals pos
      simp only [Bool.and_eq_true] at h
      obtain ⟨⟨⟨h1, hl⟩, h2⟩, h3⟩ := h
      have hn := of_decide_eq_true h1
      obtain ⟨kes, ek, trs, hp, ht⟩ := lits ok F es X sc g ks keys vals (of_decide_eq_true hl) h2 h3
      subst ek
      rw [List.length_map] at hn
      have hw : ks.length = kes.length := ht.len hp
      rw [← hb] at ht
      rcases hn with hn | hn | ⟨h0, hn⟩
      · exact je_dlit16 (g.hK hb) (by rw [hb]; exact ok.wok) hp ht hn (by omega)
      · exact je_dlit18 (g.hK hb) (by rw [hb]; exact ok.wok) hp ht hn (by omega)
      · exact je_dlit15 (g.hK hb) (by rw [hb]; exact ok.wok) hp ht (by rintro rfl; cases h0) hn
    · cases h
  | .sortW a ks ss => Snd.of _ (fun _ => rfl) fun X sc b g hb x h => by
    try dsimp only at h
    split at h
    · simp only [Bool.and_eq_true] at h
      obtain ⟨⟨⟨⟨⟨h1, h2⟩, h3⟩, h4⟩, h5⟩, h6⟩ := h
      have e1 := of_decide_eq_true h1
      subst e1
      split at h6
      · rename_i l hl
        exact je_sortW (g.hK hb) g.calm (gl_of g h2) (mg_of' ok g (by decide +kernel)) ((snd ok F a).e X sc b g hb _ h3) (by rw [hb]; exact hl) h6 (List.isPerm_iff.mp h5) (of_decide_eq_true h4)
      · cases h6
    · cases h
  | .getE d k z => Snd.of _ (fun _ => rfl) fun X sc b g hb x h => by
    try dsimp only at h
    split at h
    · rename_i ks vs dp m ap y u pos
      simp only [Bool.and_eq_true] at h
      obtain ⟨⟨⟨⟨h1, h2⟩, h3⟩, h4⟩, h5⟩ := h
      have e1 := of_decide_eq_true h1
      subst e1
      have jy := (snd ok F k).e X sc b g hb _ h4
      have ju := (snd ok F z).e X sc b g hb _ h5
      exact je_getE (g.hK hb) (by rw [hb]; exact ok.wok) (by have := g.units; omega) ((snd ok F d).e X sc b g hb _ h3) jy ju ⟨rfl, by rw [jy.ns, ju.ns]; rfl, h2, by rw [jy.ns, ju.ns]; rfl⟩
    · cases h
  | .dgetE d k => Snd.of _ (fun _ => rfl) fun X sc b g hb x h => by
    try dsimp only at h
    split at h
    · simp only [Bool.and_eq_true] at h
      exact je_dgetE (g.hK hb) (by rw [hb]; exact ok.wok) (by have := g.units; omega) ((snd ok F d).e X sc b g hb _ h.1) ((snd ok F k).e X sc b g hb _ h.2)
    · cases h
  | .eqE neg i => Snd.of _ (fun _ => rfl) fun X sc b g hb x h => by
    try dsimp only at h
    split at h
    · simp only [Bool.and_eq_true] at h
      obtain ⟨h1, h2⟩ := h
      rw [← cmB_eq h1]
      exact je_eqE (g.hK hb) (by rw [hb]; exact ok.wok) g.units (var_of g h2).1
    · cases h
  | .maxD a c => Snd.of _ (fun _ => rfl) fun X sc b g hb x h => by
    try dsimp only at h
    split at h
    · simp only [Bool.and_eq_true] at h
      obtain ⟨⟨⟨⟨h1, h2⟩, h3⟩, h4⟩, h5⟩ := h
      have e1 := of_decide_eq_true h1
      have e2 := of_decide_eq_true h2
      subst e1 e2
      exact je_maxD (g.hK hb) g.calm g.units (gl_of g h3) (mg_of' ok g (by decide +kernel)) ((snd ok F a).e X sc b g hb _ h4) ((snd ok F c).e X sc b g hb _ h5)
    · cases h
  | .sset a => Snd.of _ (fun _ => rfl) fun X sc b g hb x h => by
    try dsimp only at h
    split at h
    · simp only [Bool.and_eq_true] at h
      obtain ⟨⟨⟨⟨h1, h2⟩, h3⟩, h4⟩, h5⟩ := h
      have e1 := of_decide_eq_true h1
      have e2 := of_decide_eq_true h2
      subst e1 e2
      exact je_sset (g.hK hb) g.calm (gl_of g h3) (mg_of' ok g (by decide +kernel)) (gl_of g h4) (mg_of' ok g (by decide +kernel)) ((snd ok F a).e X sc b g hb _ h5)
    · cases h
  | .din neg a i => Snd.of _ (fun _ => rfl) fun X sc b g hb x h => by
    try dsimp only at h
    split at h
    · simp only [Bool.and_eq_true] at h
      obtain ⟨⟨⟨h1, h2⟩, h3⟩, h4⟩ := h
      rw [← cmB_eq h1]
      exact je_din (g.hK hb) (by rw [hb]; exact ok.wok) g.units (by simpa using h2) ((snd ok F a).e X sc b g hb _ h3) (var_of g h4).1
    · cases h
  | .app i a => Snd.of _ (fun _ => rfl) fun X sc b g hb x h => by
    try dsimp only at h
    split at h
    · simp only [Bool.and_eq_true] at h
      obtain ⟨⟨⟨h1, h2⟩, h3⟩, h4⟩ := h
      have e := of_decide_eq_true h1
      subst e
      obtain ⟨v1, _, y, p, rfl⟩ := var_of g h3
      exact je_app (g.hK hb) h2 v1 ((snd ok F a).e X sc b g hb _ h4)
    · cases h
  | .ext i a => Snd.of _ (fun _ => rfl) fun X sc b g hb x h => by
    try dsimp only at h
    split at h
    · simp only [Bool.and_eq_true] at h
      obtain ⟨⟨⟨h1, h2⟩, h3⟩, h4⟩ := h
      have e := of_decide_eq_true h1
      subst e
      obtain ⟨v1, _, y, p, rfl⟩ := var_of g h3
      exact je_ext (g.hK hb) h2 v1 ((snd ok F a).e X sc b g hb _ h4)
    · cases h
  | .popAt i a => Snd.of _ (fun _ => rfl) fun X sc b g hb x h => by
    try dsimp only at h
    split at h
    · simp only [Bool.and_eq_true] at h
      obtain ⟨⟨⟨h1, h2⟩, h3⟩, h4⟩ := h
      have e := of_decide_eq_true h1
      subst e
      obtain ⟨v1, _, y, p, rfl⟩ := var_of g h3
      exact je_popAt (g.hK hb) h2 v1 ((snd ok F a).e X sc b g hb _ h4)
    · cases h
  | .pop i => Snd.of _ (fun _ => rfl) fun X sc b g hb x h => by
    try dsimp only at h
    split at h
    · simp only [Bool.and_eq_true] at h
      obtain ⟨⟨h1, h2⟩, h3⟩ := h
      have e := of_decide_eq_true h1
      subst e
      obtain ⟨v1, _, y, p, rfl⟩ := var_of g h3
      exact je_pop (g.hK hb) h2 v1
    · cases h
  | .clear i => Snd.of _ (fun _ => rfl) fun X sc b g hb x h => by
    try dsimp only at h
    split at h
    · simp only [Bool.and_eq_true] at h
      obtain ⟨⟨h1, h2⟩, h3⟩ := h
      have e := of_decide_eq_true h1
      subst e
      obtain ⟨v1, _, y, p, rfl⟩ := var_of g h3
      exact je_clear (g.hK hb) h2 v1
    · cases h
theorem lits (ok : TOk T) (F : Cal T n Φ) : ∀ (es : IEs) (X : Cx) (sc : Scope), Gx T X N sc n → ∀ (ks : List Nat) (keys : List (Option Expr)) (vals : List Expr), keys.length = vals.length → keysB T.W ks keys = true → cks T.tb N es sc vals = true →
    ∃ kes : List Expr, keys = kes.map some ∧ ∃ trs, PPL X kes vals trs ∧ TrL Φ T.gv T.cs ks es trs
  | .nil, X, sc, g, ks, keys, vals, hl, h1, h2 => by
    cases vals with
    | nil =>
      cases keys with
      | nil =>
        cases ks with
        | nil => exact ⟨[], rfl, [], .nil, .nil⟩
        | cons _ _ => cases h1
      | cons _ _ => cases hl
    | cons _ _ => cases h2
  | .cons a es, X, sc, g, ks, keys, vals, hl, h1, h2 => by
    cases vals with
    | nil => cases h2
    | cons v vs =>
      cases keys with
      | nil => cases hl
      | cons kx keys =>
        have hh : ((ck T.tb N a sc).e v && cks T.tb N es sc vs) = true := h2
        simp only [Bool.and_eq_true] at hh
        cases ks with
        | nil => cases h1
        | cons k ks' =>
          have key : ∃ z j p, kx = some (.Constant (.str z) j p) ∧ T.W[k]? = some z ∧ keysB T.W ks' keys = true := by
            unfold keysB at h1
            split at h1
            · rename_i e1 e2
              cases e2
            · rename_i e1 e2
              cases e1
              cases e2
              simp only [Bool.and_eq_true] at h1
              exact ⟨_, _, _, rfl, of_decide_eq_true h1.1, h1.2⟩
            · cases h1
          obtain ⟨z, j, p, rfl, e, h1'⟩ := key
          obtain ⟨kes, ek, trs, hp, ht⟩ := lits ok F es X sc g ks' keys vs (Nat.succ.inj hl) h1' hh.2
          refine ⟨.Constant (.str z) j p :: kes, by rw [ek]; rfl, _, .cons ?_ ?_ hp, .cons ht⟩
          · exact PE.any (p := fun b' : Bs => b'.cs = T.cs) (t := fun b' => tEv b' (sem Φ T.gv (.cW k)).ev) fun b' hb' => (JE.co (g.hK hb') pe_str bare_const fun G => .w (by rw [hb']; exact e)).ev
          · exact PE.any (p := fun b' : Bs => b'.cs = T.cs) (t := fun b' => tEv b' (sem Φ T.gv a).ev) fun b' hb' => ((snd ok F a).e X sc b' g hb' _ hh.1).ev
theorem snds (ok : TOk T) (F : Cal T n Φ) : ∀ (a : IEs) (X : Cx) (sc : Scope) (b : Bs), Gx T X N sc n → b.cs = T.cs → ∀ xs, cks T.tb N a sc xs = true → JEs X b xs (sems Φ T.gv a)
  | .nil, X, sc, b, g, hb, xs, h => by
    cases xs with
    | nil => exact jes_nil
    | cons _ _ => cases h
  | .cons a r, X, sc, b, g, hb, xs, h => by
    cases xs with
    | nil => cases h
    | cons y ys =>
      have hh : ((ck T.tb N a sc).e y && cks T.tb N r sc ys) = true := h
      simp only [Bool.and_eq_true] at hh
      exact jes_cons ((snd ok F a).e X sc b g hb _ hh.1) (snds ok F r X sc b g hb ys hh.2)
theorem sndI (ok : TOk T) (F : Cal T n Φ) : ∀ (a : IT) (X : Cx) (sc : Scope) (b : Bs), Gx T X N sc n → b.cs = T.cs → ∀ tg x, ckI T.tb N a sc x = true → PI X tg x (tI b (semI Φ T.gv a))
  | .seq a, X, sc, b, g, hb, tg, x, h => ji_seq (g.hK hb) ((snd ok F a).e X sc b g hb x h)
  | .rng1 a, X, sc, b, g, hb, tg, x, h => by
    unfold ckI at h
    split at h
    · simp only [Bool.and_eq_true] at h
      obtain ⟨⟨h1, h2⟩, h3⟩ := h
      have e := of_decide_eq_true h1
      subst e
      exact ji_rng1 (gl_of g h2) (mg_of' ok g (by decide +kernel)) ((snd ok F a).e X sc b g hb _ h3)
    · cases h
  | .rng2 a c, X, sc, b, g, hb, tg, x, h => by
    unfold ckI at h
    split at h
    · simp only [Bool.and_eq_true] at h
      obtain ⟨⟨⟨h1, h2⟩, h3⟩, h4⟩ := h
      have e := of_decide_eq_true h1
      subst e
      exact ji_rng2 (gl_of g h2) (mg_of' ok g (by decide +kernel)) ((snd ok F a).e X sc b g hb _ h3) ((snd ok F c).e X sc b g hb _ h4)
    · cases h
end
end
end PD
/-! Statements. -/
namespace PD
open PySem L2
/-- what follows takes the way that is gone -/
def Goes (b : Bs) (D : Ends) (W : WX) (G : Hp) (env' : Env) : Flow → Prop
  | .nx => ∀ σ' H' G', Same G G' → Sat b σ' H' G' env' → D.nx σ' H'
  | .bk => ∀ σ' H' G', Same G G' → Sat b σ' H' G' env' → D.bk σ' H'
  | .ct => ∀ σ' H' G', Same G G' → Sat b σ' H' G' env' → D.ct σ' H'
  | .rt own d => ∀ σ' v H' G', Same G G' → Sat b σ' H' G' env' → ResAt b σ' H' G' env' v d own → D.rt v H'
  | .ex k f d => ∀ σ' H' G' cls dd, Same G G' → Sat b σ' H' G' env' → XAt b.cs G' k f d cls dd → W cls dd σ' H'
theorem Goes.step {b : Bs} {D : Ends} {W : WX} {G G1 : Hp} {env' : Env} {fl : Flow} (k : Goes b D W G env' fl) (g : Same G G1) : Goes b D W G1 env' fl := by
  cases fl with
  | nx => exact fun σ' H' G' g' S => k σ' H' G' (g.trans g') S
  | bk => exact fun σ' H' G' g' S => k σ' H' G' (g.trans g') S
  | ct => exact fun σ' H' G' g' S => k σ' H' G' (g.trans g') S
  | rt own d => exact fun σ' v H' G' g' S r => k σ' v H' G' (g.trans g') S r
  | ex kk f d => exact fun σ' H' G' cls dd g' S a => k σ' H' G' cls dd (g.trans g') S a
def tSt (b : Bs) (W : WX) (f : Env → Option (Env × Flow)) : TS := fun D σ H => ∃ env G env' fl, f env = some (env', fl) ∧ Sat b σ H G env ∧ Goes b D W G env' fl
theorem _root_.L2.PS.wk {X : Cx} {st : Stmt} {t t' : TS} (h : PS X st t) (k : ∀ D σ H, t' D σ H → t D σ H) : PS X st t' := ⟨fun pins s σ H D I q => h.run pins s σ H D I (k D σ H q)⟩
theorem _root_.L2.PSs.wk {X : Cx} {st : List Stmt} {t t' : TS} (h : PSs X st t) (k : ∀ D σ H, t' D σ H → t D σ H) : PSs X st t' := ⟨fun pins s σ H D I q => h.run pins s σ H D I (k D σ H q)⟩
/-- a def's own frame -/
structure Gs (T : Tx) (X : Cx) (N : List Str) (sc : Scope) (n : Nat) : Prop where
  g : Gx T X N sc n
  scope : X.env.scope = sc
  kind : sc.kind = .function
  pass : PassesOwn (model X.prog X.w) X.A X.env X.xe
  stk : X.stack = X.env :: X.outer
  frm : X.env.frame = some X.env.locals
theorem Gs.block {T : Tx} {X : Cx} {N : List Str} {sc : Scope} {n : Nat} (g : Gs T X N sc n) : X.env.blockKind = .function := by
  unfold Env.blockKind
  rw [g.scope, g.kind]
  rfl
section
variable {T : Tx} {X : Cx} {N : List Str} {sc : Scope} {n : Nat} {b : Bs} {e x : Expr} {pos : Pos} {Φ : Phi} {a : IE} {wf : Nat} {W : WX}
/-- whether a store comes ahead of a comprehension's end -/
def swapB (sc : Scope) (y : Str) (py : Pos) : Expr → Bool
  | .ListComp _ _ s p => (match sc.names.lookup y with | some .local => true | _ => false) && py.line == p.line && !(s.names.any fun (n, k) => n == y && (k == .local || k == .cell))
  | _ => false
def compE : Expr → Bool
  | .ListComp .. => true
  | .SetComp .. => true
  | .DictComp .. => true
  | _ => false
theorem swap_plain {t : Option Expr} {l : Nat} {env : PySem.Env} (h : compE e = false) : swapsWith e t l env = pure false := by
  cases e <;> first | rfl | cases h
theorem swap_tup {es : List Expr} {k : Nat} {p : Pos} {l : Nat} {env : PySem.Env} : swapsWith e (some (.Tuple es k p)) l env = pure false := by
  cases e <;> rfl
theorem js_set {i : Nat} {y : Str} {py : Pos} (g : Gs T X N sc n) (hi : nmB N i y = true) (hl : locB sc y = true) (hc : compE e = false) (ha : JE X b e (sem Φ T.gv a)) : PS X (.Assign [.Name y py] e pos) (tSt b W (ex Φ T.gv wf (.asg i a))) := by
  have l := loc_of hl
  refine (ps_set (by rw [g.g.ns]; exact g.g.nd) (nm_of g.g hi) (locX g.g l) ha.ev (swap_plain hc) (g.g.fnok _ l)).wk fun D σ H ⟨env, G, env', fl, q, S, k⟩ => ?_
  obtain ⟨p, h1, q⟩ := Option.bind_eq_some_iff.mp q
  obtain ⟨e1, h2, h3⟩ := Option.map_eq_some_iff.mp q
  cases h3
  exact ⟨env, G, p.1, p.2.1, p.2.2, h1, S, fun v H1 G1 g1 S1 r1 => k _ H1 G1 g1 (S1.put h2 r1)⟩
theorem js_setC {i : Nat} {y : Str} {py p2 : Pos} {el tg iter : Expr} {ifs : List Expr} {scope : Scope} {own : List (Str × Nat)} {t : TGt} {it : IT} {cs : IEs} {a : IE} (hb : b.cs = T.cs) (g : Gs T X N sc n) (hi : nmB N i y = true) (hsw : swapB sc y py (.ListComp el [⟨tg, iter, ifs, 0⟩] scope p2) = true)
    (hI : PI X tg iter (tI b (semI Φ T.gv it))) (ok : BlkOk X.N X.env.scope scope own) (ho : own.map (·.2) = t.is)
    (hg : ∀ (s : Shared) (H : Hp) (C : Addr) (cl : List (Str × Addr)) (fp : List Addr), PG (X.blk s H scope (compEnvC scope cl C X.env) fp) tg (gT T.cs.K t))
    (ht : ∀ (s : Shared) (H : Hp) (C : Addr) (cl : List (Str × Addr)) (fp : List Addr), PTs (X.blk s H scope (compEnvC scope cl C X.env) fp) ifs (tAT T.cs (sems Φ T.gv cs).t))
    (he : ∀ (s : Shared) (H : Hp) (C : Addr) (cl : List (Str × Addr)) (fp : List Addr), PE (X.blk s H scope (compEnvC scope cl C X.env) fp) el (tAE T.cs (sem Φ T.gv a).ev)) (hs : ∀ x, foldedSetIterable iter X.env x = pure x) :
    PS X (.Assign [.Name y py] (.ListComp el [⟨tg, iter, ifs, 0⟩] scope p2) pos) (tSt b W (ex Φ T.gv wf (.asg i (.comp t it cs a)))) := by
  unfold swapB at hsw
  simp only [Bool.and_eq_true] at hsw
  obtain ⟨⟨s1, s2⟩, s3⟩ := hsw
  have hy : X.env.scope.names.lookup y = some .local := by
    rw [g.scope]
    split at s1
    · assumption
    · cases s1
  have sw : swapsWith (.ListComp el [⟨tg, iter, ifs, 0⟩] scope p2) (some (.Name y py)) pos.line X.env = pure true :=
    sw_true (by rw [g.scope]; exact g.kind) hy s2 (by simpa using s3)
  refine (ps_setLc g.g.calm (by rw [g.g.ns]; exact g.g.nd) (nm_of g.g hi) hy sw hI ok hg ht he hs).wk fun D σ H ⟨env, G, env', fl, q, S, k⟩ => ?_
  obtain ⟨p, h1, q⟩ := Option.bind_eq_some_iff.mp q
  obtain ⟨e1, h2, h3⟩ := Option.map_eq_some_iff.mp q
  cases h3
  obtain ⟨⟨ds, env1⟩, h6, q⟩ := Option.bind_eq_some_iff.mp h1
  simp only at q
  split at q
  · rename_i hn
    obtain ⟨⟨ys, env2⟩, h4, h5⟩ := Option.map_eq_some_iff.mp q
    cases h5
    refine ⟨env, G, ds, env1, h6, S, fun J H1 G1 g1 S1 hy D' hD => ?_⟩
    rw [ho]
    refine comp_ok (Q := fun v H => gName i v σ H D.nx) hb S1 (by rw [← hb]; exact hy) hn h4 (fun v H' G' g' S' r' => ?_) D' hD
    exact k _ H' G' (g1.trans g') (S'.put h2 r')
  · cases q
/-- several names -/
def nmsB (N : List Str) (sc : Scope) : List Nat → List Expr → Bool
  | [], [] => true
  | i :: is, .Name y _ :: r => nmB N i y && locB sc y && nmsB N sc is r
  | _, _ => false
def gTs : List Nat → TGs
  | [] => gNil
  | i :: is => gCons (gName i) (gTs is)
theorem pgs_names (g : Gx T X N sc n) : ∀ {is : List Nat} {es : List Expr}, nmsB N sc is es = true → PGs X es (gTs is) ∧ (assignEach es X.env).length = is.length ∧ (assignEach es X.env).findIdx? (·.1) = none ∧ es.length = is.length
  | [], [], _ => ⟨pgs_nil, rfl, rfl, rfl⟩
  | i :: is, .Name y p :: r, h => by
    unfold nmsB at h
    simp only [Bool.and_eq_true] at h
    obtain ⟨⟨h1, h2⟩, h3⟩ := h
    obtain ⟨q1, q2, q3, q4⟩ := pgs_names g h3
    have l := loc_of h2
    refine ⟨pgs_cons (pg_name (by rw [g.ns]; exact g.nd) (nm_of g h1) (locX g l) (g.fnok _ l)) q1, ?_, ?_, ?_⟩
    · show (assignEach r X.env).length + 1 = _
      rw [q2]
      rfl
    · show List.findIdx? (·.1) ((false, _) :: assignEach r X.env) = none
      rw [List.findIdx?_cons, q3]
      rfl
    · rw [List.length_cons, List.length_cons, q4]
theorem puts_ok {H G : Hp} : ∀ {is : List Nat} {ds : List D} {vs : List V} {env env' : Env} {σ : L2.St} {Q : L2.St → Hp → Prop}, Sat b σ H G env → putTs is ds env = some env' → Reps b.cs G vs ds → (∀ σ', Sat b σ' H G env' → Q σ' H) → gTs is vs σ H Q
  | [], [], _, env, env', σ, Q, S, h, .nil, k => by
    cases h
    exact ⟨rfl, k σ S⟩
  | i :: is, d :: ds, _, env, env', σ, Q, S, h, .cons r0 r, k => by
    obtain ⟨e1, h1, h2⟩ := Option.bind_eq_some_iff.mp h
    exact ⟨_, _, rfl, puts_ok (S.put (own := false) h1 r0) h2 r k⟩
  | [], _ :: _, _, _, _, _, _, _, h, _, _ => by cases h
  | _ :: _, [], _, _, _, _, _, _, h, _, _ => by cases h
theorem puts_len : ∀ {is : List Nat} {ds : List D} {env env' : Env}, putTs is ds env = some env' → ds.length = is.length
  | [], [], _, _, _ => rfl
  | i :: is, d :: ds, env, env', h => by
    obtain ⟨e1, h1, h2⟩ := Option.bind_eq_some_iff.mp h
    rw [List.length_cons, List.length_cons, puts_len h2]
  | [], _ :: _, _, _, h => by cases h
  | _ :: _, [], _, _, h => by cases h
theorem _root_.L2.PG.or {X : Cx} {e : Expr} {t t' : TG} (h : PG X e t) (h' : PG X e t') : PG X e (fun v σ H Q => t v σ H Q ∨ t' v σ H Q) := ⟨fun pins s σ H v u Q I r q => q.elim (h.run pins s σ H v u Q I r) (h'.run pins s σ H v u Q I r)⟩
theorem js_setT {is : List Nat} {es : List Expr} {k0 : Nat} {pt : Pos} (g : Gs T X N sc n) (hb : b.cs = T.cs) (hn : nmsB N sc is es = true) (hs : swappedStores [.Tuple es k0 pt] e X.env = pure none) (ha : JE X b e (sem Φ T.gv a)) :
    PS X (.Assign [.Tuple es k0 pt] e pos) (tSt b W (ex Φ T.gv wf (.asgT is a))) := by
  obtain ⟨q1, q2, q3, _⟩ := pgs_names g.g hn
  refine (ps_asg ha.ev ((pg_tup g.g.calm q1 q2 q3).or (pg_unl g.g.calm q1 q2 q3)) (by show swapsWith e (some (.Tuple es k0 pt)) pos.line X.env = pure false; exact swap_tup) hs rfl).wk fun D σ H ⟨env, G, env', fl, q, S, k⟩ => ?_
  obtain ⟨⟨o, y, w⟩, h1, q⟩ := Option.bind_eq_some_iff.mp q
  refine use h1 S fun v1 H1 G1 g1 S1 r1 => ?_
  simp only at q
  split at q
  · obtain ⟨e1, h2, h3⟩ := Option.map_eq_some_iff.mp q
    cases h3
    cases r1 with
    | tup ht r =>
      refine .inl ⟨_, _, rfl, by rw [g.g.hK hb]; exact SqT.seen S1 ht, ?_, ?_⟩
      · rw [r.length, puts_len h2]
      · exact puts_ok S1 h2 r fun σ' S' => k σ' H1 G1 g1 S'
  · obtain ⟨e1, h2, h3⟩ := Option.map_eq_some_iff.mp q
    cases h3
    cases r1 with
    | lst ht r =>
      refine .inr ⟨_, _, rfl, .of (S1.ex _ _ ht), ?_, ?_⟩
      · rw [r.length, puts_len h2]
      · exact puts_ok S1 h2 r fun σ' S' => k σ' H1 G1 g1 S'
  · cases q
theorem js_par {i j : Nat} {y z : Str} {py pz pt : Pos} {k1 k2 : Nat} {e1 e2 : Expr} {pt2 : Pos} {c : IE} (g : Gs T X N sc n) (hi : nmB N i y = true) (hj : nmB N j z = true) (hij : i ≠ j) (hy : sc.names.lookup y = some .local) (hz : sc.names.lookup z = some .local)
    (hw : swappedStores [.Tuple [.Name y py, .Name z pz] k1 pt] (.Tuple [e1, e2] k2 pt2) X.env = pure (some [y, z])) (ha : JE X b e1 (sem Φ T.gv a)) (hc : JE X b e2 (sem Φ T.gv c)) :
    PS X (.Assign [.Tuple [.Name y py, .Name z pz] k1 pt] (.Tuple [e1, e2] k2 pt2) pos) (tSt b W (ex Φ T.gv wf (.asgP i j a c))) := by
  refine (ps_par g.g.calm (by rw [g.g.ns]; exact g.g.nd) (nm_of g.g hi) (nm_of g.g hj) hij (by rw [g.scope]; exact hy) (by rw [g.scope]; exact hz) (pa_cons ha.ev (pa_cons hc.ev pa_nil (hc.ns _ _)) (ha.ns _ _)) hw rfl).wk fun D σ H ⟨env, G, env', fl, q, S, k⟩ => ?_
  obtain ⟨⟨o, x1, w⟩, h1, q⟩ := Option.bind_eq_some_iff.mp q
  obtain ⟨⟨o2, x2, w2⟩, h2, q⟩ := Option.bind_eq_some_iff.mp q
  obtain ⟨en1, h3, q⟩ := Option.bind_eq_some_iff.mp q
  obtain ⟨en2, h4, h5⟩ := Option.map_eq_some_iff.mp q
  cases h5
  refine use h1 S fun v1 H1 G1 g1 S1 r1 => use h2 S1 fun v2 H2 G2 g2 S2 r2 => ?_
  exact ⟨v1, v2, rfl, k _ H2 G2 (g1.trans g2) ((S2.put (own := false) h3 (r1.mono g2)).put (own := false) h4 r2)⟩
theorem ixN_in {n : Int} {l : Nat} (h0 : 0 ≤ n) (h1 : n < l) : ixN l n = some n.toNat := by
  unfold ixN
  rw [if_pos h0, if_pos h1]
theorem js_setI {i : Nat} {y : Str} {p p2 : Pos} {e2 : Expr} {c : IE} (g : Gs T X N sc n) (hb : b.cs = T.cs) (hv : varB N sc i (.Name y p) = true) (hc : compE e = false) (ha : JE X b e (sem Φ T.gv a)) (hk : JE X b e2 (sem Φ T.gv c)) (hni : notOdd e2 = true) :
    PS X (.Assign [.Subscript (.Name y p) e2 p2] e pos) (tSt b W (ex Φ T.gv wf (.setI i c a))) := by
  have hw : swappedStores [.Subscript (.Name y p) e2 p2] e X.env = pure none := by cases e <;> rfl
  refine (ps_asg ha.ev (pg_sub (var_of g.g hv).1 hk.ev set_list (fun v => by cases e2 <;> first | exact (Bool.false_ne_true hni).elim | rfl)) (by show swapsWith e (some (.Subscript (.Name y p) e2 p2)) pos.line X.env = pure false; exact swap_plain hc) hw rfl).wk fun D σ H ⟨env, G, env', fl, q, S, k⟩ => ?_
  · obtain ⟨⟨o, x1, w⟩, h1, q⟩ := Option.bind_eq_some_iff.mp q
    obtain ⟨z, h0, q⟩ := Option.bind_eq_some_iff.mp q
    obtain ⟨⟨o2, x2, w2⟩, h2, q⟩ := Option.bind_eq_some_iff.mp q
    refine use h1 S fun v1 H1 G1 g1 S1 r1 => ?_
    obtain ⟨v, hv', _⟩ := S1.look h0
    refine ⟨v, hv', use h2 S1 fun v2 H2 G2 g2 S2 r2 => ?_⟩
    simp only at q
    split at q
    · rename_i f xs ho
      split at q
      · rename_i m
        split at q
        · rename_i hm
          cases q
          cases r2
          obtain ⟨l, hl, ⟨vs, e', r⟩, wr⟩ := S2.own ho
          rw [hv'] at hl
          cases hl
          refine ⟨l, vs, m, m.toNat, rfl, rfl, e', ?_, ?_⟩
          · rw [r.length]
            exact ixN_in hm.1 hm.2
          · exact k _ _ G2 (g1.trans g2) (wr _ _ ⟨_, upd_same, r.set (r1.mono g2) _⟩)
        · cases q
      · cases q
    · cases q
end
end PD
/-! Statements, more; blocks. -/
namespace PD
open PySem L2
section
variable {T : Tx} {X : Cx} {N : List Str} {sc : Scope} {n : Nat} {b : Bs} {e x : Expr} {pos : Pos} {Φ : Phi} {a : IE} {wf : Nat} {W : WX}
theorem Keys.len {c : Cs} : ∀ {kvs : List (Key × V)} {ks : List DK}, Keys c kvs ks → kvs.length = ks.length
  | _, _, .nil => rfl
  | _, _, .cons _ r => congrArg (· + 1) r.len
theorem repl_ok (ok : WOk b.cs.W) {G : Hp} {q : DK} {k : Key} {v : V} {d : D} (hq : b.cs.key q = some k) (r : Rep b.cs G v d) : ∀ {kvs : List (Key × V)} {ks : List DK} {ds : List D}, Keys b.cs kvs ks → Reps b.cs G (kvs.map (·.2)) ds →
    Keys b.cs (kvs.map fun kv => if kv.1 = k then (kv.1, v) else kv) ks ∧ Reps b.cs G ((kvs.map fun kv => if kv.1 = k then (kv.1, v) else kv).map (·.2)) (replD ks ds q d)
  | _, _, _, .nil, .nil => ⟨.nil, .nil⟩
  | _, _, _, .cons (k := k0) (v := v0) (kvs := kvs) (q := q0) (qs := qs) h0 hr, .cons (ds := ds) (d := d0) r0 rr => by
    obtain ⟨hk, hv⟩ := repl_ok ok hq r hr rr
    by_cases e : q0 = q
    · have ek : k0 = k := Option.some.inj (h0.symm.trans (e ▸ hq))
      refine ⟨?_, ?_⟩
      · rw [List.map_cons, if_pos ek]
        exact .cons h0 hk
      · rw [List.map_cons, List.map_cons, if_pos ek]
        show Reps b.cs G (v :: _) ((if q0 = q then d else d0) :: _)
        rw [if_pos e]
        exact .cons r hv
    · have ne : ¬ k0 = k := fun ek => e (key_inj ok h0 (ek ▸ hq))
      refine ⟨?_, ?_⟩
      · rw [List.map_cons, if_neg ne]
        exact .cons h0 hk
      · rw [List.map_cons, List.map_cons, if_neg ne]
        show Reps b.cs G (v0 :: _) ((if q0 = q then d else d0) :: _)
        rw [if_neg e]
        exact .cons r0 hv
theorem Keys.app {c : Cs} : ∀ {kvs kvs' : List (Key × V)} {ks ks' : List DK}, Keys c kvs ks → Keys c kvs' ks' → Keys c (kvs ++ kvs') (ks ++ ks')
  | _, _, _, _, .nil, s => s
  | _, _, _, _, .cons h r, s => .cons h (r.app s)
theorem putD_ok (ok : WOk b.cs.W) {G : Hp} {q : DK} {k : Key} {v : V} {d : D} (hq : b.cs.key q = some k) (r : Rep b.cs G v d) {kvs : List (Key × V)} {ks : List DK} {ds : List D} (hk : Keys b.cs kvs ks) (hr : Reps b.cs G (kvs.map (·.2)) ds) :
    Keys b.cs (putK kvs k v) (putD ks ds q d).1 ∧ Reps b.cs G ((putK kvs k v).map (·.2)) (putD ks ds q d).2 := by
  unfold putK putD
  rw [valV_any, (find_ok ok hq hk hr).2]
  by_cases h : (valV kvs k).isSome = true
  · rw [if_pos h, if_pos h]
    exact repl_ok ok hq r hk hr
  · rw [if_neg h, if_neg h]
    refine ⟨hk.app (.cons hq .nil), ?_⟩
    rw [List.map_append]
    exact hr.app (.cons r .nil)
theorem js_dput {i : Nat} {y : Str} {p p2 : Pos} {e2 : Expr} {c : IE} (ok : TOk T) (g : Gs T X N sc n) (hb : b.cs = T.cs) (hv : varB N sc i (.Name y p) = true) (hc : compE e = false) (ha : JE X b e (sem Φ T.gv a)) (hk : JE X b e2 (sem Φ T.gv c)) :
    PS X (.Assign [.Subscript (.Name y p) e2 p2] e pos) (tSt b W (ex Φ T.gv wf (.dput i c a))) := by
  have wok : WOk b.cs.W := by rw [hb]; exact ok.wok
  refine (ps_dput (by have := g.g.units; omega) (var_of g.g hv).1 hk.ev ha.ev (swap_plain hc)).wk fun D σ H ⟨env, G, env', fl, q, S, k⟩ => ?_
  obtain ⟨⟨o, x1, w⟩, h1, q⟩ := Option.bind_eq_some_iff.mp q
  obtain ⟨z, h0, q⟩ := Option.bind_eq_some_iff.mp q
  obtain ⟨⟨o2, x2, w2⟩, h2, q⟩ := Option.bind_eq_some_iff.mp q
  refine use h1 S fun v1 H1 G1 g1 S1 r1 => ?_
  obtain ⟨v, hv', _⟩ := S1.look h0
  refine ⟨v, hv', use h2 S1 fun v2 H2 G2 g2 S2 r2 => ?_⟩
  simp only at q
  split at q
  · rename_i f ks vs ho
    obtain ⟨kk, h5, q⟩ := Option.bind_eq_some_iff.mp q
    split at q
    · rename_i hl
      cases q
      obtain ⟨key, hq, rfl⟩ := key_rep h5 r2
      obtain ⟨l, hl', ⟨kvs, e', hkk, r⟩, wr⟩ := S2.own ho
      rw [hv'] at hl'
      cases hl'
      obtain ⟨n1, n2⟩ := putD_ok wok hq (r1.mono g2) hkk r
      refine ⟨l, _, rfl, DPut.k e' ?_, k _ _ G2 (g1.trans g2) (wr _ _ ⟨_, upd_same, n1, n2⟩)⟩
      rw [hkk.len]
      unfold sizeLine
      omega
    · cases q
  · cases q
theorem putI_ok {i : Nat} {y : Str} {p : Pos} {e2 : Expr} {c : IE} (ok : TOk T) (g : Gs T X N sc n) (hb : b.cs = T.cs) (hv : varB N sc i (.Name y p) = true) (hk : JE X b e2 (sem Φ T.gv c)) {σ : L2.St} {H G : Hp} {env env' : Env} {x : D} {v : V} {Q : L2.St → Hp → Prop}
    (S : Sat b σ H G env) (r1 : Rep b.cs G v x) (q : putI Φ T.gv i c x env = some env') (k : ∀ H' G', Same G G' → Sat b σ H' G' env' → Q σ H') : gSub (tVar i) (tEv b (sem Φ T.gv c).ev) rSetD v σ H Q := by
  have wok : WOk b.cs.W := by rw [hb]; exact ok.wok
  unfold putI at q
  obtain ⟨z, h0, q⟩ := Option.bind_eq_some_iff.mp q
  obtain ⟨⟨o2, x2, w2⟩, h2, q⟩ := Option.bind_eq_some_iff.mp q
  obtain ⟨u, hu', _⟩ := S.look h0
  refine ⟨u, hu', use h2 S fun v2 H2 G2 g2 S2 r2 => ?_⟩
  simp only at q
  split at q
  · rename_i f ks vs ho
    obtain ⟨kk, h5, q⟩ := Option.bind_eq_some_iff.mp q
    split at q
    · rename_i hl
      cases q
      obtain ⟨key, hq, rfl⟩ := key_rep h5 r2
      obtain ⟨l, hl', ⟨kvs, e', hkk, r⟩, wr⟩ := S2.own ho
      rw [hu'] at hl'
      cases hl'
      obtain ⟨n1, n2⟩ := putD_ok wok hq (r1.mono g2) hkk r
      refine ⟨l, _, rfl, DPut.k e' ?_, k _ G2 g2 (wr _ _ ⟨_, upd_same, n1, n2⟩)⟩
      rw [hkk.length]
      unfold sizeLine
      omega
    · cases q
  · cases q
theorem js_dputP {i : Nat} {y z : Str} {py pz p2 p3 pt : Pos} {k0 : Nat} {c1 c3 : Const} {j1 j3 : Nat} {q1 q3 : Pos} {c c2 : IE} (ok : TOk T) (g : Gs T X N sc n) (hb : b.cs = T.cs) (hv : varB N sc i (.Name y py) = true) (hv2 : varB N sc i (.Name z pz) = true) (hc : compE e = false)
    (hs : swappedStores [.Tuple [.Subscript (.Name y py) (.Constant c1 j1 q1) p2, .Subscript (.Name z pz) (.Constant c3 j3 q3) p3] k0 pt] e X.env = pure none) (ha : JE X b e (sem Φ T.gv a)) (hk : JE X b (.Constant c1 j1 q1) (sem Φ T.gv c)) (hk2 : JE X b (.Constant c3 j3 q3) (sem Φ T.gv c2)) :
    PS X (.Assign [.Tuple [.Subscript (.Name y py) (.Constant c1 j1 q1) p2, .Subscript (.Name z pz) (.Constant c3 j3 q3) p3] k0 pt] e pos) (tSt b W (ex Φ T.gv wf (.dputP i c c2 a))) := by
  have hu : X.A.units + 1 < cLine := by have := g.g.units; omega
  have pg : PGs X [.Subscript (.Name y py) (.Constant c1 j1 q1) p2, .Subscript (.Name z pz) (.Constant c3 j3 q3) p3] (gCons (gSub (tVar i) (tEv b (sem Φ T.gv c).ev) rSetD) (gCons (gSub (tVar i) (tEv b (sem Φ T.gv c2).ev) rSetD) gNil)) :=
    pgs_cons (pg_sub (var_of g.g hv).1 hk.ev (set_dict hu)) (pgs_cons (pg_sub (var_of g.g hv2).1 hk2.ev (set_dict hu)) pgs_nil)
  refine (ps_asg ha.ev (pg_tup g.g.calm pg rfl rfl) (by show swapsWith e (some (.Tuple [.Subscript (.Name y py) (.Constant c1 j1 q1) p2, .Subscript (.Name z pz) (.Constant c3 j3 q3) p3] k0 pt)) pos.line X.env = pure false; exact swap_plain hc) hs rfl).wk fun D σ H ⟨env, G, env', fl, q, S, k⟩ => ?_
  obtain ⟨⟨o, u, w⟩, h1, q⟩ := Option.bind_eq_some_iff.mp q
  refine use h1 S fun v1 H1 G1 g1 S1 r1 => ?_
  simp only at q
  split at q
  · obtain ⟨ea, h2, q⟩ := Option.bind_eq_some_iff.mp q
    obtain ⟨eb, h3, h4⟩ := Option.map_eq_some_iff.mp q
    cases h4
    cases r1 with
    | tup ht r =>
      cases r with
      | cons ra r =>
        cases r with
        | cons rb r =>
          cases r
          refine ⟨_, _, rfl, by rw [g.g.hK hb]; exact SqT.seen S1 ht, rfl, ?_⟩
          refine ⟨_, _, rfl, putI_ok ok g hb hv hk S1 ra h2 fun H2 G2 g2 S2 => ?_⟩
          refine ⟨_, _, rfl, putI_ok ok g hb hv2 hk2 S2 (rb.mono g2) h3 fun H3 G3 g3 S3 => ?_⟩
          exact ⟨rfl, k σ H3 G3 ((g1.trans g2).trans g3) S3⟩
  · cases q
theorem js_expr (hc : compE e = false) (ha : JE X b e (sem Φ T.gv a)) : PS X (.Expr e pos) (tSt b W (ex Φ T.gv wf (.expr a))) := by
  refine (ps_expr ha.ev (swap_plain hc)).wk fun D σ H ⟨env, G, env', fl, q, S, k⟩ => ?_
  obtain ⟨⟨o, y, w⟩, h1, h2⟩ := Option.map_eq_some_iff.mp q
  cases h2
  exact use h1 S fun v1 H1 G1 g1 S1 _ => k σ H1 G1 g1 S1
theorem js_ret (ha : JE X b e (sem Φ T.gv a)) : PS X (.Return (some e) pos) (tSt b W (ex Φ T.gv wf (.ret a))) := by
  refine (ps_ret ha.ev).wk fun D σ H ⟨env, G, env', fl, q, S, k⟩ => ?_
  obtain ⟨p, h1, h2⟩ := Option.map_eq_some_iff.mp q
  cases h2
  exact ⟨env, G, p.1, p.2.1, p.2.2, h1, S, fun v H1 G1 g1 S1 r1 => k σ v H1 G1 g1 S1 r1⟩
theorem Sat.gone {σ : L2.St} {H G : Hp} {env : Env} (S : Sat b σ H G env) {i : Nat} {d : D} (h : getC env i = some (.own, d)) : ∃ v, σ[i]? = some (some v) ∧ Sat b σ H G (env.set i none) ∧ ResAt b σ H G (env.set i none) v d true := by
  have he := getC_some h
  obtain ⟨v, hv, a, ea, ga, ha, ow⟩ := S.slot i _ _ he
  subst ea
  have up : ∀ {j : Nat} {c : Fl × D}, (env.set i none)[j]? = some (some c) → env[j]? = some (some c) ∧ j ≠ i := by
    intro j c hj
    by_cases hji : j = i
    · subst hji
      rw [List.getElem?_set_self (List.getElem?_eq_some_iff.mp he).1] at hj
      cases hj
    · rw [List.getElem?_set_ne (Ne.symm hji)] at hj
      exact ⟨hj, hji⟩
  refine ⟨_, hv, ⟨by rw [List.length_set]; exact S.len, S.ex, S.ex0, S.keep, S.new, S.lents, fun j f e hj => S.slot j f e (up hj).1, fun j l f g d e x hj hl => S.apart j l f g d e x (up hj).1 (up hl).1⟩, a, rfl, ga, ha, ow, fun j f e hj hf hs => ?_⟩
  exact (up hj).2 (S.apart j i f _ e _ a (up hj).1 he hf rfl hs hv)
theorem js_retV {i : Nat} {y : Str} {p : Pos} (g : Gs T X N sc n) (hv : varB N sc i (.Name y p) = true) : PS X (.Return (some (.Name y p)) pos) (tSt b W (ex Φ T.gv wf (.retV i))) := by
  refine (ps_ret (var_of g.g hv).1).wk fun D σ H ⟨env, G, env', fl, q, S, k⟩ => ?_
  have q : (match getC env i with
      | some (.own, d) => some (env.set i none, Flow.rt true d)
      | _ => (readV env i).map fun p => (p.2, Flow.rt false p.1)) = some (env', fl) := q
  split at q
  · rename_i d hd
    cases q
    obtain ⟨v, hv', S', r⟩ := S.gone hd
    exact ⟨v, hv', k σ v H G (Same.refl G) S' r⟩
  · obtain ⟨p, h1, h2⟩ := Option.map_eq_some_iff.mp q
    cases h2
    obtain ⟨G', v, g', S', hv', r⟩ := S.read h1
    exact ⟨v, hv', k σ v H G' g' S' r⟩
theorem js_retN : PS X (.Return none pos) (tSt b W (ex Φ T.gv wf .retN)) := ps_retN.wk fun D σ H ⟨env, G, env', fl, q, S, k⟩ => by
  cases q
  exact k σ _ H G (Same.refl G) S .non
theorem js_pass : PS X (.Pass pos) (tSt b W (ex Φ T.gv wf .pass)) := ps_pass.wk fun D σ H ⟨env, G, env', fl, q, S, k⟩ => by
  cases q
  exact k σ H G (Same.refl G) S
theorem js_doc {z : Str} {j : Nat} {p : Pos} : PS X (.Expr (.Constant (.str z) j p) pos) (tSt b W (ex Φ T.gv wf .pass)) := ps_doc.wk fun D σ H ⟨env, G, env', fl, q, S, k⟩ => by
  cases q
  exact k σ H G (Same.refl G) S
theorem js_brk : PS X (.Break pos) (tSt b W (ex Φ T.gv wf .brk)) := ps_break.wk fun D σ H ⟨env, G, env', fl, q, S, k⟩ => by
  cases q
  exact k σ H G (Same.refl G) S
theorem js_cont : PS X (.Continue pos) (tSt b W (ex Φ T.gv wf .cont)) := ps_continue.wk fun D σ H ⟨env, G, env', fl, q, S, k⟩ => by
  cases q
  exact k σ H G (Same.refl G) S
theorem js_never {st : Stmt} : PS X st (tSt b W (ex Φ T.gv wf .never)) := ps_never.wk fun D σ H ⟨env, G, env', fl, q, S, k⟩ => by cases q
theorem js_ite {p q : List Stmt} {s t : ISs} {c : IE} {e : Expr} (hc : JE X b e (sem Φ T.gv c)) (h1 : PSs X p (tSt b W (exs Φ T.gv wf s))) (h2 : PSs X q (tSt b W (exs Φ T.gv wf t))) : PS X (.If e p q pos) (tSt b W (ex Φ T.gv wf (.ite c s t))) := by
  refine (ps_if hc.t h1 h2).wk fun D σ H ⟨env, G, env', fl, q, S, k⟩ => ?_
  obtain ⟨⟨r, w⟩, h1, q⟩ := Option.bind_eq_some_iff.mp q
  refine useT h1 S fun H1 G1 g1 S1 => ?_
  cases r with
  | true =>
    rw [if_pos rfl]
    exact ⟨w, G1, env', fl, q, S1, k.step g1⟩
  | false =>
    rw [if_neg Bool.false_ne_true]
    exact ⟨w, G1, env', fl, q, S1, k.step g1⟩
theorem jss_nil : PSs X [] (tSt b W (exs Φ T.gv wf .nil)) := pss_nil.wk fun D σ H ⟨env, G, env', fl, q, S, k⟩ => by
  cases q
  exact k σ H G (Same.refl G) S
theorem jss_cons {st : Stmt} {r : List Stmt} {i : IS} {is : ISs} (h1 : PS X st (tSt b W (ex Φ T.gv wf i))) (h2 : PSs X r (tSt b W (exs Φ T.gv wf is))) : PSs X (st :: r) (tSt b W (exs Φ T.gv wf (.cons i is))) := by
  refine (pss_cons h1 h2).wk fun D σ H ⟨env, G, env', fl, q, S, k⟩ => ?_
  obtain ⟨⟨w, f⟩, h1, q⟩ := Option.bind_eq_some_iff.mp q
  refine ⟨env, G, w, f, h1, S, ?_⟩
  cases f with
  | nx => exact fun σ' H' G' g' S' => ⟨w, G', env', fl, q, S', k.step g'⟩
  | bk => cases q; exact k
  | ct => cases q; exact k
  | rt o d => cases q; exact k
  | ex kk g d => cases q; exact k
theorem _root_.List.drop_cons_get {α : Type} {l : List α} {i : Nat} {x : α} (h : l[i]? = some x) : l.drop i = x :: l.drop (i + 1) := by
  obtain ⟨hi, e⟩ := List.getElem?_eq_some_iff.mp h
  rw [List.drop_eq_getElem_cons hi, e]
theorem js_for {tg iter : Expr} {t : TGt} {it : IT} {body : List Stmt} {is : ISs} (g : Gs T X N sc n) (hb : b.cs = T.cs) (ht : tgB N sc t tg = true) (hi : PI X tg iter (tI b (semI Φ T.gv it))) (hs : noSet iter = true) (hbd : PSs X body (tSt b W (exs Φ T.gv wf is))) :
    PS X (.For tg iter body [] pos) (tSt b W (ex Φ T.gv wf (.for_ t it is))) := by
  refine (ps_for g.pass g.g.calm hi (tg_of g.g ht) hbd (noSet_ok hs _)).wk fun D σ H ⟨env, G, env', fl, q, S, k⟩ => ?_
  obtain ⟨⟨ds, w⟩, h1, q⟩ := Option.bind_eq_some_iff.mp q
  refine ⟨env, G, ds, w, h1, S, fun J H1 G1 g1 S1 hy => ?_⟩
  refine ⟨fun i m σ' H' => i ≤ ds.length ∧ m = ds.length - i ∧ ∃ G' en, Same G1 G' ∧ Sat b σ' H' G' en ∧ floop (fun x en => (putT t x en).bind fun e1 => exs Φ T.gv wf is e1) (ds.drop i) en = some (env', fl), ⟨ds.length, Nat.zero_le _, rfl, G1, w, Same.refl G1, S1, q⟩, ?_⟩
  rintro i m σ' H' ⟨il, em, G', en, g', S', q⟩
  have y := hy b rfl i σ' H' G' en g' S'
  by_cases hil : i < ds.length
  · obtain ⟨go, st⟩ := y.1 hil
    refine .inr ⟨go, fun σ2 H2 => ∃ G2 en2, Same G1 G2 ∧ Sat b σ2 H2 G2 en2 ∧ floop (fun x en => (putT t x en).bind fun e1 => exs Φ T.gv wf is e1) (ds.drop (i + 1)) en2 = some (env', fl), ?_, ?_⟩
    · rintro σ2 H2 ⟨G2, en2, g2, S2, q2⟩
      exact ⟨ds.length - (i + 1), by omega, hil, rfl, G2, en2, g2, S2, q2⟩
    · intro x H2 hx
      obtain ⟨G2, g2, S2, d, hd, r⟩ := st x H2 hx
      rw [List.drop_cons_get hd] at q
      have q : (match ((putT t d en).bind fun e1 => exs Φ T.gv wf is e1) with
        | none => none
        | some (env1, .nx) => floop (fun x en => (putT t x en).bind fun e1 => exs Φ T.gv wf is e1) (ds.drop (i + 1)) env1
        | some (env1, .ct) => floop (fun x en => (putT t x en).bind fun e1 => exs Φ T.gv wf is e1) (ds.drop (i + 1)) env1
        | some (env1, .bk) => some (env1, Flow.nx)
        | some (env1, .rt o d) => some (env1, Flow.rt o d)
        | some (env1, .ex k g d) => some (env1, Flow.ex k g d)) = some (env', fl) := q
      cases hp : putT t d en with
      | none =>
        rw [hp] at q
        cases q
      | some e1 =>
        rw [hp, Option.bind_some] at q
        rw [show T.K = b.cs.K by rw [hb]]
        refine put_ok S2 hp r fun σ3 S3 _ => ?_
        cases hq : exs Φ T.gv wf is e1 with
        | none =>
          rw [hq] at q
          cases q
        | some pf =>
          obtain ⟨e2, f⟩ := pf
          rw [hq] at q
          refine ⟨e1, G2, e2, f, hq, S3, ?_⟩
          have g12 : Same G1 G2 := g'.trans g2
          cases f with
          | nx => exact fun σ4 H4 G4 g4 S4 => ⟨G4, e2, g12.trans g4, S4, q⟩
          | ct => exact fun σ4 H4 G4 g4 S4 => ⟨G4, e2, g12.trans g4, S4, q⟩
          | bk =>
            cases q
            exact fun σ4 H4 G4 g4 S4 => k σ4 H4 G4 (g1.trans (g12.trans g4)) S4
          | rt o d =>
            cases q
            exact fun σ4 v H4 G4 g4 S4 r4 => k σ4 v H4 G4 (g1.trans (g12.trans g4)) S4 r4
          | ex kk gg d =>
            cases q
            exact fun σ4 H4 G4 cls dd g4 S4 a4 => k σ4 H4 G4 cls dd (g1.trans (g12.trans g4)) S4 a4
  · refine .inl ⟨y.2 (by omega), ?_⟩
    rw [List.drop_eq_nil_of_le (by omega)] at q
    cases q
    exact k σ' H' G' (g1.trans g') S'
theorem js_whl {c : IE} {body : List Stmt} {is : ISs} {e : Expr} (g : Gs T X N sc n) (hc : JE X b e (sem Φ T.gv c)) (hbd : PSs X body (tSt b W (exs Φ T.gv wf is))) : PS X (.While e body [] pos) (tSt b W (ex Φ T.gv wf (.whl c is))) := by
  refine (ps_while g.pass hc.t hbd).wk fun D σ H ⟨env, G, env', fl, q, S, k⟩ => ?_
  refine ⟨fun m σ' H' => ∃ G' en, Same G G' ∧ Sat b σ' H' G' en ∧ wloop (fun en => (sem Φ T.gv c).t en) (fun en => exs Φ T.gv wf is en) m en = some (env', fl), ⟨wf, G, env, Same.refl G, S, q⟩, ?_⟩
  rintro m σ' H' ⟨G', en, g', S', q⟩
  cases m with
  | zero => cases q
  | succ m =>
    have q : (match (sem Φ T.gv c).t en with
      | none => none
      | some (false, env1) => some (env1, Flow.nx)
      | some (true, env1) => match exs Φ T.gv wf is env1 with
        | none => none
        | some (env2, .nx) => wloop (fun en => (sem Φ T.gv c).t en) (fun en => exs Φ T.gv wf is en) m env2
        | some (env2, .ct) => wloop (fun en => (sem Φ T.gv c).t en) (fun en => exs Φ T.gv wf is en) m env2
        | some (env2, .bk) => some (env2, Flow.nx)
        | some (env2, .rt o d) => some (env2, Flow.rt o d)
        | some (env2, .ex k g d) => some (env2, Flow.ex k g d)) = some (env', fl) := q
    cases ht : (sem Φ T.gv c).t en with
    | none => rw [ht] at q; cases q
    | some pr =>
      obtain ⟨r, e1⟩ := pr
      rw [ht] at q
      refine useT ht S' fun H1 G1 g1 S1 => ?_
      cases r with
      | false =>
        rw [if_neg Bool.false_ne_true]
        cases q
        exact k σ' H1 G1 (g'.trans g1) S1
      | true =>
        rw [if_pos rfl]
        have q : (match exs Φ T.gv wf is e1 with
          | none => none
          | some (env2, .nx) => wloop (fun en => (sem Φ T.gv c).t en) (fun en => exs Φ T.gv wf is en) m env2
          | some (env2, .ct) => wloop (fun en => (sem Φ T.gv c).t en) (fun en => exs Φ T.gv wf is en) m env2
          | some (env2, .bk) => some (env2, Flow.nx)
          | some (env2, .rt o d) => some (env2, Flow.rt o d)
          | some (env2, .ex k g d) => some (env2, Flow.ex k g d)) = some (env', fl) := q
        refine ⟨fun σ2 H2 => ∃ G2 en2, Same G G2 ∧ Sat b σ2 H2 G2 en2 ∧ wloop (fun en => (sem Φ T.gv c).t en) (fun en => exs Φ T.gv wf is en) m en2 = some (env', fl), ?_, ?_⟩
        · rintro σ2 H2 ⟨G2, en2, g2, S2, q2⟩
          exact ⟨m, by omega, G2, en2, g2, S2, q2⟩
        · cases hq : exs Φ T.gv wf is e1 with
          | none => rw [hq] at q; cases q
          | some pf =>
            obtain ⟨e2, f⟩ := pf
            rw [hq] at q
            refine ⟨e1, G1, e2, f, hq, S1, ?_⟩
            have g12 : Same G G1 := g'.trans g1
            cases f with
            | nx => exact fun σ4 H4 G4 g4 S4 => ⟨G4, e2, g12.trans g4, S4, q⟩
            | ct => exact fun σ4 H4 G4 g4 S4 => ⟨G4, e2, g12.trans g4, S4, q⟩
            | bk =>
              cases q
              exact fun σ4 H4 G4 g4 S4 => k σ4 H4 G4 (g12.trans g4) S4
            | rt o d =>
              cases q
              exact fun σ4 v H4 G4 g4 S4 r4 => k σ4 v H4 G4 (g12.trans g4) S4 r4
            | ex kk gg d =>
              cases q
              exact fun σ4 H4 G4 cls dd g4 S4 a4 => k σ4 H4 G4 cls dd (g12.trans g4) S4 a4
end
end PD
/-! Statements that may raise. -/
namespace PD
open PySem L2
section
variable {T : Tx} {X : Cx} {N : List Str} {sc : Scope} {n : Nat} {b : Bs} {e x : Expr} {pos : Pos} {Φ : Phi} {a : IE} {wf : Nat} {W : WX}
def ckX (T : Tb) (N : List Str) (sc : Scope) : IX → Expr → Bool
  | .call f es, e => (ck T N (.call f es) sc).e e
  | .pre a f es, .Tuple [y, z] _ _ => (ck T N a sc).e y && (ck T N (.call f es) sc).e z
  | _, _ => false
theorem px_of (ok : TOk T) (F : Cal T n Φ) (tk : Takes X W) (g : Gx T X N sc n) (hb : b.cs = T.cs) {f : Nat} {es : IEs} (h : (ck T.tb N (.call f es) sc).e e = true) : PE X e (tXv b W (semC Φ T.gv f es)) ∧ compE e = false ∧ ∀ es env, starEach (e :: es) env = (false, eval e env) :: starEach es env := by
  have h : (match (generalizing := false) e with | .Call (.Name x _) xs [] _ => decide (T.fnm f = some x) && glB sc x && plainN x && cks T.tb N es sc xs | _ => false) = true := h
  split at h
  · rename_i xs _ _
    simp only [Bool.and_eq_true] at h
    obtain ⟨⟨⟨h1, h2⟩, h3⟩, h4⟩ := h
    have Ff := F f _ (of_decide_eq_true h1)
    have ja := snds ok F es X sc b g hb _ h4
    refine ⟨?_, rfl, fun _ _ => rfl⟩
    cases xs with
    | nil =>
      cases es with
      | nil => exact px_call0 tk g hb Ff (gl_of g h2) (plain_of h3).1
      | cons _ _ => cases h4
    | cons y ys =>
      cases es with
      | nil => cases h4
      | cons a r =>
        have hh : ((ck T.tb N a sc).e y && cks T.tb N r sc ys) = true := h4
        simp only [Bool.and_eq_true] at hh
        exact px_call tk g hb Ff (gl_of g h2) (plain_of h3).1 (((snd ok F a).e X sc b g hb _ hh.1).ns _ _) ja
  · cases h
theorem px_ok (ok : TOk T) (F : Cal T n Φ) (tk : Takes X W) (g : Gx T X N sc n) (hb : b.cs = T.cs) {x : IX} (h : ckX T.tb N sc x e = true) : PE X e (tXv b W (semX Φ T.gv x)) ∧ compE e = false := by
  cases x with
  | call f es => exact ⟨(px_of ok F tk g hb h).1, (px_of (W := W) ok F tk g hb h).2.1⟩
  | pre a f es =>
    have go : ∀ (y z : Expr) (k : Nat) (p : Pos), ckX T.tb N sc (.pre a f es) (.Tuple [y, z] k p) = true → PE X (.Tuple [y, z] k p) (tXv b W (semX Φ T.gv (.pre a f es))) := by
      intro y z k p h
      have h : ((ck T.tb N a sc).e y && (ck T.tb N (.call f es) sc).e z) = true := h
      rw [Bool.and_eq_true] at h
      have ja := (snd ok F a).e X sc b g hb y h.1
      obtain ⟨pc, _, hn⟩ := px_of ok F tk g hb h.2
      refine (pe_tup (pa_cons ja.ev (pa_cons pc pa_nil (hn _ _)) (ja.ns _ _))).wk fun σ H Q ⟨env, G, o, env', q, S, k⟩ => ?_
      obtain ⟨⟨ow, d1, env1⟩, h1, q⟩ := Option.bind_eq_some_iff.mp q
      obtain ⟨⟨o2, env2⟩, h2, q⟩ := Option.map_eq_some_iff.mp q
      refine use h1 S fun v1 H1 G1 g1 S1 r1 => ?_
      refine ⟨env1, G1, o2, env2, h2, S1, ?_⟩
      cases o2 with
      | inl r =>
        cases q
        intro v2 H2 G2 g2 S2 r2
        obtain ⟨G3, g3, S3, r3⟩ := S2.tail r2
        refine ⟨by rw [sizeLine_eq]; exact (by decide : 2 ≤ 16777216), fun p hp => ?_⟩
        exact (Kon.step k ((g1.trans g2).trans g3)).tupN S3 (.cons (r1.mono (g2.trans g3)) (.cons r3 .nil)) hp
      | inr z =>
        cases q
        obtain ⟨kk, f', d'⟩ := z
        exact fun cls dd H' G' g' S' a' => k cls dd H' G' (g1.trans g') S' a'
    cases e with
    | Tuple l k p =>
      match l, h with
      | [y, z], h => exact ⟨go y z k p h, rfl⟩
      | [], h => cases h
      | [_], h => cases h
      | _ :: _ :: _ :: _, h => cases h
    | _ => cases h
theorem js_setX (ok : TOk T) (F : Cal T n Φ) (tk : Takes X W) (g : Gs T X N sc n) (hb : b.cs = T.cs) {i : Nat} {y : Str} {py : Pos} {x : IX} (hi : nmB N i y = true) (hl : locB sc y = true) (h : ckX T.tb N sc x e = true) :
    PS X (.Assign [.Name y py] e pos) (tSt b W (ex Φ T.gv wf (.asgX i x))) := by
  have l := loc_of hl
  obtain ⟨px, hc⟩ := px_ok ok F tk g.g hb h
  refine (ps_set (by rw [g.g.ns]; exact g.g.nd) (nm_of g.g hi) (locX g.g l) px (swap_plain hc) (g.g.fnok _ l)).wk fun D σ H ⟨env, G, env', fl, q, S, k⟩ => ?_
  obtain ⟨⟨o, env1⟩, h1, q⟩ := Option.bind_eq_some_iff.mp q
  refine ⟨env, G, o, env1, h1, S, ?_⟩
  cases o with
  | inl r =>
    obtain ⟨e1, h2, h3⟩ := Option.map_eq_some_iff.mp q
    cases h3
    exact fun v H1 G1 g1 S1 r1 => k _ H1 G1 g1 (S1.put h2 r1)
  | inr z =>
    obtain ⟨kk, f', d'⟩ := z
    cases q
    exact fun cls dd H' G' g' S' a' => k σ H' G' cls dd g' S' a'
theorem js_retX (ok : TOk T) (F : Cal T n Φ) (tk : Takes X W) (g : Gs T X N sc n) (hb : b.cs = T.cs) {x : IX} (h : ckX T.tb N sc x e = true) : PS X (.Return (some e) pos) (tSt b W (ex Φ T.gv wf (.retX x))) := by
  obtain ⟨px, hc⟩ := px_ok ok F tk g.g hb h
  refine (ps_ret px).wk fun D σ H ⟨env, G, env', fl, q, S, k⟩ => ?_
  obtain ⟨⟨o, env1⟩, h1, q⟩ := Option.map_eq_some_iff.mp q
  refine ⟨env, G, o, env1, h1, S, ?_⟩
  cases o with
  | inl r =>
    cases q
    exact fun v H1 G1 g1 S1 r1 => k σ v H1 G1 g1 S1 r1
  | inr z =>
    obtain ⟨kk, f', d'⟩ := z
    cases q
    exact fun cls dd H' G' g' S' a' => k σ H' G' cls dd g' S' a'
theorem js_exprX (ok : TOk T) (F : Cal T n Φ) (tk : Takes X W) (g : Gs T X N sc n) (hb : b.cs = T.cs) {x : IX} (h : ckX T.tb N sc x e = true) : PS X (.Expr e pos) (tSt b W (ex Φ T.gv wf (.exprX x))) := by
  obtain ⟨px, hc⟩ := px_ok ok F tk g.g hb h
  refine (ps_expr px (swap_plain hc)).wk fun D σ H ⟨env, G, env', fl, q, S, k⟩ => ?_
  obtain ⟨⟨o, env1⟩, h1, q⟩ := Option.map_eq_some_iff.mp q
  refine ⟨env, G, o, env1, h1, S, ?_⟩
  cases o with
  | inl r =>
    cases q
    intro v H1 G1 g1 S1 r1
    obtain ⟨G2, g2, S2, _⟩ := S1.tail r1
    exact k σ H1 G2 (g1.trans g2) S2
  | inr z =>
    obtain ⟨kk, f', d'⟩ := z
    cases q
    exact fun cls dd H' G' g' S' a' => k σ H' G' cls dd g' S' a'
/-- raise C(e) -/
theorem js_raise (ok : TOk T) (F : Cal T n Φ) (tk : Takes X W) (g : Gs T X N sc n) (hb : b.cs = T.cs) {kk ff : Nat} {y : Str} {p1 p2 : Pos} (hx : (kk, ff) ∈ T.xcl) (hy : T.W[kk]? = some y) (hg : glB sc y = true) (hp : plainN y = true) (ha : JE X b e (sem Φ T.gv a)) :
    PS X (.Raise (some (.Call (.Name y p1) [e] [] p2)) none pos) (tSt b W (ex Φ T.gv wf (.raise kk ff a))) := by
  obtain ⟨nm, fn, C, fI, fd, A, _⟩ := ok.cls _ hx
  have en : nm = y := by
    have := A.hk
    rw [hy] at this
    exact (Option.some.inj this).symm
  subst en
  have F1 : FnOk X.prog X.w X.K X.mg X.base CX0 1 fI fd ["self", fn] (spI C fn) := by
    rw [g.g.prog, g.g.wld, g.g.K, g.g.mg, g.g.base]
    exact A.fn
  have M : PMk X (.Call (.Name nm p1) [e] [] p2) (tMkO C (spI C fn) [] _) :=
    pmk_oex (by rw [g.g.K]; exact A.ok) (by rw [g.g.K]; exact A.iC) (by rw [g.g.K]; exact A.tI) F1 (g.g.room.mono (by omega)) (by rw [g.g.K]; exact A.bd) .nil (fun _ _ _ _ _ _ _ h => h.elim) (gl_of g.g hg) (by rw [g.g.mg]; exact A.mg) (pa_cons ha.ev pa_nil (ha.ns _ _))
      (plain_of hp).1 (ha.ns _ _) rfl
  refine (ps_raise g.g.calm tk M).wk fun D σ H ⟨env, G, env', fl, q, S, k⟩ => ?_
  obtain ⟨⟨o, d, env1⟩, h1, q⟩ := Option.map_eq_some_iff.mp q
  cases q
  refine use h1 S fun v1 H1 G1 g1 S1 r1 => ?_
  refine ⟨(by decide : 1 ≤ 1000), fun x hx' => ⟨x, v1, rfl, upd_same, fun dx hd hne => ?_⟩⟩
  have hd1 : H1 dx = none := by rw [upd_ne hne] at hd; exact hd
  refine ⟨rfl, dx, [(fn, v1)], upd_same, ?_, hd1, ?_⟩
  · rw [upd_ne hne, upd_same]
  · have eq : upd (del (upd (upd (upd H1 x (exo x C none)) dx (exd dx [(fn, v1)])) x (exo x C (some dx))) x) dx (.xd [(fn, v1)]) = upd H1 dx (.xd [(fn, v1)]) := by
      funext c
      by_cases h1 : c = dx
      · rw [h1, upd_same, upd_same]
      · rw [upd_ne h1, upd_ne h1]
        by_cases h2 : c = x
        · rw [h2, del_same, hx']
        · rw [del_ne h2, upd_ne h2, upd_ne h1, upd_ne h2]
    rw [eq]
    obtain ⟨g2, S2⟩ := S1.laid (o := .xd [(fn, v1)]) hd1
    refine k σ _ _ (.ref C) (some dx) (g1.trans g2) S2 ⟨nm, fn, dx, v1, ?_, ?_, ?_, rfl, upd_same, r1.mono g2⟩
    · rw [hb]; exact A.hk
    · rw [hb]; exact A.hf
    · rw [hb]; exact A.ns
theorem js_par3 {i j l : Nat} {y z u : Str} {py pz pu pt : Pos} {k1 k2 : Nat} {e1 e2 e3 : Expr} {pt2 : Pos} {c d : IE} (g : Gs T X N sc n) (hi : nmB N i y = true) (hj : nmB N j z = true) (hl : nmB N l u = true) (hij : i ≠ j) (hil : i ≠ l) (hjl : j ≠ l)
    (hy : sc.names.lookup y = some .local) (hz : sc.names.lookup z = some .local) (hu : sc.names.lookup u = some .local)
    (hw : swappedStores [.Tuple [.Name y py, .Name z pz, .Name u pu] k1 pt] (.Tuple [e1, e2, e3] k2 pt2) X.env = pure (some [y, z, u])) (ha : JE X b e1 (sem Φ T.gv a)) (hc : JE X b e2 (sem Φ T.gv c)) (hd : JE X b e3 (sem Φ T.gv d)) :
    PS X (.Assign [.Tuple [.Name y py, .Name z pz, .Name u pu] k1 pt] (.Tuple [e1, e2, e3] k2 pt2) pos) (tSt b W (ex Φ T.gv wf (.asgQ i j l a c d))) := by
  refine (ps_par3 g.g.calm (by rw [g.g.ns]; exact g.g.nd) (nm_of g.g hi) (nm_of g.g hj) (nm_of g.g hl) hij hil hjl (by rw [g.scope]; exact hy) (by rw [g.scope]; exact hz) (by rw [g.scope]; exact hu)
    (pa_cons ha.ev (pa_cons hc.ev (pa_cons hd.ev pa_nil (hd.ns _ _)) (hc.ns _ _)) (ha.ns _ _)) hw rfl).wk fun D σ H ⟨env, G, env', fl, q, S, k⟩ => ?_
  obtain ⟨⟨o, x1, w⟩, h1, q⟩ := Option.bind_eq_some_iff.mp q
  obtain ⟨⟨o2, x2, w2⟩, h2, q⟩ := Option.bind_eq_some_iff.mp q
  obtain ⟨⟨o3, x3, w3⟩, h3, q⟩ := Option.bind_eq_some_iff.mp q
  obtain ⟨en1, h4, q⟩ := Option.bind_eq_some_iff.mp q
  obtain ⟨en2, h5, q⟩ := Option.bind_eq_some_iff.mp q
  obtain ⟨en3, h6, h7⟩ := Option.map_eq_some_iff.mp q
  cases h7
  refine use h1 S fun v1 H1 G1 g1 S1 r1 => use h2 S1 fun v2 H2 G2 g2 S2 r2 => use h3 S2 fun v3 H3 G3 g3 S3 r3 => ?_
  exact ⟨v1, v2, v3, rfl, k _ H3 G3 ((g1.trans g2).trans g3) (((S3.put (own := false) h4 (r1.mono (g2.trans g3))).put (own := false) h5 (r2.mono g3)).put (own := false) h6 r3)⟩
end
end PD
/-! try: .. except C as e: a suite that looks at the exception. -/
namespace PD
open PySem L2
/-- a slot that no data stands in may hold anything -/
theorem Sat.slotted {b : Bs} {σ : L2.St} {H G : Hp} {env : Env} {i : Nat} (S : Sat b σ H G env) (h : unset env i = true) (x : Option V) : Sat b (σ.set i x) H G env := by
  have ne : ∀ {j : Nat} {c : Fl × D}, env[j]? = some (some c) → i ≠ j := by
    intro j c hj e
    subst e
    unfold unset at h
    rw [hj] at h
    cases h
  refine ⟨by rw [List.length_set]; exact S.len, S.ex, S.ex0, S.keep, S.new, S.lents, fun j f d hj => ?_, fun j l f g d e a hj hl hf hg h1 h2 => ?_⟩
  · obtain ⟨v, hv, c⟩ := S.slot j f d hj
    exact ⟨v, by rw [List.getElem?_set_ne (ne hj)]; exact hv, c⟩
  · rw [List.getElem?_set_ne (ne hj)] at h1
    rw [List.getElem?_set_ne (ne hl)] at h2
    exact S.apart j l f g d e a hj hl hf hg h1 h2
structure SuiteAt (T : Tx) (b : Bs) (i : Nat) (a : Addr) (cls : Value) (dd : Option Addr) (σ : L2.St) (H G : Hp) (env : Env) (k f : Nat) (d : D) : Prop where
  slot : σ[i]? = some (some (.ref a))
  un : unset env i = true
  x : XAt b.cs G k f d cls dd
  mem : (k, f) ∈ T.xcl
  S : Sat b σ H G env
theorem SuiteAt.go {T : Tx} {b : Bs} {i : Nat} {a : Addr} {cls : Value} {dd : Option Addr} {σ : L2.St} {H G H' G' : Hp} {env : Env} {k f : Nat} {d : D} (A : SuiteAt T b i a cls dd σ H G env k f d) (g : Same G G') (S : Sat b σ H' G' env) : SuiteAt T b i a cls dd σ H' G' env k f d :=
  ⟨A.slot, A.un, A.x.mono g, A.mem, S⟩
abbrev FH := Nat → Nat → D → Env → Option D
def tH (T : Tx) (b : Bs) (i : Nat) (a : Addr) (cls : Value) (dd : Option Addr) (F : FH) : TE := fun σ H Q => ∃ G env k f d x, SuiteAt T b i a cls dd σ H G env k f d ∧ F k f d env = some x ∧ ∀ v H' G', Same G G' → Sat b σ H' G' env → Rep b.cs G' v x → Q v H'
/-- isinstance(e, c), e the exception of the suite -/
def rIsX (K : PySem.W.Frag) (D a : Addr) (dd : Option Addr) : List V → Hp → VK → Prop := fun xs H Q => ∃ (c : V) (d1 : Addr) (fs : List (Str × V)) (b : Bool), xs = [.ref a, c] ∧ dd = some d1 ∧ H d1 = some (.xd fs) ∧
  ((∃ cv : Value, (∀ u, RelV c u → u = cv) ∧ PySem.W.kitOne K (.ref D) cv = some b) ∨ ∃ (t : Addr) (ds : List Addr), c = .ref t ∧ SqT K H t (ds.map V.ref) ∧ PySem.W.kitAny K (.ref D) (ds.map Value.ref) = some b) ∧ Q (.bl b) H
theorem vals_refs : ∀ {ds : List Addr} {us : List Value}, Vals (ds.map V.ref) us → us = ds.map Value.ref
  | [], _, .nil => rfl
  | d :: ds, _, .cons r t => by
    obtain rfl := (show _ = Value.ref d from r)
    rw [vals_refs t]
    rfl
theorem call_isX {X : Cx} {a D : Addr} {dd : Option Addr} {oe : Obj} {pn : List (Addr × Obj)} (C : ExcC X.K D) (hz : Zc (.ref D) dd oe) (hf : ∃ vs, oe.data = .fields vs) : CallR (X.suite a ((a, oe) :: pn)) (.builtin "isinstance") (rIsX X.K D a dd) := by
  intro pins s σ H xs us Q I r h
  obtain ⟨c, d1, fs, bb, rfl, rfl, hd, hc, q⟩ := h
  cases r with
  | cons rx rr =>
    cases rr with
    | cons rt rr =>
      cases rr
      cases rx
      obtain ⟨hget, _⟩ := I.pin (a, oe) (List.mem_append.mpr (.inl List.mem_cons_self))
      obtain ⟨vs, hv⟩ := hf
      have hx : ObjOk X.prog X.w H s.heap d1 (.xd fs) := I.hok d1 _ hd
      obtain ⟨mA, hns, hr⟩ := hx
      obtain ⟨od, ho, hl⟩ := lookIn_ns hns
      have J : PySem.W.InstAt s.heap a oe D (some od) := ⟨hget, hz.1, by unfold PySem.W.notCls; rw [hv] <;> rfl, by rw [hz.2]; exact ho⟩
      have hcl : (PySem.W.clsIn X.K D).isSome = true := by
        obtain ⟨cd, hcd, _⟩ := PySem.W.any_some C.hd
        rw [hcd]; rfl
      have Z := PySem.W.kitx_exc (x := a) (ox := oe) (od := some od) hcl C.hg C.hk C.hs C.ha C.hn C.ht C.hm
      rcases hc with ⟨cv, hcv, e⟩ | ⟨t, ds, rfl, hT, e⟩
      · have ec := hcv _ rt
        subst ec
        exact PySem.W.kia_one Z I.kIn J e (fun z => nomatch z) fun tk => ⟨.bl bb, H, I.kept (t' := tk) fun _ _ z => z, rfl, q⟩
      · obtain rfl := (show _ = Value.ref t from rt)
        obtain ⟨its, rv, ⟨⟨oc, dc, data, sl⟩, hto, htc, n, htd⟩, hs⟩ := I.tuple hT
        simp only at htc htd
        subst htc htd
        have ei := vals_refs rv
        subst ei
        exact PySem.W.kia_tup Z I.kIn J hto e (fun z => nomatch z) fun tk => ⟨.bl bb, H, I.kept (t' := tk) fun _ _ z => z, rfl, q⟩
/-! ### which syntax -/
section
variable (T : Tb) (N : List Str) (sc : Scope) (i : Nat)
def clsB (c : Nat) : Expr → Bool
  | .Name y _ => decide (T.W[c]? = some y) && T.xcs.contains c && glB sc y && plainN y
  | _ => false
def clsBs : List Nat → List Expr → Bool
  | [], [] => true
  | c :: cs, y :: ys => clsB T sc c y && clsBs cs ys
  | _, _ => false
def isB : List Nat → Expr → Bool
  | [c], .Name y p => if c = 1 then decide (y = ("ValueError" : Str)) && glB sc y else clsB T sc c (.Name y p)
  | cs, .Tuple ys _ _ => clsBs T sc cs ys && !cs.contains 1 && !cs.isEmpty && decide (cs.length ≤ 1000)
  | _, _ => false
def ckH : HX → Expr → Bool
  | .isE cs, .Call (.Name z _) [x, y] [] _ => decide (z = ("isinstance" : Str)) && glB sc z && varB N sc i x && isB T sc cs y
  | .fld g, .Attribute x m _ => varB N sc i x && decide (T.W[g]? = some m)
  | .wd k, .Constant (.str x) _ _ => decide (T.W[k]? = some x)
  | .var j, x => varB N sc j x && !(j == i)
  | _, _ => false
def ckHs : List HX → List Expr → Bool
  | [], [] => true
  | h :: hs, x :: xs => ckH T N sc i h x && ckHs hs xs
  | _, _ => false
def ckHV : HV → Expr → Bool
  | .one h, x => ckH T N sc i h x
  | .tup hs, .Tuple xs _ _ => ckHs T N sc i hs xs && decide (xs.length ≤ 1000)
  | _, _ => false
def ckHT1 : Bool × HX → Expr → Bool
  | (false, h), x => ckH T N sc i h x
  | (true, h), .UnaryOp .Not x _ => ckH T N sc i h x
  | _, _ => false
def ckHTs : List (Bool × HX) → List Expr → Bool
  | [h], [x] => ckHT1 T N sc i h x
  | h :: hs, x :: xs => ckHT1 T N sc i h x && ckHTs hs xs
  | _, _ => false
def ckHT : List (Bool × HX) → Expr → Bool
  | [h], x => ckHT1 T N sc i h x
  | h :: h2 :: hs, .BoolOp .And xs _ => ckHTs T N sc i (h :: h2 :: hs) xs
  | _, _ => false
def ckHS : HS → List Stmt → Bool
  | .nil, [] => true
  | .asg j v r, .Assign [.Name y _] e _ :: st => nmB N j y && locB sc y && !(j == i) && !compE e && ckHV T N sc i v e && ckHS r st
  | .ite cs t r, .If e p [] _ :: st => ckHT T N sc i cs e && ckHS t p && ckHS r st
  | _, _ => false
end
section
variable {T : Tx} {X : Cx} {N : List Str} {sc : Scope} {n : Nat} {b : Bs} {i : Nat} {a : Addr} {oe : Obj} {cls : Value} {dd : Option Addr} {pn : List (Addr × Obj)}
abbrev sY (X : Cx) (a : Addr) (oe : Obj) (pn : List (Addr × Obj)) : Cx := X.suite a ((a, oe) :: pn)
theorem any_same {p q : Nat → Bool} : ∀ {l : List Nat}, (∀ c ∈ l, p c = q c) → l.any p = l.any q
  | [], _ => rfl
  | c :: l, h => by rw [List.any_cons, List.any_cons, h c List.mem_cons_self, any_same fun d hd => h d (List.mem_cons_of_mem _ hd)]
theorem glY {y : Str} (h : Gl X y) : Gl (sY X a oe pn) y := h
theorem visY {y : Str} (h : Vis X.env.scope y) : Vis (sY X a oe pn).env.scope y := h
theorem nmY {j : Nat} {y : Str} (h : X.N[j]? = some y) : (sY X a oe pn).N[j]? = some y := h
theorem isB_cases {t : Tb} {cs : List Nat} {y : Expr} (h : isB t sc cs y = true) : (∃ c z p, cs = [c] ∧ y = .Name z p ∧ (if c = 1 then decide (z = ("ValueError" : Str)) && glB sc z else clsB t sc c (.Name z p)) = true) ∨
    (∃ ys j p, y = .Tuple ys j p ∧ clsBs t sc cs ys = true ∧ cs.contains 1 = false ∧ cs.length ≤ 1000) := by
  have tup : ∀ (ys : List Expr) (j : Nat) (p : Pos), (clsBs t sc cs ys && !cs.contains 1 && !cs.isEmpty && decide (cs.length ≤ 1000)) = true → ∃ ys' j' p', Expr.Tuple ys j p = .Tuple ys' j' p' ∧ clsBs t sc cs ys' = true ∧ cs.contains 1 = false ∧ cs.length ≤ 1000 := by
    intro ys j p h
    simp only [Bool.and_eq_true] at h
    obtain ⟨⟨⟨q1, q2⟩, q3⟩, q4⟩ := h
    exact ⟨ys, j, p, rfl, q1, by simpa using q2, of_decide_eq_true q4⟩
  cases y with
  | Name z p =>
    match cs, h with
    | [c], h => exact .inl ⟨c, z, p, rfl, rfl, h⟩
    | [], h => cases h
    | _ :: _ :: _, h => cases h
  | Tuple ys j p =>
    refine .inr (tup ys j p ?_)
    match cs, h with
    | [c], h => exact h
    | [], h => exact h
    | _ :: _ :: _, h => exact h
  | _ =>
    match cs, h with
    | [c], h => cases h
    | [], h => cases h
    | _ :: _ :: _, h => cases h
theorem varY (g : Gx T X N sc n) {j : Nat} {x : Expr} (h : varB N sc j x = true) : PE (sY X a oe pn) x (tVar j) ∧ Bare (sY X a oe pn) x := by
  unfold varB at h
  split at h
  · rename_i y p
    rw [Bool.and_eq_true, Bool.and_eq_true] at h
    obtain ⟨⟨h1, h2⟩, h3⟩ := h
    obtain ⟨p1, p2⟩ := plain_of h3
    exact ⟨pe_var (X := sY X a oe pn) (nmY (nm_of g h1)) (visY (vis_of g h2)) p1 p2, bare_name⟩
  · cases h
theorem XAt.cls_of (hb : b.cs = T.cs) {G : Hp} {k f : Nat} {d : D} (h : XAt b.cs G k f d cls dd) {nm fn : Str} {C fI : Addr} {fd : FuncData} (A : ClsAt T k f nm fn C fI fd) : cls = .ref C ∧ ∃ (d1 : Addr) (v : V), dd = some d1 ∧ G d1 = some (.xd [(fn, v)]) ∧ Rep b.cs G v d := by
  obtain ⟨nm', fn', d1, v, h1, h2, h3, h4, h5, h6⟩ := h
  rw [hb] at h1 h2 h3
  have e1 : nm = nm' := Option.some.inj (A.hk.symm.trans h1)
  have e2 : fn = fn' := Option.some.inj (A.hf.symm.trans h2)
  subst e1 e2
  have e3 := A.ns.symm.trans h3
  cases e3
  exact ⟨rfl, d1, v, h4, h5, h6⟩
theorem kit_any {K : PySem.W.Frag} {t : Value} {k : Nat} {W : List Str} {mg : Str → Option Value} : ∀ {cs : List Nat}, (∀ c ∈ cs, ∃ (nm : Str) (D : Addr), W[c]? = some nm ∧ mg nm = some (.ref D) ∧ PySem.W.kitOne K t (.ref D) = some (c == k || c == 0)) →
    ∃ ds : List Addr, ds.length = cs.length ∧ (∀ (j : Nat) (c : Nat), cs[j]? = some c → ∃ (nm : Str) (D : Addr), W[c]? = some nm ∧ mg nm = some (.ref D) ∧ ds[j]? = some D) ∧ PySem.W.kitAny K t (ds.map Value.ref) = some (cs.any fun c => c == k || c == 0)
  | [], _ => ⟨[], rfl, fun j c h => by simp at h, rfl⟩
  | c :: cs, h => by
    obtain ⟨nm, D, h1, h2, h3⟩ := h c List.mem_cons_self
    obtain ⟨ds, l, hj, e⟩ := kit_any (cs := cs) fun c hc => h c (List.mem_cons_of_mem _ hc)
    refine ⟨D :: ds, congrArg (· + 1) l, fun j c' hc => ?_, ?_⟩
    · cases j with
      | zero =>
        cases hc
        exact ⟨nm, D, h1, h2, rfl⟩
      | succ j => simpa using hj j c' (by simpa using hc)
    · show (match PySem.W.kitOne K t (.ref D) with | some true => some true | some false => PySem.W.kitAny K t (ds.map Value.ref) | none => none) = _
      rw [h3]
      cases hc : (c == k || c == 0) with
      | true => simp [hc]
      | false =>
        rw [List.any_cons, hc, Bool.false_or]
        exact e
/-- the names of the classes -/
theorem pa_cls (ok : TOk T) (g : Gx T X N sc n) : ∀ {cs : List Nat} {ys : List Expr} {ds : List Addr}, clsBs T.tb sc cs ys = true → ds.length = cs.length → (∀ (j : Nat) (c : Nat), cs[j]? = some c → ∃ (nm : Str) (D : Addr), T.W[c]? = some nm ∧ T.mg nm = some (.ref D) ∧ ds[j]? = some D) →
    PA (sY X a oe pn) ys (fun σ H Q => Q (ds.map V.ref) H) ∧ ys.length = cs.length
  | [], [], [], _, _, _ => ⟨⟨fun p pins s σ H Q I q => pa_nil.run p pins s σ H Q I q⟩, rfl⟩
  | [], [], _ :: _, _, h, _ => by simp at h
  | c :: cs, y :: ys, [], _, h, _ => by simp at h
  | c :: cs, y :: ys, D :: ds, h, hl, hj => by
    have h : (clsB T.tb sc c y && clsBs T.tb sc cs ys) = true := h
    rw [Bool.and_eq_true] at h
    obtain ⟨pa, l⟩ := pa_cls ok g (cs := cs) (ys := ys) (ds := ds) h.2 (by simpa using hl) fun j c' hc => by simpa using hj (j + 1) c' (by simpa using hc)
    obtain ⟨nm, D', h1, h2, h3⟩ := hj 0 c rfl
    cases h3
    have h1' := h.1
    cases y with
    | Name z p =>
      have h1' : (decide (T.W[c]? = some z) && T.xcs.contains c && glB sc z && plainN z) = true := h1'
      simp only [Bool.and_eq_true] at h1'
      obtain ⟨⟨⟨q1, q2⟩, q3⟩, q4⟩ := h1'
      have e := of_decide_eq_true q1
      rw [h1] at e
      cases e
      refine ⟨?_, congrArg (· + 1) l⟩
      have pe : PE (sY X a oe pn) (.Name nm p) (tC (.ref D)) := pe_glob (X := sY X a oe pn) (glY (gl_of g q3)) (by show X.mg nm = _; rw [g.mg]; exact h2) rfl (plain_of q4).1
      exact (pa_cons pe pa rfl).wk fun σ H Q q => q
    | _ => cases h1'
  | [], _ :: _, _, h, _, _ => by cases h
  | _ :: _, [], _, h, _, _ => by cases h
theorem pe_h (ok : TOk T) (g : Gx T X N sc n) (hb : b.cs = T.cs) (hz : Zc cls dd oe) (hf : ∃ vs, oe.data = .fields vs) {h : HX} {x : Expr} (hc : ckH T.tb N sc i h x = true) : PE (sY X a oe pn) x (tH T b i a cls dd fun k f d => hx k f d h) := by
  cases h with
  | wd k =>
    cases x with
    | Constant c j p =>
      cases c with
      | str z =>
        have hc : decide (T.W[k]? = some z) = true := hc
        refine pe_str.wk fun σ H Q ⟨G, env, k', f, d, y, A, e, q⟩ => ?_
        cases e
        exact q _ H G (Same.refl G) A.S (.w (by rw [hb]; exact of_decide_eq_true hc))
      | _ => cases hc
    | _ => cases hc
  | var j =>
    have hc : (varB N sc j x && !(j == i)) = true := hc
    rw [Bool.and_eq_true] at hc
    refine (varY g hc.1).1.wk fun σ H Q ⟨G, env, k', f, d, y, A, e, q⟩ => ?_
    have e : (match getC env j with | some (.fro, x) => some x | _ => none) = some y := e
    split at e
    · rename_i z hz
      cases e
      obtain ⟨v, hv, r⟩ := A.S.slot j _ _ (getC_some hz)
      exact ⟨v, hv, q v H G (Same.refl G) A.S r⟩
    · cases e
  | fld m =>
    cases x with
    | Attribute x m' p =>
      have hc : (varB N sc i x && decide (T.W[m]? = some m')) = true := hc
      rw [Bool.and_eq_true] at hc
      have em := of_decide_eq_true hc.2
      refine ⟨fun pins s σ H Q I ⟨G, env, k', f, d, y, A, e, q⟩ => ?_⟩
      obtain ⟨nm, fn, C, fI, fd, B, _⟩ := ok.cls _ A.mem
      obtain ⟨rfl, d1, v, rfl, hG, rv⟩ := A.x.cls_of hb B
      have e : (if m = f then some d else none) = some y := e
      split at e
      · rename_i hm
        cases e
        subst hm
        have ef : fn = m' := Option.some.inj (B.hf.symm.trans em)
        subst ef
        have hb' : attributeBase x fn X.env (eval x X.env) = eval x X.env := by
          have hv := hc.1
          unfold varB at hv
          split at hv
          · rfl
          · cases hv
        have pe := pe_xf (X := X) (pos := p) (te := tVar i) ⟨by rw [g.K]; exact B.xc.hg, by rw [g.K]; exact B.xc.hk, by rw [g.K]; exact B.xc.hs, by rw [g.K]; exact B.xc.hd⟩ (by rw [g.K]; exact B.no) hz hf (varY (oe := oe) (a := a) (pn := pn) g hc.1).1 hb'
        refine pe.run pins s σ H Q I ⟨.ref a, A.slot, rfl, rfl, d1, [(fn, v)], v, rfl, A.S.ex _ _ hG, ?_, q v H G (Same.refl G) A.S rv⟩
        simp [List.lookup]
      · cases e
    | _ => cases hc
  | isE cs =>
    have main : ∀ (z : Str) (p0 : Pos) (x y : Expr) (p : Pos), (decide (z = ("isinstance" : Str)) && glB sc z && varB N sc i x && isB T.tb sc cs y) = true → PE (sY X a oe pn) (.Call (.Name z p0) [x, y] [] p) (tH T b i a cls dd fun k f d => hx k f d (.isE cs)) := by
      intro z p0 x y p hc
      simp only [Bool.and_eq_true] at hc
      obtain ⟨⟨⟨h1, h2⟩, h3⟩, h4⟩ := hc
      have ez := of_decide_eq_true h1
      subst ez
      refine ⟨fun pins s σ H Q I ⟨G, env, k, f, d, w, A, e, q⟩ => ?_⟩
      have e : some (D.bl (cs.any fun c => c == k || c == 0 || c == 1)) = some w := e
      cases e
      obtain ⟨nm, fn, C, fI, fd, B, XI⟩ := ok.cls _ A.mem
      obtain ⟨rfl, d1, v, rfl, hG, rv⟩ := A.x.cls_of hb B
      have CR := call_isX (X := X) (D := C) (a := a) (dd := some d1) (oe := oe) (pn := pn) (by rw [g.K]; exact B.xc) hz hf
      have hmi : (sY X a oe pn).mg "isinstance" = none := by
        show X.mg _ = none
        rw [g.mg]
        exact ok.blt _ (by decide +kernel)
      obtain ⟨px, bx⟩ := varY (oe := oe) (a := a) (pn := pn) g h3
      have fin : ∀ r, r = (cs.any fun c => c == k || c == 0 || c == 1) → Q (.bl r) H := fun r hr => by
        rw [hr]
        exact q _ H G (Same.refl G) A.S (.bl _)
      have hd1 : H d1 = some (.xd [(fn, v)]) := A.S.ex _ _ hG
      have one : ∀ {t : V} {cv : Value} {r : Bool}, PE (sY X a oe pn) y (tC t) → (∀ es env, starEach (y :: es) env = (false, eval y env) :: starEach es env) → (∀ u, RelV t u → u = cv) → PySem.W.kitOne X.K (.ref C) cv = some r → Q (.bl r) H →
          wpAny (model X.prog X.w) (sY X a oe pn).A (eval (.Call (.Name "isinstance" p0) [x, y] [] p) X.env) (EP (sY X a oe pn) pins σ Q) (sY X a oe pn).xe s := by
        intro t cv r py hny hcv hk hq
        have pe := pe_callB (p := p0) (pos := p) CR (glY (gl_of g h2)) hmi (by rfl) (pa_cons px (pa_cons py pa_nil (hny _ _)) (bx.ns _ _)) (by decide) (by decide) (bx.ns _ _) (by rw [hny]; rfl)
        exact pe.run pins s σ H Q I ⟨_, A.slot, t, d1, [(fn, v)], r, rfl, rfl, hd1, .inl ⟨cv, hcv, hk⟩, hq⟩
      rcases isB_cases h4 with ⟨c, y', p', rfl, rfl, h4'⟩ | ⟨ys, j, p', rfl, q1, q2, q4⟩
      · replace h4 := h4'
        split at h4
        · rename_i hc1
          subst hc1
          rw [Bool.and_eq_true] at h4
          have ey := of_decide_eq_true h4.1
          subst ey
          obtain ⟨w1, w2⟩ := ok.w1 (fun z => by have := A.mem; rw [z] at this; simp at this)
          refine one (t := .ty "ValueError") (cv := .type "ValueError") (r := true) (pe_bltn (X := sY X a oe pn) (glY (gl_of g h4.2)) (by show X.mg _ = none; rw [g.mg]; exact w2) PyProof.Rows.Boot.«ValueError» rfl (by decide) (by decide)) (fun _ _ => rfl) (fun u hu => hu) (by rw [g.K]; exact B.ve) (fin true ?_)
          simp
        · rename_i hc1
          have h4 : (decide (T.W[c]? = some y') && T.xcs.contains c && glB sc y' && plainN y') = true := h4
          simp only [Bool.and_eq_true] at h4
          obtain ⟨⟨⟨q1, q2⟩, q3⟩, q4⟩ := h4
          obtain ⟨nm2, D2, e1, e2, e3, _⟩ := (XI c (by simpa using q2)).ex
          have ey := of_decide_eq_true q1
          rw [e1] at ey
          cases ey
          refine one (t := .ref D2) (cv := .ref D2) (pe_glob (X := sY X a oe pn) (glY (gl_of g q3)) (by show X.mg _ = _; rw [g.mg]; exact e2) rfl (plain_of q4).1) (fun _ _ => rfl) (fun u hu => hu) (by rw [g.K]; exact e3) (fin _ ?_)
          have hne : (c == 1) = false := by simpa using hc1
          simp [hne]
      · have mem : ∀ {cs : List Nat} {ys : List Expr}, clsBs T.tb sc cs ys = true → ∀ c ∈ cs, c ∈ T.xcs := by
          intro cs
          induction cs with
          | nil => intro ys _ c hc; simp at hc
          | cons c0 cs ih =>
            intro ys h c hc
            cases ys with
            | nil => cases h
            | cons y0 ys =>
              have h : (clsB T.tb sc c0 y0 && clsBs T.tb sc cs ys) = true := h
              rw [Bool.and_eq_true] at h
              rcases List.mem_cons.mp hc with rfl | hc
              · have h1 := h.1
                cases y0 with
                | Name z0 p0 =>
                  have h1 : (decide (T.W[c]? = some z0) && T.xcs.contains c && glB sc z0 && plainN z0) = true := h1
                  simp only [Bool.and_eq_true] at h1
                  simpa using h1.1.1.2
                | _ => cases h1
              · exact ih h.2 c hc
        obtain ⟨ds, l, hj, ka⟩ := kit_any (K := X.K) (t := .ref C) (k := k) (W := T.W) (mg := T.mg) (cs := cs) fun c hc => by
          obtain ⟨nm2, D2, e1, e2, e3, _⟩ := (XI c (mem q1 c hc)).ex
          exact ⟨nm2, D2, e1, e2, by rw [g.K]; exact e3⟩
        obtain ⟨pa, hlen⟩ := pa_cls (a := a) (oe := oe) (pn := pn) ok g q1 l hj
        have py : PE (sY X a oe pn) (.Tuple ys j p') _ := pe_tup pa
        have pe := pe_callB (p := p0) (pos := p) CR (glY (gl_of g h2)) hmi (by rfl) (pa_cons px (pa_cons py pa_nil rfl) (bx.ns _ _)) (by decide) (by decide) (bx.ns _ _) rfl
        refine pe.run pins s σ H Q I ⟨_, A.slot, ?_, fun t ht => ?_⟩
        · rw [List.length_map, l]
          rw [sizeLine_eq]; omega
        · obtain ⟨g2, S2⟩ := A.S.laid (o := .tup (ds.map V.ref)) ht
          have h2' : upd H t (.tup (ds.map V.ref)) d1 = some (.xd [(fn, v)]) := by
            rw [upd_ne (ne_of_none hd1 ht)]
            exact hd1
          refine ⟨.ref t, d1, [(fn, v)], _, rfl, rfl, h2', .inr ⟨t, ds, rfl, .of upd_same, ka⟩, ?_⟩
          have ea : (cs.any fun c => c == k || c == 0) = cs.any fun c => c == k || c == 0 || c == 1 := by
            have h1 : cs.contains 1 = false := q2
            have : ∀ c ∈ cs, (c == k || c == 0) = (c == k || c == 0 || c == 1) := by
              intro c hc
              have hne : (c == 1) = false := by
                cases h : (c == 1) with
                | false => rfl
                | true =>
                  have : c = 1 := by simpa using h
                  subst this
                  have : cs.contains 1 = true := by simpa using hc
                  rw [h1] at this
                  cases this
              rw [hne, Bool.or_false]
            exact any_same this
          rw [ea]
          exact q _ _ _ g2 S2 (.bl _)
    cases x with
    | Call fx xs ks p =>
      match fx, xs, ks, hc with
      | .Name z p0, [x, y], [], hc => exact main z p0 x y p hc
    | _ => cases hc
end
end PD
namespace PD
open PySem L2
def tHT (T : Tx) (b : Bs) (i : Nat) (a : Addr) (cls : Value) (dd : Option Addr) (F : Nat → Nat → D → Env → Option Bool) : TT := fun σ H Q => ∃ G env k f d x, SuiteAt T b i a cls dd σ H G env k f d ∧ F k f d env = some x ∧ ∀ H' G', Same G G' → Sat b σ H' G' env → Q x H'
/-- a suite -/
def tHS (T : Tx) (b : Bs) (i : Nat) (a : Addr) (cls : Value) (dd : Option Addr) (h : HS) : TS := fun D σ H => ∃ G env k f d env', SuiteAt T b i a cls dd σ H G env k f d ∧ hs k f d h env = some env' ∧ ∀ σ' H' G', Same G G' → unset env' i = true → σ'[i]? = some (some (.ref a)) → Sat b σ' H' G' env' → D.nx σ' H'
section
variable {T : Tx} {X : Cx} {N : List Str} {sc : Scope} {n : Nat} {b : Bs} {i : Nat} {a : Addr} {oe : Obj} {cls : Value} {dd : Option Addr} {pn : List (Addr × Obj)}
theorem h_bare {t : Tb} {h : HX} {x : Expr} (hc : ckH t N sc i h x = true) : Bare (sY X a oe pn) x := by
  cases h with
  | wd k =>
    cases x with
    | Constant c j p => exact bare_const
    | _ => cases hc
  | var j =>
    have hc : (varB N sc j x && !(j == i)) = true := hc
    rw [Bool.and_eq_true] at hc
    have hv := hc.1
    unfold varB at hv
    split at hv
    · exact bare_name
    · cases hv
  | fld m =>
    cases x with
    | Attribute x m' p => exact ⟨fun _ => rfl, fun _ _ => rfl, fun _ _ => rfl⟩
    | _ => cases hc
  | isE cs =>
    cases x with
    | Call fx xs ks p => exact bare_call
    | _ => cases hc
theorem pt_h (ok : TOk T) (g : Gx T X N sc n) (hb : b.cs = T.cs) (hz : Zc cls dd oe) (hf : ∃ vs, oe.data = .fields vs) {h : HX} {x : Expr} (hc : ckH T.tb N sc i h x = true) :
    PT (sY X a oe pn) x (tHT T b i a cls dd fun k f d env => match hx k f d h env with | some (.bl r) => some r | _ => none) := by
  refine (pt_truth (pe_h (a := a) (pn := pn) ok g hb hz hf hc) (h_bare hc).he).wk fun σ H Q ⟨G, env, k, f, d, r, A, e, q⟩ => ?_
  have e : (match hx k f d h env with | some (.bl r) => some r | _ => none) = some r := e
  split at e
  · rename_i r' he
    cases e
    exact ⟨G, env, k, f, d, .bl r, A, he, fun v H' G' g' S' rv => ⟨r, by cases rv; rfl, q H' G' g' S'⟩⟩
  · cases e
theorem pt_h1 (ok : TOk T) (g : Gx T X N sc n) (hb : b.cs = T.cs) (hz : Zc cls dd oe) (hf : ∃ vs, oe.data = .fields vs) {p : Bool × HX} {x : Expr} (hc : ckHT1 T.tb N sc i p x = true) :
    PT (sY X a oe pn) x (tHT T b i a cls dd fun k f d env => match hx k f d p.2 env with | some (.bl r) => some (if p.1 then !r else r) | _ => none) := by
  obtain ⟨ng, h⟩ := p
  cases ng with
  | false =>
    have hc : ckH T.tb N sc i h x = true := by cases x <;> exact hc
    exact pt_h ok g hb hz hf hc
  | true =>
    cases x with
    | UnaryOp o x p =>
      cases o with
      | Not =>
        have hc : ckH T.tb N sc i h x = true := hc
        refine (pt_not (pt_h (a := a) (pn := pn) ok g hb hz hf hc)).wk fun σ H Q ⟨G, env, k, f, d, r, A, e, q⟩ => ?_
        have e : (match hx k f d h env with | some (.bl r) => some (!r) | _ => none) = some r := e
        split at e
        · rename_i r' he
          cases e
          refine ⟨G, env, k, f, d, r', A, ?_, fun H' G' g' S' => q H' G' g' S'⟩
          show (match hx k f d h env with | some (.bl r) => some r | _ => none) = some r'
          rw [he]
        · cases e
      | _ => cases hc
    | _ => cases hc
theorem hts_one {k f : Nat} {d : D} {p : Bool × HX} {env : Env} {r : Bool} (e : hts k f d [p] env = some r) : (match hx k f d p.2 env with | some (.bl r) => some (if p.1 then !r else r) | _ => none) = some r := by
  obtain ⟨ng, h⟩ := p
  have e : (match hx k f d h env with | some (.bl b) => if (if ng then !b else b) then some true else some false | _ => none) = some r := e
  split at e
  · rename_i b he
    dsimp only
    rw [he]
    dsimp only
    cases hb : (if ng = true then !b else b) with
    | true => rw [hb] at e; simpa using e
    | false => rw [hb] at e; simpa using e
  · cases e
theorem pw_hs (ok : TOk T) (g : Gx T X N sc n) (hb : b.cs = T.cs) (hz : Zc cls dd oe) (hf : ∃ vs, oe.data = .fields vs) {pos : Pos} : ∀ {cs : List (Bool × HX)} {xs : List Expr}, ckHTs T.tb N sc i cs xs = true →
    PW (sY X a oe pn) (.BoolOp .And xs pos) (tHT T b i a cls dd fun k f d => hts k f d cs)
  | [p], [x], h => PW.wk' (pw_and1 (pt_h1 (a := a) (pn := pn) ok g hb hz hf (p := p) (x := x) h)) fun σ H Q ⟨G, env, k, f, d, r, A, e, q⟩ => ⟨G, env, k, f, d, r, A, hts_one e, q⟩
  | p :: p2 :: ps, x :: x2 :: xs, h => by
    have h : (ckHT1 T.tb N sc i p x && ckHTs T.tb N sc i (p2 :: ps) (x2 :: xs)) = true := h
    rw [Bool.and_eq_true] at h
    refine PW.wk' (pw_and (pt_h1 (a := a) (pn := pn) ok g hb hz hf h.1) (pw_hs (pos := pos) ok g hb hz hf h.2)) fun σ H Q ⟨G, env, k, f, d, r, A, e, q⟩ => ?_
    obtain ⟨ng, hh⟩ := p
    have e : (match hx k f d hh env with | some (.bl b) => if (if ng then !b else b) then hts k f d (p2 :: ps) env else some false | _ => none) = some r := e
    split at e
    · rename_i bb he
      refine ⟨G, env, k, f, d, (if ng then !bb else bb), A, ?_, fun H1 G1 g1 S1 => ?_⟩
      · dsimp only
        rw [he]
      · cases hv : (if ng = true then !bb else bb) with
        | true =>
          rw [hv, if_pos rfl] at e
          rw [if_pos rfl]
          exact ⟨G1, env, k, f, d, r, A.go g1 S1, e, fun H2 G2 g2 S2 => q H2 G2 (g1.trans g2) S2⟩
        | false =>
          rw [hv, if_neg Bool.false_ne_true] at e
          rw [if_neg Bool.false_ne_true]
          cases e
          exact q H1 G1 g1 S1
    · cases e
  | [], [], h => by cases h
  | [], _ :: _, h => by cases h
  | [_], [], h => by cases h
  | [_], _ :: _ :: _, h => by
    have h : (_ && false) = true := h
    simp at h
  | _ :: _ :: _, [], h => by cases h
  | p :: p2 :: ps, [x], h => by
    have h : (ckHT1 T.tb N sc i p x && ckHTs T.tb N sc i (p2 :: ps) []) = true := h
    rw [Bool.and_eq_true] at h
    have h2 := h.2
    cases ps <;> cases h2
theorem pt_hs (ok : TOk T) (g : Gx T X N sc n) (hb : b.cs = T.cs) (hz : Zc cls dd oe) (hf : ∃ vs, oe.data = .fields vs) {cs : List (Bool × HX)} {x : Expr} (h : ckHT T.tb N sc i cs x = true) :
    PT (sY X a oe pn) x (tHT T b i a cls dd fun k f d => hts k f d cs) := by
  match cs, h with
  | [p], h =>
    have h : ckHT1 T.tb N sc i p x = true := by cases x <;> exact h
    exact (pt_h1 (a := a) (pn := pn) ok g hb hz hf h).wk fun σ H Q ⟨G, env, k, f, d, r, A, e, q⟩ => ⟨G, env, k, f, d, r, A, hts_one e, q⟩
  | [], h => cases x <;> cases h
  | p :: p2 :: ps, h =>
    cases x with
    | BoolOp o xs pos =>
      cases o with
      | And => exact (pw_hs ok g hb hz hf h).pt
      | Or => cases h
    | _ => cases h
theorem pa_hs (ok : TOk T) (g : Gx T X N sc n) (hb : b.cs = T.cs) (hz : Zc cls dd oe) (hf : ∃ vs, oe.data = .fields vs) : ∀ {es : List HX} {xs : List Expr}, ckHs T.tb N sc i es xs = true →
    PA (sY X a oe pn) xs (fun σ H Q => ∃ G env k f d ys, SuiteAt T b i a cls dd σ H G env k f d ∧ hxs k f d es env = some ys ∧ ∀ vs H' G', Same G G' → Sat b σ H' G' env → Reps b.cs G' vs ys → Q vs H') ∧ xs.length = es.length
  | [], [], _ => ⟨pa_nil.wk fun σ H Q ⟨G, env, k, f, d, ys, A, e, q⟩ => by
      cases e
      exact q [] H G (Same.refl G) A.S .nil, rfl⟩
  | h :: es, x :: xs, hc => by
    have hc : (ckH T.tb N sc i h x && ckHs T.tb N sc i es xs) = true := hc
    rw [Bool.and_eq_true] at hc
    obtain ⟨pa, l⟩ := pa_hs ok g hb hz hf hc.2
    refine ⟨(pa_cons (pe_h (a := a) (pn := pn) ok g hb hz hf hc.1) pa ((h_bare (X := X) (a := a) (oe := oe) (pn := pn) hc.1).ns _ _)).wk fun σ H Q ⟨G, env, k, f, d, ys, A, e, q⟩ => ?_, congrArg (· + 1) l⟩
    obtain ⟨y, h1, e⟩ := Option.bind_eq_some_iff.mp e
    obtain ⟨ys', h2, e⟩ := Option.map_eq_some_iff.mp e
    cases e
    refine ⟨G, env, k, f, d, y, A, h1, fun v1 H1 G1 g1 S1 r1 => ?_⟩
    exact ⟨G1, env, k, f, d, ys', A.go g1 S1, h2, fun vs H2 G2 g2 S2 rs => q (v1 :: vs) H2 G2 (g1.trans g2) S2 (.cons (r1.mono g2) rs)⟩
  | [], _ :: _, h => by cases h
  | _ :: _, [], h => by cases h
theorem pe_hv (ok : TOk T) (g : Gx T X N sc n) (hb : b.cs = T.cs) (hz : Zc cls dd oe) (hf : ∃ vs, oe.data = .fields vs) {v : HV} {x : Expr} (hc : ckHV T.tb N sc i v x = true) : PE (sY X a oe pn) x (tH T b i a cls dd fun k f d => hv k f d v) := by
  cases v with
  | one h => 
    have hc : ckH T.tb N sc i h x = true := by cases x <;> exact hc
    exact pe_h ok g hb hz hf hc
  | tup es =>
    cases x with
    | Tuple xs j p =>
      have hc : (ckHs T.tb N sc i es xs && decide (xs.length ≤ 1000)) = true := hc
      rw [Bool.and_eq_true] at hc
      obtain ⟨pa, l⟩ := pa_hs (a := a) (pn := pn) ok g hb hz hf hc.1
      refine (pe_tup pa).wk fun σ H Q ⟨G, env, k, f, d, y, A, e, q⟩ => ?_
      obtain ⟨ys, h1, e⟩ := Option.map_eq_some_iff.mp e
      cases e
      have hl : ∀ {es : List HX} {ys : List D}, hxs k f d es env = some ys → ys.length = es.length := by
        intro es
        induction es with
        | nil => intro ys e; cases e; rfl
        | cons h es ih =>
          intro ys e
          obtain ⟨y, h1, e⟩ := Option.bind_eq_some_iff.mp e
          obtain ⟨ys', h2, e⟩ := Option.map_eq_some_iff.mp e
          cases e
          exact congrArg (· + 1) (ih h2)
      refine ⟨G, env, k, f, d, ys, A, h1, fun vs H1 G1 g1 S1 r1 => ⟨?_, fun t ht => ?_⟩⟩
      · rw [r1.length, hl h1, ← l]
        have := of_decide_eq_true hc.2
        rw [sizeLine_eq]; omega
      · obtain ⟨g2, S2⟩ := S1.laid (o := .tup vs) ht
        exact q _ _ _ (g1.trans g2) S2 (.tup (.of upd_same) (r1.mono g2))
    | _ => cases hc
theorem put_unset {env env' : Env} {j : Nat} {x : D} (h : putC env j false x = some env') (hu : unset env i = true) (hne : j ≠ i) : unset env' i = true := by
  unfold putC at h
  split at h
  · cases h
    unfold unset at hu ⊢
    rw [List.getElem?_set_ne hne]
    exact hu
  · cases h
theorem hs_nil {t : Tb} {st : List Stmt} (h : ckHS t N sc i .nil st = true) : st = [] := by
  cases st with
  | nil => rfl
  | cons _ _ => cases h
theorem hs_asg {t : Tb} {j : Nat} {v : HV} {r : HS} {st : List Stmt} (h : ckHS t N sc i (.asg j v r) st = true) : ∃ y py e p st', st = .Assign [.Name y py] e p :: st' ∧ nmB N j y = true ∧ locB sc y = true ∧ j ≠ i ∧ compE e = false ∧ ckHV t N sc i v e = true ∧ ckHS t N sc i r st' = true := by
  unfold ckHS at h
  split at h
  · rename_i h0
    cases h0
  · rename_i y py e p st' h0
    cases h0
    simp only [Bool.and_eq_true] at h
    obtain ⟨⟨⟨⟨⟨h1, h2⟩, h3⟩, h4⟩, h5⟩, h6⟩ := h
    exact ⟨_, _, _, _, _, rfl, h1, h2, by simpa using h3, by simpa using h4, h5, h6⟩
  · rename_i h0
    cases h0
  · cases h
theorem hs_ite {t : Tb} {cs : List (Bool × HX)} {u r : HS} {st : List Stmt} (h : ckHS t N sc i (.ite cs u r) st = true) : ∃ e p pos st', st = .If e p [] pos :: st' ∧ ckHT t N sc i cs e = true ∧ ckHS t N sc i u p = true ∧ ckHS t N sc i r st' = true := by
  unfold ckHS at h
  split at h
  · rename_i h0
    cases h0
  · rename_i h0
    cases h0
  · rename_i h0
    cases h0
    simp only [Bool.and_eq_true] at h
    exact ⟨_, _, _, _, rfl, h.1.1, h.1.2, h.2⟩
  · cases h
theorem pss_hs (ok : TOk T) (g : Gs T X N sc n) (hb : b.cs = T.cs) (hz : Zc cls dd oe) (hf : ∃ vs, oe.data = .fields vs) : ∀ (h : HS) {st : List Stmt}, ckHS T.tb N sc i h st = true → PSs (sY X a oe pn) st (tHS T b i a cls dd h)
  | .nil, st, h => by
    have e0 := hs_nil h
    subst e0
    refine pss_nil.wk fun D σ H ⟨G, env, k, f, d, env', A, e, q⟩ => ?_
    cases e
    exact q σ H G (Same.refl G) A.un A.slot A.S
  | .asg j v r, st, h => by
    obtain ⟨y, py, e, p, st', rfl, h1, h2, hne, h4, h5, h6⟩ := hs_asg h
    have l := loc_of h2
    have st1 : PS (sY X a oe pn) (.Assign [.Name y py] e p) _ := ps_set (X := sY X a oe pn) (by show X.N.Nodup; rw [g.g.ns]; exact g.g.nd) (nmY (nm_of g.g h1)) (show L2.Loc X.env.scope y from locX g.g l) (pe_hv (a := a) (pn := pn) ok g.g hb hz hf h5) (swap_plain h4) (g.g.fnok _ l)
    refine (pss_cons st1 (pss_hs ok g hb hz hf r h6)).wk fun D σ H ⟨G, env, k, f, d, env', A, e, q⟩ => ?_
    obtain ⟨x, hx1, e⟩ := Option.bind_eq_some_iff.mp e
    obtain ⟨e1, hx2, e⟩ := Option.bind_eq_some_iff.mp e
    refine ⟨G, env, k, f, d, x, A, hx1, fun v H1 G1 g1 S1 r1 => ?_⟩
    refine ⟨G1, e1, k, f, d, env', ⟨?_, put_unset hx2 A.un hne, A.x.mono g1, A.mem, S1.put (own := false) hx2 r1⟩, e, fun σ' H' G' g' u' s' S' => q σ' H' G' (g1.trans g') u' s' S'⟩
    rw [List.getElem?_set_ne hne]
    exact A.slot
  | .ite cs t r, st, h => by
    obtain ⟨e, p, pos, st', rfl, h1, h2, h3⟩ := hs_ite h
    refine (pss_cons (ps_if (pt_hs (a := a) (pn := pn) ok g.g hb hz hf h1) (pss_hs ok g hb hz hf t h2) pss_nil) (pss_hs ok g hb hz hf r h3)).wk fun D σ H ⟨G, env, k, f, d, env', A, e, q⟩ => ?_
    obtain ⟨x, hx1, e⟩ := Option.bind_eq_some_iff.mp e
    refine ⟨G, env, k, f, d, x, A, hx1, fun H1 G1 g1 S1 => ?_⟩
    have A1 := A.go g1 S1
    cases x with
    | false =>
      rw [if_neg Bool.false_ne_true] at e
      show (if false = true then _ else _)
      rw [if_neg Bool.false_ne_true]
      exact ⟨G1, env, k, f, d, env', A1, e, fun σ' H' G' g' u' s' S' => q σ' H' G' (g1.trans g') u' s' S'⟩
    | true =>
      rw [if_pos rfl] at e
      show (if true = true then _ else _)
      rw [if_pos rfl]
      obtain ⟨e1, hx2, e⟩ := Option.bind_eq_some_iff.mp e
      refine ⟨G1, env, k, f, d, e1, A1, hx2, fun σ' H' G' g' u' s' S' => ?_⟩
      exact ⟨G', e1, k, f, d, env', ⟨s', u', A1.x.mono g', A.mem, S'⟩, e, fun σ'' H'' G'' g'' u'' s'' S'' => q σ'' H'' G'' (g1.trans (g'.trans g'')) u'' s'' S''⟩
/-- try: .. except C as e: .. -/
theorem js_try (ok : TOk T) {W : WX} {Φ : Phi} {wf : Nat} (tk : Takes X W) (g : Gs T X N sc n) (stk : X.stack = X.env :: X.outer) (frm : X.env.frame = some X.env.locals) (hb : b.cs = T.cs) {bd : ISs} {c : Nat} {xs : List (Nat × Nat)} {h : HS} {body suite : List Stmt} {b0 : Stmt} {y ne : Str} {np pos' pos : Pos}
    (hxs : ∀ p ∈ xs, p ∈ T.xcl) (hne : xs ≠ []) (hcx : c ∈ T.xcs) (hy : T.W[c]? = some y) (hg : glB sc y = true) (hp : plainN y = true) (hn : nmB N i ne = true) (hl : sc.names.lookup ne = some .local) (hs : ckHS T.tb N sc i h (b0 :: suite) = true)
    (hbd : ∀ (W' : WX) (pn : List (Addr × Obj)) (xe : Value → Shared → Prop), Takes (X.tr pn xe) W' → PassesOwn (model X.prog X.w) X.A X.env xe → PSs (X.tr pn xe) body (tSt b W' (exs Φ T.gv wf bd))) :
    PS X (.Try body [.ExceptHandler (some (.Name y np)) (some ne) (b0 :: suite) pos'] [] [] pos) (tSt b W (ex Φ T.gv wf (.tryA bd c i xs h))) := by
  obtain ⟨Dc, hD, XD⟩ : ∃ D : Addr, T.mg y = some (.ref D) ∧ ∀ p ∈ T.xcl, ∃ nm fn C fI fd, ClsAt T p.1 p.2 nm fn C fI fd ∧ PySem.W.exmOne T.K (.ref C) (.ref D) = some (c == p.1 || c == 0) := by
    have one : ∀ p ∈ T.xcl, ∃ (D : Addr) (nm fn : Str) (C fI : Addr) (fd : FuncData), T.mg y = some (.ref D) ∧ ClsAt T p.1 p.2 nm fn C fI fd ∧ PySem.W.exmOne T.K (.ref C) (.ref D) = some (c == p.1 || c == 0) := by
      intro p hp
      obtain ⟨nm, fn, C, fI, fd, A, XI⟩ := ok.cls p hp
      obtain ⟨nm2, D, e1, e2, _, e4⟩ := (XI c hcx).ex
      rw [hy] at e1
      cases e1
      exact ⟨D, nm, fn, C, fI, fd, e2, A, e4⟩
    cases xs with
    | nil => exact absurd rfl hne
    | cons p _ =>
      obtain ⟨D, _, _, _, _, _, e, _, _⟩ := one p (hxs p List.mem_cons_self)
      refine ⟨D, e, fun p hp => ?_⟩
      obtain ⟨D', nm, fn, C, fI, fd, e', A, e4⟩ := one p hp
      rw [e] at e'
      cases e'
      exact ⟨nm, fn, C, fI, fd, A, e4⟩
  have hnames : Names X y (.ref Dc) := ⟨gl_of g.g hg, (plain_of hp).1, .inl (by rw [g.g.mg]; exact hD)⟩
  have hln : X.env.kindOf ne = some .local := by
    show X.env.scope.names.lookup ne = _
    rw [g.scope]
    exact hl
  refine (ps_try_as (i := i) (tb := fun W' => tSt b W' (exs Φ T.gv wf bd)) (ts := fun a cls d => tHS T b i a cls d h) (Wout := W) stk frm (by rw [g.g.ns]; exact g.g.nd) (nm_of g.g hn) hln hnames tk hbd
    (fun a oe cls d pn hz hf => pss_hs (a := a) (pn := pn) ok g hb hz hf h hs)).wk fun D σ H ⟨env, G, env', fl, q, S, k⟩ => ?_
  obtain ⟨⟨env1, fl1⟩, h1, q⟩ := Option.bind_eq_some_iff.mp q
  refine ⟨env, G, env1, fl1, h1, S, ?_⟩
  cases fl1 with
  | nx => cases q; exact k
  | bk => cases q; exact k
  | ct => cases q; exact k
  | rt o d => cases q; exact k
  | ex kk f d =>
    intro σ' H' G' cls dd g' S' a'
    have q : (if (xs.contains (kk, f) && unset env1 i) = true then (if c = kk ∨ c = 0 then (PD.hs kk f d h env1).map fun e1 => (e1, Flow.nx) else some (env1, .ex kk f d)) else none) = some (env', fl) := q
    split at q
    · rename_i hc
      rw [Bool.and_eq_true] at hc
      have hm : (kk, f) ∈ T.xcl := hxs _ (by simpa using hc.1)
      obtain ⟨nm, fn, C, fI, fd, A, e4⟩ := XD _ hm
      obtain ⟨rfl, d1, v, rfl, hG, rv⟩ := a'.cls_of hb A
      refine ⟨(c == kk || c == 0), by rw [g.g.K]; exact e4, fun ht a ha => ?_, fun hf => ?_⟩
      · rw [if_pos (by simpa using ht)] at q
        obtain ⟨e1, h2, h3⟩ := Option.map_eq_some_iff.mp q
        cases h3
        have hlt : i < σ'.length := by
          rw [← S'.len]
          have hu := hc.2
          unfold unset at hu
          split at hu
          · rename_i hi
            exact (List.getElem?_eq_some_iff.mp hi).1
          · cases hu
        refine ⟨G', env1, kk, f, d, _, ⟨List.getElem?_set_self hlt, hc.2, a', hm, S'.slotted hc.2 _⟩, h2, fun σ2 H2 G2 g2 u2 _ S2 => ?_⟩
        exact k (σ2.set i none) H2 G2 (g'.trans g2) (S2.slotted u2 _)
      · rw [if_neg (by simpa using hf)] at q
        cases q
        exact k σ' H' G' (.ref C) (some d1) g' S' a'
    · cases q
end
end PD
/-! Which syntax a statement of data matches. -/
namespace PD
open PySem L2
/-- is a pair of stores turned: as the model asks it -/
def parB (sc : Scope) (y z : Str) (py pz : Pos) (e1 e2 : Expr) : Bool :=
  !(match e1 with | .Starred .. => true | _ => false) && !(match e2 with | .Starred .. => true | _ => false) && (match sc.names.lookup y with | some .local => true | _ => false) && (match sc.names.lookup z with | some .local => true | _ => false) &&
    py.line == pz.line && !(y == z) && !([e1, e2].all (foldedForSure 8)) && !([e1, e2].all (constantsAlone 8))
section
variable (T : Tb) (N : List Str) (sc : Scope)
/-- what is stored, and how -/
def asgB (i : Nat) (a : IE) (y : Str) (py : Pos) (e : Expr) : Bool := nmB N i y && locB sc y && (ck T N a sc).e e && (match a with
  | .comp .. => swapB sc y py e
  | _ => !compE e)
/-- the targets are no plain locals, or more than three: stored from the left -/
def leftB (es : List Expr) : Expr → Bool
  | .Tuple vs _ _ => !(es.length == 2 || es.length == 3) || vs.length != es.length
  | _ => true
/-- some target is no plain local: stored from the left -/
def notLoc (sc : Scope) (es : List Expr) : Bool := es.any fun
  | .Name y _ => (match sc.names.lookup y with | some .local => false | _ => true)
  | _ => true
def isStar : Expr → Bool
  | .Starred .. => true
  | _ => false
def parB3 (sc : Scope) (y z u : Str) (py pz pu : Pos) (e1 e2 e3 : Expr) : Bool :=
  !isStar e1 && !isStar e2 && !isStar e3 &&
    (match sc.names.lookup y with | some .local => true | _ => false) && (match sc.names.lookup z with | some .local => true | _ => false) && (match sc.names.lookup u with | some .local => true | _ => false) &&
    py.line == pz.line && py.line == pu.line && !(y == z) && !(y == u) && !(z == u) && !([e1, e2, e3].all (foldedForSure 8)) && !([e1, e2, e3].all (constantsAlone 8))
mutual
def ckS : IS → Stmt → Bool
  | .asgX i x => fun s => match s with | .Assign [.Name y py] e _ => nmB N i y && locB sc y && ckX T N sc x e | _ => false
  | .retX x => fun s => match s with | .Return (some e) _ => ckX T N sc x e | _ => false
  | .exprX x => fun s => match s with | .Expr e _ => ckX T N sc x e | _ => false
  | .raise k f a => fun s => match s with | .Raise (some (.Call (.Name y _) [e] [] _)) none _ => T.xcl.contains (k, f) && decide (T.W[k]? = some y) && glB sc y && plainN y && (ck T N a sc).e e | _ => false
  | .tryA bd c i xs h => fun s => match s with
      | .Try body [.ExceptHandler (some (.Name y _)) (some ne) (b0 :: suite) _] [] [] _ => xs.all (fun p => T.xcl.contains p) && !xs.isEmpty && T.xcs.contains c && decide (T.W[c]? = some y) && glB sc y && plainN y && nmB N i ne &&
          (match sc.names.lookup ne with | some .local => true | _ => false) && ckHS T N sc i h (b0 :: suite) && ckSs bd body
      | _ => false
  | .asgQ i j l a c d => fun s => match s with | .Assign [.Tuple [.Name y py, .Name z pz, .Name u pu] _ _] (.Tuple [e1, e2, e3] _ _) _ => nmB N i y && nmB N j z && nmB N l u && !(i == j) && !(i == l) && !(j == l) && parB3 sc y z u py pz pu e1 e2 e3 && (ck T N a sc).e e1 && (ck T N c sc).e e2 && (ck T N d sc).e e3 | _ => false
  | .asg i a => fun s => match s with | .Assign [.Name y py] e _ => asgB T N sc i a y py e | _ => false
  | .asgT is a => fun s => match s with | .Assign [.Tuple es _ _] e _ => nmsB N sc is es && (leftB es e || notLoc sc es) && (ck T N a sc).e e | _ => false
  | .asgP i j a c => fun s => match s with | .Assign [.Tuple [.Name y py, .Name z pz] _ _] (.Tuple [e1, e2] _ _) _ => nmB N i y && nmB N j z && !(i == j) && parB sc y z py pz e1 e2 && (ck T N a sc).e e1 && (ck T N c sc).e e2 | _ => false
  | .setI i k a => fun s => match s with | .Assign [.Subscript (.Name y p) e2 _] e _ => varB N sc i (.Name y p) && !compE e && (ck T N a sc).e e && (ck T N k sc).e e2 && notOdd e2 | _ => false
  | .dputP i k1 k2 a => fun s => match s with | .Assign [.Tuple [.Subscript (.Name y py) (.Constant c1 j1 q1) p2, .Subscript (.Name z pz) (.Constant c3 j3 q3) p3] k0 pt] e _ => varB N sc i (.Name y py) && varB N sc i (.Name z pz) && !compE e && notLoc sc [.Subscript (.Name y py) (.Constant c1 j1 q1) p2, .Subscript (.Name z pz) (.Constant c3 j3 q3) p3] && (ck T N a sc).e e && (ck T N k1 sc).e (.Constant c1 j1 q1) && (ck T N k2 sc).e (.Constant c3 j3 q3) | _ => false
  | .dput i k a => fun s => match s with | .Assign [.Subscript (.Name y p) e2 _] e _ => varB N sc i (.Name y p) && !compE e && (ck T N a sc).e e && (ck T N k sc).e e2 | _ => false
  | .expr a => fun s => match s with | .Expr e _ => !compE e && (ck T N a sc).e e | _ => false
  | .ret a => fun s => match s with | .Return (some e) _ => (ck T N a sc).e e | _ => false
  | .retV i => fun s => match s with | .Return (some (.Name y p)) _ => varB N sc i (.Name y p) | _ => false
  | .retN => fun s => match s with | .Return none _ => true | _ => false
  | .pass => fun s => match s with | .Pass _ => true | .Expr (.Constant (.str _) _ _) _ => true | _ => false
  | .never => fun _ => true
  | .brk => fun s => match s with | .Break _ => true | _ => false
  | .cont => fun s => match s with | .Continue _ => true | _ => false
  | .ite c t f => fun s => match s with | .If e p q _ => (ck T N c sc).e e && ckSs t p && ckSs f q | _ => false
  | .for_ t it b => fun s => match s with | .For tg iter body [] _ => tgB N sc t tg && ckI T N it sc iter && noSet iter && ckSs b body | _ => false
  | .whl c b => fun s => match s with | .While e body [] _ => (ck T N c sc).e e && ckSs b body | _ => false
def ckSs : ISs → List Stmt → Bool
  | .nil => fun l => match l with | [] => true | _ => false
  | .cons s r => fun l => match l with | x :: xs => ckS s x && ckSs r xs | _ => false
end
end
section
variable {T : Tx} {X : Cx} {N : List Str} {sc : Scope} {n : Nat} {b : Bs} {Φ : Phi} {wf : Nat} {W : WX}
theorem nbool {b : Bool} (h : (!b) = true) : b = false := by
  cases b
  · rfl
  · cases h
theorem par_sw {y z : Str} {py pz pt pt2 : Pos} {k1 k2 : Nat} {e1 e2 : Expr} (g : Gs T X N sc n) (h : parB sc y z py pz e1 e2 = true) : sc.names.lookup y = some .local ∧ sc.names.lookup z = some .local ∧
    swappedStores [.Tuple [.Name y py, .Name z pz] k1 pt] (.Tuple [e1, e2] k2 pt2) X.env = pure (some [y, z]) := by
  unfold parB at h
  simp only [Bool.and_eq_true] at h
  obtain ⟨⟨⟨⟨⟨⟨⟨s1, s2⟩, hy⟩, hz⟩, hl⟩, hne⟩, hf⟩, hc⟩ := h
  have ly : sc.names.lookup y = some .local := by
    split at hy
    · assumption
    · cases hy
  have lz : sc.names.lookup z = some .local := by
    split at hz
    · assumption
    · cases hz
  refine ⟨ly, lz, ?_⟩
  have ky : X.env.kindOf y = some .local := by
    show X.env.scope.names.lookup y = _
    rw [g.scope]; exact ly
  have kz : X.env.kindOf z = some .local := by
    show X.env.scope.names.lookup z = _
    rw [g.scope]; exact lz
  have hne' : (z == y) = false := by
    have : (y == z) = false := by simpa using hne
    rw [beq_eq_false_iff_ne] at this ⊢
    exact fun e => this e.symm
  have st : ([e1, e2].any fun | .Starred .. => true | _ => false) = false := by
    have a1 : (match e1 with | .Starred .. => true | _ => false) = false := by simpa using s1
    have a2 : (match e2 with | .Starred .. => true | _ => false) = false := by simpa using s2
    rw [List.any_cons, List.any_cons, List.any_nil, Bool.or_false]
    cases e1 <;> cases e2 <;> first | rfl | (cases a1; done) | (cases a2; done)
  have hln : (pz.line == py.line) = true := by
    have := eq_of_beq hl
    rw [this]; exact beq_self_eq_true _
  have hf' : [e1, e2].all (foldedForSure 8) = false := nbool hf
  have hc' : [e1, e2].all (constantsAlone 8) = false := nbool hc
  unfold swappedStores
  simp only [pure_bind, g.block]
  have d1 : ¬ ((!(([Expr.Name y py, Expr.Name z pz]).length == 2 || ([Expr.Name y py, Expr.Name z pz]).length == 3) || ([e1, e2]).length != ([Expr.Name y py, Expr.Name z pz]).length || ScopeKind.function != ScopeKind.function) = true) := (show ¬ ((!((2 : Nat) == 2 || (2 : Nat) == 3) || (2 : Nat) != 2 || ScopeKind.function != ScopeKind.function) = true) by decide)
  rw [if_neg d1, if_neg (by rw [Bool.not_eq_true]; exact st)]
  simp only [List.length_cons, List.length_nil, hf', hc', List.head?_cons, Option.map_some, Option.getD_some, Expr.pos, List.filterMap_cons, List.filterMap_nil, ky, kz, hln, beq_self_eq_true, Bool.and_self, if_true, List.eraseDups_cons, List.filter_cons, List.filter_nil, hne', Bool.not_false, List.eraseDups_nil]
  rfl
theorem par_sw3 {y z u : Str} {py pz pu pt pt2 : Pos} {k1 k2 : Nat} {e1 e2 e3 : Expr} (g : Gs T X N sc n) (h : parB3 sc y z u py pz pu e1 e2 e3 = true) : sc.names.lookup y = some .local ∧ sc.names.lookup z = some .local ∧ sc.names.lookup u = some .local ∧
    swappedStores [.Tuple [.Name y py, .Name z pz, .Name u pu] k1 pt] (.Tuple [e1, e2, e3] k2 pt2) X.env = pure (some [y, z, u]) := by
  unfold parB3 at h
  simp only [Bool.and_eq_true] at h
  obtain ⟨⟨⟨⟨⟨⟨⟨⟨⟨⟨⟨⟨s1, s2⟩, s3⟩, hy⟩, hz⟩, hu⟩, hl⟩, hl2⟩, n1⟩, n2⟩, n3⟩, hf⟩, hc⟩ := h
  have loc : ∀ {y : Str}, (match sc.names.lookup y with | some .local => true | _ => false) = true → sc.names.lookup y = some .local := by
    intro y h
    split at h
    · assumption
    · cases h
  have ly := loc hy
  have lz := loc hz
  have lu := loc hu
  refine ⟨ly, lz, lu, ?_⟩
  have kk : ∀ {y : Str}, sc.names.lookup y = some .local → X.env.kindOf y = some .local := by
    intro y h
    show X.env.scope.names.lookup y = _
    rw [g.scope]; exact h
  have swap : ∀ {y z : Str}, (!(y == z)) = true → (z == y) = false := by
    intro y z h
    have : (y == z) = false := by simpa using h
    rw [beq_eq_false_iff_ne] at this ⊢
    exact fun e => this e.symm
  have m1 := swap n1
  have m2 := swap n2
  have m3 := swap n3
  have st : ([e1, e2, e3].any fun | .Starred .. => true | _ => false) = false := by
    have a1 : isStar e1 = false := nbool s1
    have a2 : isStar e2 = false := nbool s2
    have a3 : isStar e3 = false := nbool s3
    have ef : ([e1, e2, e3].any fun | .Starred .. => true | _ => false) = [e1, e2, e3].any isStar := by
      congr 1
    rw [ef, List.any_cons, List.any_cons, List.any_cons, List.any_nil, a1, a2, a3]
    rfl
  have hln : (pz.line == py.line) = true := by
    have := eq_of_beq hl
    rw [this]; exact beq_self_eq_true _
  have hln2 : (pu.line == py.line) = true := by
    have := eq_of_beq hl2
    rw [this]; exact beq_self_eq_true _
  have hf' : [e1, e2, e3].all (foldedForSure 8) = false := nbool hf
  have hc' : [e1, e2, e3].all (constantsAlone 8) = false := nbool hc
  unfold swappedStores
  simp only [pure_bind, g.block]
  have d1 : ¬ ((!(([Expr.Name y py, Expr.Name z pz, Expr.Name u pu]).length == 2 || ([Expr.Name y py, Expr.Name z pz, Expr.Name u pu]).length == 3) || ([e1, e2, e3]).length != ([Expr.Name y py, Expr.Name z pz, Expr.Name u pu]).length || ScopeKind.function != ScopeKind.function) = true) := (show ¬ ((!((3 : Nat) == 2 || (3 : Nat) == 3) || (3 : Nat) != 3 || ScopeKind.function != ScopeKind.function) = true) by decide)
  rw [if_neg d1, if_neg (by rw [Bool.not_eq_true]; exact st)]
  simp only [List.length_cons, List.length_nil, hf', hc', List.head?_cons, Option.map_some, Option.getD_some, Expr.pos, List.filterMap_cons, List.filterMap_nil, kk ly, kk lz, kk lu, hln, hln2, beq_self_eq_true, Bool.and_self, if_true, List.eraseDups_cons, List.filter_cons, List.filter_nil, m1, m2, m3, Bool.not_false, List.eraseDups_nil]
  rfl
theorem left_sw {es : List Expr} {k : Nat} {pt : Pos} {e : Expr} {env : PySem.Env} (h : leftB es e = true) : swappedStores [.Tuple es k pt] e env = pure none := by
  unfold leftB at h
  split at h
  · unfold swappedStores
    have h' : (!(es.length == 2 || es.length == 3) || _) = true := h
    rw [Bool.or_eq_true] at h'
    simp only [pure_bind]
    rw [if_pos]
    rw [Bool.or_eq_true, Bool.or_eq_true]
    exact .inl h'
  · unfold swappedStores
    rename_i h2
    split
    · rename_i h3
      split at h3
      · rename_i h4
        cases h4
        exact (h2 _ _ _ rfl).elim
      · rename_i h4
        cases h4
      · cases h3
    · rfl
theorem fm_short {α β : Type} (f : α → Option β) : ∀ (l : List α), (l.filterMap f).length ≤ l.length
  | [] => Nat.le_refl _
  | x :: l => by
    rw [List.filterMap_cons]
    split
    · exact Nat.le_succ_of_le (fm_short f l)
    · exact Nat.succ_le_succ (fm_short f l)
theorem fm_less {α β : Type} (f : α → Option β) : ∀ {l : List α}, (l.any fun x => (f x).isNone) = true → (l.filterMap f).length < l.length
  | x :: l, h => by
    rw [List.any_cons, Bool.or_eq_true] at h
    rw [List.filterMap_cons]
    rcases h with h | h
    · have : f x = none := by
        cases hx : f x with
        | none => rfl
        | some y => rw [hx] at h; cases h
      rw [this]
      exact Nat.lt_succ_of_le (fm_short f l)
    · split
      · exact Nat.lt_succ_of_lt (fm_less f h)
      · exact Nat.succ_lt_succ (fm_less f h)
theorem left_sw2 {es : List Expr} {k : Nat} {pt : Pos} {e : Expr} (g : Gs T X N sc n) (h : notLoc sc es = true) : swappedStores [.Tuple es k pt] e X.env = pure none := by
  unfold swappedStores
  cases e with
  | Tuple vs k2 p2 =>
    simp only [pure_bind]
    split
    · rfl
    · split
      · rfl
      · rw [if_pos]
        rw [Bool.or_eq_true]
        refine .inl ?_
        have short : ∀ ln : Nat, (es.filterMap fun | .Name id pos => if (X.env.kindOf id == some .local && pos.line == ln) = true then some id else none | _ => none).length < es.length := by
          intro ln
          refine fm_less _ ?_
          unfold notLoc at h
          rw [List.any_eq_true] at h ⊢
          obtain ⟨x, hx, hn⟩ := h
          refine ⟨x, hx, ?_⟩
          cases x with
          | Name y p =>
            have kn : (X.env.kindOf y == some .local) = false := by
              show (X.env.scope.names.lookup y == some .local) = false
              rw [g.scope]
              have hn : (match sc.names.lookup y with | some .local => false | _ => true) = true := hn
              split at hn
              · cases hn
              · rename_i z
                exact beq_eq_false_iff_ne.mpr fun e => z e
            dsimp only
            rw [kn]
            rfl
          | _ => rfl
        have := short ((es.head?.map (·.pos.line)).getD 0)
        exact bne_iff_ne.mpr (Nat.ne_of_lt this)
  | _ => rfl
theorem asg_ok (ok : TOk T) (F : Cal T n Φ) (g : Gs T X N sc n) (hb : b.cs = T.cs) {i : Nat} {a : IE} {y : Str} {py pos : Pos} {e : Expr} (h : asgB T.tb N sc i a y py e = true) : PS X (.Assign [.Name y py] e pos) (tSt b W (ex Φ T.gv wf (.asg i a))) := by
  unfold asgB at h
  simp only [Bool.and_eq_true] at h
  obtain ⟨⟨⟨h1, h2⟩, h3⟩, h4⟩ := h
  split at h4
  · rename_i t it cs a
    cases e with
    | ListComp el gens scope p2 =>
      have hh : (match Expr.ListComp el gens scope p2 with
        | .ListComp el [⟨tg, iter, ifs, z⟩] scope _ => decide (z = 0) && tgB N scope t tg && ckI T.tb N it sc iter && decide (ifs.length ≤ 1) && cks T.tb N cs scope ifs &&
          (ck T.tb N a scope).e el && blkC N sc scope (ownOf t tg) && noSet iter
        | _ => false) = true := h3
      split at hh
      · rename_i el' tg iter ifs z scope' p2' heq
        cases heq
        simp only [Bool.and_eq_true] at hh
        obtain ⟨⟨⟨⟨⟨⟨⟨k1, k2⟩, k3⟩, k0⟩, k4⟩, k5⟩, k6⟩, k7⟩ := hh
        have e0 := of_decide_eq_true k1
        subst e0
        refine js_setC (own := ownOf t tg) hb g h1 h4 (sndI ok F it X sc b g.g hb tg iter k3) (blk_ok g.g k6) ?_ ?_ ?_ ?_ (noSet_ok k7 _)
        · cases t with
          | one i =>
            unfold tgB at k2
            split at k2 <;> first | rfl | (rename_i q; cases q; done) | skip
            all_goals first | rfl | cases k2
          | two i j =>
            unfold tgB at k2
            split at k2 <;> first | rfl | (rename_i q; cases q; done) | skip
            all_goals first | rfl | cases k2
        · intro s H C cl fp
          exact tg_of (g.g.blk s H _ C cl fp) k2
        · intro s H C cl fp
          refine PTs.any fun b' hb' => ?_
          have gb := g.g.blk s H scope C cl fp
          have hl := of_decide_eq_true k0
          cases cs with
          | nil =>
            cases ifs with
            | nil => exact jt_nil
            | cons _ _ => cases k4
          | cons c r =>
            cases ifs with
            | nil => cases k4
            | cons y ys =>
              cases ys with
              | cons _ _ => simp at hl
              | nil =>
                cases r with
                | cons _ _ =>
                  have hh : ((ck T.tb N c scope).e y && false) = true := k4
                  simp at hh
                | nil =>
                  have hh : ((ck T.tb N c scope).e y && true) = true := k4
                  rw [Bool.and_true] at hh
                  exact jt_one ((snd ok F c).e _ scope b' gb hb' _ hh)
        · intro s H C cl fp
          exact PE.any fun b' hb' => ((snd ok F a).e _ _ b' (g.g.blk s H _ C cl fp) hb' _ k5).ev
      · cases hh
    | _ => cases h4
  · exact js_set g h1 h2 (by simpa using h4) ((snd ok F a).e X sc b g.g hb _ h3)
mutual
theorem sndS (ok : TOk T) (F : Cal T n Φ) : ∀ (s : IS) (X : Cx) (b : Bs) (W : WX), Takes X W → Gs T X N sc n → b.cs = T.cs → ∀ st, ckS T.tb N sc s st = true → PS X st (tSt b W (ex Φ T.gv wf s))
  | .asgX i x, X, b, W, tk, g, hb, st, h => by
    unfold ckS at h
    split at h
    · simp only [Bool.and_eq_true] at h
      exact js_setX ok F tk g hb h.1.1 h.1.2 h.2
    · cases h
  | .retX x, X, b, W, tk, g, hb, st, h => by
    unfold ckS at h
    split at h
    · exact js_retX ok F tk g hb h
    · cases h
  | .exprX x, X, b, W, tk, g, hb, st, h => by
    unfold ckS at h
    split at h
    · exact js_exprX ok F tk g hb h
    · cases h
  | .raise k f a, X, b, W, tk, g, hb, st, h => by
    unfold ckS at h
    split at h
    · simp only [Bool.and_eq_true] at h
      obtain ⟨⟨⟨⟨h1, h2⟩, h3⟩, h4⟩, h5⟩ := h
      exact js_raise ok F tk g hb (by simpa using h1) (of_decide_eq_true h2) h3 h4 ((snd ok F a).e X sc b g.g hb _ h5)
    · cases h
  | .tryA bd c i xs hh, X, b, W, tk, g, hb, st, h => by
    unfold ckS at h
    split at h
    · simp only [Bool.and_eq_true] at h
      obtain ⟨⟨⟨⟨⟨⟨⟨⟨⟨h1, h2⟩, h3⟩, h4⟩, h5⟩, h6⟩, h7⟩, h8⟩, h9⟩, h10⟩ := h
      refine js_try ok tk g g.stk g.frm hb (fun p hp => by have := List.all_eq_true.mp h1 p hp; simpa using this) (fun z => by rw [z] at h2; cases h2) (by simpa using h3) (of_decide_eq_true h4) h5 h6 h7 ?_ h9 fun W' pn xe tk' po => ?_
      · split at h8
        · assumption
        · cases h8
      · have g' : Gs T (X.tr pn xe) N sc n := ⟨⟨g.g.prog, g.g.wld, g.g.K, g.g.mg, g.g.base, g.g.ns, g.g.scp, g.g.nd, g.g.calm, g.g.guards, g.g.room, g.g.fnok⟩, g.scope, g.kind, po, g.stk, g.frm⟩
        exact sndSs ok F bd (X.tr pn xe) b W' tk' g' hb _ h10
    · cases h
  | .asgQ i j l a c d, X, b, W, tk, g, hb, st, h => by
    unfold ckS at h
    split at h
    · simp only [Bool.and_eq_true] at h
      obtain ⟨⟨⟨⟨⟨⟨⟨⟨⟨h1, h2⟩, h3⟩, h4⟩, h5⟩, h6⟩, h7⟩, h8⟩, h9⟩, h10⟩ := h
      obtain ⟨ly, lz, lu, hw⟩ := par_sw3 g h7
      exact js_par3 g h1 h2 h3 (by simpa using h4) (by simpa using h5) (by simpa using h6) ly lz lu hw ((snd ok F a).e X sc b g.g hb _ h8) ((snd ok F c).e X sc b g.g hb _ h9) ((snd ok F d).e X sc b g.g hb _ h10)
    · cases h
  | .asg i a, X, b, W, tk, g, hb, st, h => by
    unfold ckS at h
    split at h
    · exact asg_ok ok F g hb h
    · cases h
  | .asgT is a, X, b, W, tk, g, hb, st, h => by
    unfold ckS at h
    split at h
    · simp only [Bool.and_eq_true] at h
      obtain ⟨⟨h1, h3⟩, h4⟩ := h
      exact js_setT g hb h1 ((Bool.or_eq_true _ _ ▸ h3).elim (fun h => left_sw h) fun h => left_sw2 g h) ((snd ok F a).e X sc b g.g hb _ h4)
    · cases h
  | .asgP i j a c, X, b, W, tk, g, hb, st, h => by
    unfold ckS at h
    split at h
    · simp only [Bool.and_eq_true] at h
      obtain ⟨⟨⟨⟨⟨h1, h2⟩, h3⟩, h4⟩, h5⟩, h6⟩ := h
      obtain ⟨ly, lz, hw⟩ := par_sw g h4
      exact js_par g h1 h2 (by simpa using h3) ly lz hw ((snd ok F a).e X sc b g.g hb _ h5) ((snd ok F c).e X sc b g.g hb _ h6)
    · cases h
  | .setI i k a, X, b, W, tk, g, hb, st, h => by
    unfold ckS at h
    split at h
    · simp only [Bool.and_eq_true] at h
      obtain ⟨⟨⟨⟨h1, h2⟩, h3⟩, h4⟩, h5⟩ := h
      exact js_setI g hb h1 (by simpa using h2) ((snd ok F a).e X sc b g.g hb _ h3) ((snd ok F k).e X sc b g.g hb _ h4) h5
    · cases h
  | .dputP i k1 k2 a, X, b, W, tk, g, hb, st, h => by
    unfold ckS at h
    split at h
    · simp only [Bool.and_eq_true] at h
      obtain ⟨⟨⟨⟨⟨⟨h1, h2⟩, h3⟩, h4⟩, h5⟩, h6⟩, h7⟩ := h
      exact js_dputP ok g hb h1 h2 (by simpa using h3) (left_sw2 g h4) ((snd ok F a).e X sc b g.g hb _ h5) ((snd ok F k1).e X sc b g.g hb _ h6) ((snd ok F k2).e X sc b g.g hb _ h7)
    · cases h
  | .dput i k a, X, b, W, tk, g, hb, st, h => by
    unfold ckS at h
    split at h
    · simp only [Bool.and_eq_true] at h
      obtain ⟨⟨⟨h1, h2⟩, h3⟩, h4⟩ := h
      exact js_dput ok g hb h1 (by simpa using h2) ((snd ok F a).e X sc b g.g hb _ h3) ((snd ok F k).e X sc b g.g hb _ h4)
    · cases h
  | .expr a, X, b, W, tk, g, hb, st, h => by
    unfold ckS at h
    split at h
    · simp only [Bool.and_eq_true] at h
      exact js_expr (by simpa using h.1) ((snd ok F a).e X sc b g.g hb _ h.2)
    · cases h
  | .ret a, X, b, W, tk, g, hb, st, h => by
    unfold ckS at h
    split at h
    · exact js_ret ((snd ok F a).e X sc b g.g hb _ h)
    · cases h
  | .retV i, X, b, W, tk, g, hb, st, h => by
    unfold ckS at h
    split at h
    · exact js_retV g h
    · cases h
  | .retN, X, b, W, tk, g, hb, st, h => by
    unfold ckS at h
    split at h
    · exact js_retN
    · cases h
  | .pass, X, b, W, tk, g, hb, st, h => by
    unfold ckS at h
    split at h
    · exact js_pass
    · exact js_doc
    · cases h
  | .never, X, b, W, tk, g, hb, st, h => js_never
  | .brk, X, b, W, tk, g, hb, st, h => by
    unfold ckS at h
    split at h
    · exact js_brk
    · cases h
  | .cont, X, b, W, tk, g, hb, st, h => by
    unfold ckS at h
    split at h
    · exact js_cont
    · cases h
  | .ite c t f, X, b, W, tk, g, hb, st, h => by
    unfold ckS at h
    split at h
    · simp only [Bool.and_eq_true] at h
      exact js_ite ((snd ok F c).e X sc b g.g hb _ h.1.1) (sndSs ok F t X b W tk g hb _ h.1.2) (sndSs ok F f X b W tk g hb _ h.2)
    · cases h
  | .for_ t it bd, X, b, W, tk, g, hb, st, h => by
    unfold ckS at h
    split at h
    · simp only [Bool.and_eq_true] at h
      exact js_for g hb h.1.1.1 (sndI ok F it X sc b g.g hb _ _ h.1.1.2) h.1.2 (sndSs ok F bd X b W tk g hb _ h.2)
    · cases h
  | .whl c bd, X, b, W, tk, g, hb, st, h => by
    unfold ckS at h
    split at h
    · simp only [Bool.and_eq_true] at h
      exact js_whl g ((snd ok F c).e X sc b g.g hb _ h.1) (sndSs ok F bd X b W tk g hb _ h.2)
    · cases h
theorem sndSs (ok : TOk T) (F : Cal T n Φ) : ∀ (s : ISs) (X : Cx) (b : Bs) (W : WX), Takes X W → Gs T X N sc n → b.cs = T.cs → ∀ st, ckSs T.tb N sc s st = true → PSs X st (tSt b W (exs Φ T.gv wf s))
  | .nil, X, b, W, tk, g, hb, st, h => by
    cases st with
    | nil => exact jss_nil
    | cons _ _ => cases h
  | .cons s r, X, b, W, tk, g, hb, st, h => by
    cases st with
    | nil => cases h
    | cons y ys =>
      have hh : (ckS T.tb N sc s y && ckSs T.tb N sc r ys) = true := h
      simp only [Bool.and_eq_true] at hh
      exact jss_cons (sndS ok F s X b W tk g hb y hh.1) (sndSs ok F r X b W tk g hb ys hh.2)
end
end
end PD
/-! A def keeps its promise; all of them. -/
namespace PD
open PySem L2
/-- the lent arguments -/
def lentsOf (as : List (Bool × D)) (vs : List V) : List (Nat × Addr) := (List.range as.length).filterMap fun i => match as[i]?, vs[i]? with
  | some (true, _), some (V.ref a) => some (i, a)
  | _, _ => none
theorem mem_lents {as : List (Bool × D)} {vs : List V} {i : Nat} {a : Addr} : (i, a) ∈ lentsOf as vs ↔ ∃ d, as[i]? = some (true, d) ∧ vs[i]? = some (V.ref a) := by
  unfold lentsOf
  rw [List.mem_filterMap]
  constructor
  · rintro ⟨j, _, h⟩
    split at h
    · rename_i d b h1 h2
      cases h
      exact ⟨d, h1, h2⟩
    · cases h
  · rintro ⟨d, h1, h2⟩
    refine ⟨i, List.mem_range.mpr (List.getElem?_eq_some_iff.mp h1).1, ?_⟩
    rw [h1, h2]
theorem start_at {as : List (Bool × D)} {fn : Fn} {i : Nat} {f : Fl} {d : D} (h : (startEnv fn as)[i]? = some (some (f, d))) : ∃ b, as[i]? = some (b, d) ∧ f = if b then .lent else .fro := by
  unfold startEnv at h
  by_cases hi : i < as.length
  · rw [List.getElem?_append_left (by simpa using hi), List.getElem?_map] at h
    obtain ⟨p, h1, h2⟩ := Option.map_eq_some_iff.mp h
    cases h2
    exact ⟨p.1, h1, rfl⟩
  · rw [List.getElem?_append_right (by simpa using hi), List.getElem?_replicate] at h
    split at h <;> cases h
theorem post_at {env : Env} : ∀ {as ps : List (Bool × D)} {k : Nat}, postOf env as k = some ps → ps.length = as.length ∧ ∀ (i : Nat) (d : D) (b : Bool) (d' : D), as[i]? = some (true, d) → ps[i]? = some (b, d') → env[k + i]? = some (some (if b then Fl.lent else Fl.lfro, d'))
  | [], ps, k, h => by
    cases h
    exact ⟨rfl, fun i d b d' h => by simp at h⟩
  | (false, x) :: r, ps, k, h => by
    obtain ⟨qs, h1, h2⟩ := Option.map_eq_some_iff.mp h
    subst h2
    obtain ⟨l, ih⟩ := post_at h1
    refine ⟨congrArg (· + 1) l, fun i d b d' ha hp => ?_⟩
    cases i with
    | zero => simp at ha
    | succ i =>
      have := ih i d b d' (by simpa using ha) (by simpa using hp)
      rw [show k + (i + 1) = k + 1 + i by omega]
      exact this
  | (true, x) :: r, ps, k, h => by
    have h : (match getC env k with
      | some (.lent, d) => (postOf env r (k + 1)).map ((true, d) :: ·)
      | some (.lfro, d) => (postOf env r (k + 1)).map ((false, d) :: ·)
      | _ => none) = some ps := h
    have step : ∀ (b0 : Bool) (d0 : D), getC env k = some (if b0 then Fl.lent else Fl.lfro, d0) → (postOf env r (k + 1)).map ((b0, d0) :: ·) = some ps → ps.length = ((true, x) :: r).length ∧ ∀ (i : Nat) (d : D) (b : Bool) (d' : D), ((true, x) :: r)[i]? = some (true, d) → ps[i]? = some (b, d') → env[k + i]? = some (some (if b then Fl.lent else Fl.lfro, d')) := by
      intro b0 d0 hg hm
      obtain ⟨qs, h1, h2⟩ := Option.map_eq_some_iff.mp hm
      subst h2
      obtain ⟨l, ih⟩ := post_at h1
      refine ⟨congrArg (· + 1) l, fun i d b d' ha hp => ?_⟩
      cases i with
      | zero =>
        simp only [List.getElem?_cons_zero, Option.some.injEq, Prod.mk.injEq] at hp
        obtain ⟨rfl, rfl⟩ := hp
        exact getC_some hg
      | succ i =>
        have := ih i d b d' (by simpa using ha) (by simpa using hp)
        rw [show k + (i + 1) = k + 1 + i by omega]
        exact this
    split at h
    · rename_i d0 hg
      exact step true d0 hg h
    · rename_i d0 hg
      exact step false d0 hg h
    · cases h
section
variable {T : Tx} {n : Nat} {Φ : Phi} {wf : Nat}
theorem sat_start {H G : Hp} {as : List (Bool × D)} {vs : List V} {fn : Fn} {N : List Str} (A : ArgsOk T.cs H G as vs) (hN : N.length = fn.ns) (hl : as.length = fn.np) (hp : fn.np ≤ fn.ns) :
    Sat ⟨T.cs, H, G, lentsOf as vs⟩ (L2.start N vs) H G (startEnv fn as) := by
  refine ⟨?_, A.ex, Same.refl G, fun p o e _ => e, fun p o e => .inl e, fun q hq => ?_, fun i f d h => ?_, fun i j f g d e a hi hj hf hg h1 h2 => ?_⟩
  · unfold startEnv L2.start
    rw [List.length_append, List.length_append, List.length_map, List.length_map, List.length_replicate, List.length_replicate, hN, A.len]
  · obtain ⟨i, a⟩ := q
    obtain ⟨d, h1, h2⟩ := mem_lents.mp hq
    obtain ⟨a', e', _, ow⟩ := A.lent i d h1
    rw [h2] at e'
    cases e'
    exact ow.some
  · obtain ⟨b, h1, rfl⟩ := start_at h
    have hi : i < vs.length := by rw [A.len]; exact (List.getElem?_eq_some_iff.mp h1).1
    have at' : ∀ v, vs[i]? = some v → (L2.start N vs)[i]? = some (some v) := fun v hv => by
      unfold L2.start
      rw [List.getElem?_append_left (by simpa using hi), List.getElem?_map, hv]
      rfl
    cases b with
    | false =>
      obtain ⟨v, hv, r⟩ := A.fro i d h1
      exact ⟨v, at' v hv, r⟩
    | true =>
      obtain ⟨a, hv, ga, ow⟩ := A.lent i d h1
      exact ⟨_, at' _ hv, a, rfl, ga, mem_lents.mpr ⟨d, h1, hv⟩, ow⟩
  · obtain ⟨b, q1, rfl⟩ := start_at hi
    obtain ⟨c, q2, rfl⟩ := start_at hj
    have e1 : b = true := by cases b <;> first | rfl | cases hf
    have e2 : c = true := by cases c <;> first | rfl | cases hg
    subst e1 e2
    have gt : ∀ (k : Nat) (z : D), as[k]? = some (true, z) → (L2.start N vs)[k]? = some (some (V.ref a)) → vs[k]? = some (V.ref a) := fun k z hz hs => by
      have hk : k < vs.length := by rw [A.len]; exact (List.getElem?_eq_some_iff.mp hz).1
      unfold L2.start at hs
      rw [List.getElem?_append_left (by simpa using hk), List.getElem?_map] at hs
      obtain ⟨v, h3, h4⟩ := Option.map_eq_some_iff.mp hs
      cases h4
      exact h3
    exact A.apart i j d e a q1 q2 (gt i d q1 h1) (gt j e q2 h2)
theorem post_ok {H G : Hp} {as : List (Bool × D)} {vs : List V} {σ' : L2.St} {H' G' : Hp} {env' : Env} {v : V} {r : Bool × D} {ps : List (Bool × D)} (A : ArgsOk T.cs H G as vs) (hp : postOf env' as 0 = some ps) (g : Same G G')
    (S : Sat ⟨T.cs, H, G, lentsOf as vs⟩ σ' H' G' env') (q : ResAt ⟨T.cs, H, G, lentsOf as vs⟩ σ' H' G' env' v r.2 r.1) : PostOk T.cs H G as vs (r, ps) v H' G' := by
  obtain ⟨hl, hat⟩ := post_at hp
  refine ⟨g, S.ex, fun p o e hn => S.keep p o e fun q hq eq => ?_, fun p o e => ?_, fun p hn => ?_, fun e => ?_, fun e => ?_, hl, fun i d d' a ha hr hv => ?_, fun i d d' a ha hr hv => ?_⟩
  · obtain ⟨i, a⟩ := q
    obtain ⟨d, h1, h2⟩ := mem_lents.mp hq
    subst eq
    exact hn ⟨i, d, h1, h2⟩
  · rcases S.new p o e with h | h | ⟨⟨i, a⟩, hq, eq⟩
    · exact .inl h
    · exact .inr (.inl h)
    · obtain ⟨d, h1, h2⟩ := mem_lents.mp hq
      subst eq
      exact .inr (.inr ⟨i, d, h1, h2⟩)
  · obtain ⟨i, d, h1, h2⟩ := hn
    exact S.lents (i, p) (mem_lents.mpr ⟨d, h1, h2⟩)
  · obtain ⟨o, d⟩ := r
    cases e
    exact q
  · obtain ⟨o, d⟩ := r
    cases e
    obtain ⟨a, ea, ga, ha, ow, _⟩ := q
    exact ⟨a, ea, ga, ha, ow⟩
  · have he := hat i d false d' ha hr
    rw [Nat.zero_add] at he
    obtain ⟨u, hu, rp, a', ea, hm⟩ := S.slot i _ _ he
    obtain ⟨z, h1, h2⟩ := mem_lents.mp hm
    rw [hv] at h2
    cases h2
    rw [ea] at rp
    exact rp
  · have he := hat i d true d' ha hr
    rw [Nat.zero_add] at he
    obtain ⟨u, hu, a', ea, ga, hm, ow⟩ := S.slot i _ _ he
    obtain ⟨z, h1, h2⟩ := mem_lents.mp hm
    rw [hv] at h2
    cases h2
    exact ⟨ga, ow⟩
/-- what one def of the text must show -/
structure DefIs (T : Tx) (y : Str) (fn : Fn) : Prop where
  ex : ∃ (x qual : Str) (st : Stmt) (f : Addr) (fd : FuncData) (N ps : List Str), L2.Fun T.K x qual st f fd ∧ T.mg y = some (.ref f) ∧ Binds T.K fd ps [] ∧ FnScope N ps (defScope st) ∧
    ps.length = fn.np ∧ N.length = fn.ns ∧ ckSs T.tb N (defScope st) fn.body (defBody st) = true
theorem runG_of {qual x : Str} {st : Stmt} {f : Addr} {fd : FuncData} {N ps : List Str} {fn : Fn} (ok : TOk T) (F : Cal T n Φ) (U : L2.Fun T.K x qual st f fd) (bd : Binds T.K fd ps []) (S : FnScope N ps (defScope st))
    (hp : ps.length = fn.np) (hN : N.length = fn.ns) (hc : ckSs T.tb N (defScope st) fn.body (defBody st) = true) : RunG T (n + 1) f fd ps (SpD T.cs (runF Φ T.gv wf fn)) := by
  have hpl : fn.np ≤ fn.ns := by
    have := congrArg List.length S.pre
    rw [List.length_take] at this
    omega
  have lenq : ∀ as r, runF Φ T.gv wf fn as = some r → as.length = fn.np := by
    intro as r h
    unfold runF at h
    split at h
    · assumption
    · cases h
  have len : ∀ vs H Q E, SpD T.cs (runF Φ T.gv wf fn) vs H Q E → vs.length = ps.length := by
    rintro vs H Q E ⟨G, as, r, h, A, _⟩
    rw [A.len, lenq as r h, hp]
  refine ⟨len, fun A outer s H args us vs Q E hr hgd e0 hb rv hsp => ?_⟩
  obtain ⟨oc, od, kV, doc, pm, an, cdv, ct, osl, rfl, lk, hcd⟩ := U.ex
  have hvl := len _ _ _ _ hsp
  obtain ⟨G, as, r, hrun, Ar, k, kx⟩ := hsp
  have kin : T.K.In s.heap := e0.mod.kin.keeps fun b o e => (e0.bs b o e).1
  have nolim : s.heap.NoLimit := e0.mod.nolimit.keeps fun b o e => (e0.bs b o e).1
  have kinds : ∀ y ∈ ps.zip us, (defScope st).names.lookup y.1 = some .local ∨ ((defScope st).names.lookup y.1 = some .cell ∧ ((cellsFrom (s.heap.objs.size + 1) (defScope st).names []).lookup y.1).isSome = true) := by
    rintro ⟨m, z⟩ hy
    rcases S.par m (List.of_mem_zip hy).1 with q | q
    · exact .inl q
    · exact .inr ⟨q, PySem.W.cellsFrom_some _ _ _ (.inl q)⟩
  refine codeAny_call_function (Room.depth hr) (kin _ _ lk) rfl S.co S.gen rfl (PySem.W.codeRec_of kin hcd) (hb _ _ _ _ ?_)
  refine wpAny_newFunctionEnv_cells S.kind kinds fun env he s1 x => ?_
  subst he
  refine ⟨nolim.keeps x.toInCall.keep, codeAny_func ?_⟩
  have I := inv_start (CX := L2.CX T.P T.w) (E := E) S hr.hd e0 hvl rv x
  have gs : Gs T (cxOf (L2.CX T.P T.w) T.P T.w T.K T.mg T.base N qual (defScope st) f cdv A outer s H E) N (defScope st) n := by
    refine ⟨⟨rfl, rfl, rfl, rfl, rfl, rfl, fun _ => .inl rfl, S.nd, rfl, ?_, ?_, fun _ _ => .inl rfl⟩, rfl, S.kind, passes_of (K := fun e s'' => L2.CX T.P T.w outer H s E e s'') (E₁ := fun e s'' => L2.CX T.P T.w outer H s E e s'') rfl, rfl, rfl⟩
    · exact hgd
    · exact Room.deeper (k := n + 64) (show Room (n + 64 + 1) A from hr.mono (by omega)) _
  have tk : Takes (cxOf (L2.CX T.P T.w) T.P T.w T.K T.mg T.base N qual (defScope st) f cdv A outer s H E) (fun cls d _ H' => E cls d H') := takes_of rfl rfl rfl rfl
  have hal := lenq _ _ hrun
  have S0 := sat_start (fn := fn) (N := N) Ar hN hal hpl
  unfold runF at hrun
  rw [if_pos hal] at hrun
  have body := sndSs (wf := wf) ok F fn.body _ ⟨T.cs, H, G, lentsOf as vs⟩ _ tk gs rfl (defBody st) hc
  have goal : tSt ⟨T.cs, H, G, lentsOf as vs⟩ (fun cls d _ H' => E cls d H') (exs Φ T.gv wf fn.body) { nx := fun _ H' => Q .non H', rt := Q } (L2.start N vs) H := by
    cases he : exs Φ T.gv wf fn.body (startEnv fn as) with
    | none =>
      rw [he] at hrun
      cases hrun
    | some p =>
      obtain ⟨env', fl⟩ := p
      rw [he] at hrun
      refine ⟨startEnv fn as, G, env', fl, he, S0, ?_⟩
      cases fl with
      | nx =>
        obtain ⟨pp, h1, h2⟩ := Option.map_eq_some_iff.mp hrun
        subst h2
        intro σ' H' G' g' S'
        exact k rfl _ H' G' (post_ok (r := (false, .non)) Ar h1 g' S' .non)
      | rt o d =>
        obtain ⟨pp, h1, h2⟩ := Option.map_eq_some_iff.mp hrun
        subst h2
        intro σ' v H' G' g' S' q
        refine k ?_ v H' G' (post_ok (r := (o, d)) Ar h1 g' S' q)
        cases o with
        | false => rfl
        | true =>
          obtain ⟨a, _, _, _, ow, _⟩ := q
          cases d <;> first | rfl | exact ow.elim
      | ex kk ff d =>
        obtain ⟨pp, h1, h2⟩ := Option.map_eq_some_iff.mp hrun
        subst h2
        intro σ' H' G' cls dd g' S' a'
        exact kx kk ff d rfl cls dd H' G' (post_ok (r := (false, .non)) Ar h1 g' S' .non) a'
      | bk => cases hrun
      | ct => cases hrun
  refine wpAny_mono (body.run [] s1 (L2.start N vs) H _ I goal) (fun fl s' hs => ?_) fun e s' hs => hs
  have fin : ∀ {σ' : L2.St} {H' : Hp} {v : V} {u : Value}, Inv (cxOf (L2.CX T.P T.w) T.P T.w T.K T.mg T.base N qual (defScope st) f cdv A outer s H E) [] σ' H' s' → RelV v u → Q v H' → CE outer T.P T.w H s Q u s' := by
    intro σ' H' v u J rr q
    exact ⟨v, H', J.os, J.bare, J.base, J.hok, rr, q⟩
  cases fl with
  | ret u =>
    obtain ⟨v, σ', H', J, rr, q⟩ := hs
    exact fin J rr q
  | next =>
    obtain ⟨σ', H', J, q⟩ := hs
    exact fin (v := V.non) (u := Value.none) J rfl q
  | brk =>
    obtain ⟨_, _, _, q⟩ := hs
    exact False.elim q
  | cont =>
    obtain ⟨_, _, _, q⟩ := hs
    exact False.elim q
/-- all the defs -/
theorem all_defs (ok : TOk T) {fns : Nat → Option Fn} (D : ∀ f y, T.fnm f = some y → ∃ fn, fns f = some fn ∧ DefIs T y fn) : ∀ n, Cal T n (callF fns T.gv wf n)
  | 0, f, y, hy => by
    obtain ⟨fn, _, x, qual, st, a, fd, N, ps, U, m, bd, S, hp, hN, hc⟩ := D f y hy
    refine ⟨a, fd, ps, m, U.kp, bd, ?_, ?_⟩
    · rintro vs H Q E ⟨G, as, r, h, _⟩
      cases h
    · rintro A outer s H args us vs Q E _ _ _ _ _ ⟨G, as, r, h, _⟩
      cases h
  | n + 1, f, y, hy => by
    obtain ⟨fn, hf, x, qual, st, a, fd, N, ps, U, m, bd, S, hp, hN, hc⟩ := D f y hy
    have e : callF fns T.gv wf (n + 1) f = runF (callF fns T.gv wf n) T.gv wf fn := by
      funext as
      show (match fns f with | some fn => runF (callF fns T.gv wf n) T.gv wf fn as | none => none) = _
      rw [hf]
    rw [e]
    exact ⟨a, fd, ps, m, U.kp, bd, runG_of ok (all_defs ok D n) U bd S hp hN hc⟩
end
end PD
/-! The head of a law whose def keeps the evaluator's promise. -/
namespace PD
open PySem L2 PySem.Spec PyProof.Rows
/-- the law's def at the script's address, in a state whose tracked part is H -/
theorem headAt {T : Tx} {n : Nat} {fa a : Addr} {fd : FuncData} {x : Str} {φ : List (Bool × D) → Option ((Bool × D) × List (Bool × D))} {ps : List (Bool × D)} {st : Shared} {ns : List Int} {H : Hp}
    (F : RunG T n fa fd [x] (SpD T.cs φ)) (e0 : Env0 T.P T.w T.K T.mg T.base callerA [] st H) (room : Room (n + 64) callerA) (bd : BindsTo st fd ⟨[.ref a], []⟩ [(x, .ref a)])
    (hS : SqL T.K H a (ns.map V.int)) (law : φ [(false, .scr ns)] = some ((false, .bl true), ps)) (only : ∀ b o, H b = some o → ∃ ob xs, o = .frz ob (.lst xs)) :
    codeAny (model T.P T.w) callerA (.call (.ref fa) ⟨[.ref a], []⟩) (fun r s' => r = .ok (.ret (.bool true)) ∧ OldK st.heap s'.heap ∧ s'.os = st.os ∧ AllBare s'.gens) st := by
  have sp : SpD T.cs φ [.ref a] H (fun v _ => v = .bl true) fun _ _ _ => False := by
    refine ⟨H, [(false, .scr ns)], _, law, ⟨rfl, Same.refl H, fun i d h => ?_, fun i d h => ?_, fun i j d e b h => ?_⟩, fun _ v H' G' q => ?_, fun k f d z => nomatch z⟩
    · cases i with
      | zero =>
        cases h
        exact ⟨_, rfl, .scr hS⟩
      | succ i => cases h
    · cases i with
      | zero => cases h
      | succ i => cases h
    · cases i with
      | zero => cases h
      | succ i => cases h
    · have r := q.resF rfl
      cases r
      rfl
  refine codeAny_mono (F.run callerA [] st H ⟨[.ref a], []⟩ [.ref a] [.ref a] _ _ room rfl e0 bd (.cons rfl .nil) sp) fun r s' h => ?_
  cases r with
  | error e =>
    obtain ⟨_, _, _, _, _, _, _, _, _, _, _, _, z⟩ := h
    exact False.elim z
  | ok fl =>
    cases fl with
    | ret u =>
      obtain ⟨v, H', os, bare, un, ok', rv, q⟩ := h
      have q' : v = .bl true := q
      subst q'
      obtain rfl : u = Value.bool true := rv
      refine ⟨rfl, OldK.of_keep fun b o e => ?_, os, bare⟩
      cases hb : H b with
      | none => exact un.keep b o e hb (fun z => nomatch z) (fun z => nomatch z)
      | some u =>
        obtain ⟨ob, xs, rfl⟩ := only b u hb
        obtain ⟨e1, _⟩ := e0.hok b _ hb
        obtain ⟨e2, _⟩ := ok' b _ (un.frzs b ob _ hb)
        rw [e] at e1
        cases e1
        exact e2
    | next => exact False.elim h
    | brk => exact False.elim h
    | cont => exact False.elim h
/-- what is tracked at the start: nothing, or the script -/
theorem env_of {P : Program} {w : World} {K : PySem.W.Frag} {mg mb : Str → Option Value} {st : Shared} {a : Addr} {vs : List Value} {H : Hp} (kin : K.In st.heap) (gn : st.heap.Ns mainGlobals mg) (bn : st.heap.Ns builtinsNs mb) (bb : ∀ x : Str, x ≠ "__name__" → mb x = bootBuiltins x)
    (nl : st.heap.NoLimit) (gs : st.gens = #[]) (ha : st.heap.get? a = some { cls := .type "list", data := .seq vs.toArray }) (only : ∀ b, H b ≠ none → b = a) (out : H a ≠ none → K.lookup a = none) (hok : HOk P w H st.heap) :
    Env0 P w K mg (hidT st.heap H) callerA [] st H ∧ K.In (hidT st.heap H) ∧ (hidT st.heap H).Ns mainGlobals mg := by
  have away : ∀ {b : Addr} {o : Obj} {es : Array DictEntry} {ep : Nat}, st.heap.get? b = some o → o.data = .dict es ep → H b = none := by
    intro b o es ep e d
    by_cases hb : H b = none
    · exact hb
    · have := only b hb
      subst this
      rw [ha] at e
      cases e
      cases d
  have nsH : ∀ {b : Addr} {m : Str → Option Value}, st.heap.Ns b m → (hidT st.heap H).Ns b m := by
    rintro b m ⟨o, es, ep, e, d, r⟩
    exact ⟨o, es, ep, hidT_get e (away e d), d, r⟩
  have kinH : K.In (hidT st.heap H) := by
    intro b o e
    refine hidT_get (kin b o e) ?_
    by_cases hb : H b = none
    · exact hb
    · have := only b hb
      subst this
      rw [out hb] at e
      cases e
  obtain ⟨mc, m1, m2⟩ := nl
  exact ⟨⟨rfl, ⟨kinH, nsH gn, ⟨mb, nsH bn, bb⟩, ⟨mc, nsH m1, m2⟩⟩, fun b o e => of_hidT e, Nat.le_of_eq (hidT_size _ _), trivial, fun b z => (nomatch z), hok, .of_eq gs⟩, kinH, nsH gn⟩
theorem walkD {l : PySem.W.OpenLaw} {m n : Nat} {q : Program} {loose : List Str} {XP : (Str → Option Value) → Heap → Prop} {YP : World → Heap → Prop} {d : DefRec} {K : Params → PySem.W.Frag} {W : List Str} {fnm gnm gdm : Nat → Option Str} {gv : Nat → D} {gms : Nat → List Nat} {xcl : List (Nat × Nat)} {xcs : List Nat}
    {φ : List (Bool × D) → Option ((Bool × D) × List (Bool × D))} (hm : l.most = some m) (hm2 : m ≤ sizeLine) (hdf : d.params.defaults = []) (room : Room (n + 64) callerA) (hY : ∀ (w : World) (h : Heap), YP w h → (K w.params).In h)
    (F : ∀ (w : World) (mg : Str → Option Value) (fa : Addr) (h : Heap), (K w.params).In h → h.Ns mainGlobals mg → mg d.name = some (.ref fa) →
      ∃ (fd : FuncData) (x : Str), (∀ (s : Shared) (u : Value), BindsTo s fd ⟨[u], []⟩ [(x, u)]) ∧
        ∀ base : Heap, RunG ⟨l.prog, w, K w.params, mg, base, W, fnm, gnm, gdm, gv, gms, xcl, xcs⟩ n fa fd [x] (SpD ⟨K w.params, W, w⟩ φ))
    (law : ∀ ns : List Int, ns.length ≤ m → ∃ ps, φ [(false, .scr ns)] = some ((false, .bl true), ps)) :
    PySem.W.WalkO q loose XP YP l.row.toRowW d [] (fun f vs => PySem.call f vs) := by
  refine Att.attach_call hm hdf fun w s₀ st mg mb fa o pm cd doc a vs ns G Y ho hd hcd hmg ha hints hlen hg => ?_
  have kin := hY w _ Y
  obtain ⟨fd, x, bd, hF⟩ := F w mg fa _ kin G.T.g hmg
  obtain ⟨ps, hl⟩ := law ns hlen
  have rv := vals_ints hints
  have lv := hints.length
  have big : ns.length ≤ sizeLine := Nat.le_trans hlen hm2
  have fin : ∀ H : Hp, SqL (K w.params) H a (ns.map V.int) → (∀ b, H b ≠ none → b = a) → (H a ≠ none → (K w.params).lookup a = none) → HOk l.prog w H st.heap → (∀ b o, H b = some o → ∃ ob xs, o = .frz ob (.lst xs)) →
      codeAny (model l.prog w) callerA (.call (.ref fa) ⟨[.ref a], []⟩) (fun r s' => r = .ok (.ret (.bool true)) ∧ OldK st.heap s'.heap ∧ s'.os = st.os ∧ AllBare s'.gens) st := by
    intro H hS h1 h2 h3 h4
    obtain ⟨e0, kb, nb⟩ := env_of kin G.T.g G.T.b G.T.builtins G.T.nolimit hg ha h1 h2 h3
    exact headAt (T := ⟨l.prog, w, K w.params, mg, hidT st.heap H, W, fnm, gnm, gdm, gv, gms, xcl, xcs⟩) (hF _) e0 room (bd _ _) hS hl h4
  cases hk : (K w.params).lookup a with
  | some ob =>
    have e := kin a ob hk
    rw [ha] at e
    cases e
    exact fin (fun _ => none) (.inr ⟨_, vs.toArray, _, hk, rfl, rfl, rfl, by rw [List.size_toArray, lv]; exact big, by simpa using rv⟩) (fun b z => absurd rfl z) (fun z => absurd rfl z) (fun b u z => nomatch (show (none : Option HO) = some u from z)) fun b u z => nomatch (show (none : Option HO) = some u from z)
  | none =>
    have at' : ∀ {b : Addr} {u : HO}, (if b = a then some (HO.frz { cls := .type "list", data := .seq vs.toArray } (.lst (ns.map V.int))) else none) = some u → b = a ∧ u = .frz { cls := .type "list", data := .seq vs.toArray } (.lst (ns.map V.int)) := by
      intro b u z
      by_cases hb : b = a
      · rw [if_pos hb] at z
        cases z
        exact ⟨hb, rfl⟩
      · rw [if_neg hb] at z
        cases z
    refine fin (fun b => if b = a then some (.frz { cls := .type "list", data := .seq vs.toArray } (.lst (ns.map V.int))) else none) (.inl (.inr ⟨{ cls := .type "list", data := .seq vs.toArray }, if_pos rfl⟩)) (fun b z => ?_) (fun _ => hk) (fun b u z => ?_) fun b u z => ⟨_, _, (at' z).2⟩
    · by_cases hb : b = a
      · exact hb
      · exact absurd (if_neg hb) z
    · obtain ⟨rfl, rfl⟩ := at' z
      exact ⟨ha, by rw [List.length_map]; exact big, vs, _, rv, ha⟩
end PD
/-! An own class of exceptions below an own base: its __init__, and what the written part shows of it. -/
namespace PD
open PySem L2 PyProof.Rows
section
variable {X : Cx} {bas : Str} {B : Addr} {e : Expr} {es : List Expr} {ta : TA} {p1 p2 pos : Pos}
/-- B.__init__(self, ..), B an own class that has the __init__ of ValueError -/
theorem pe_kinit {pl : Sem Bool} (hg : Gl X bas) (hm : X.mg bas = some (.ref B)) (hd : (bas == ("__debug__" : Str)) = false) (b1 : PySem.W.specialIn X.K (.ref B) "__getattribute__" = some (some (.builtin "type.__getattribute__")))
    (b2 : PySem.W.readsIn X.K B (.type "type") = true) (b3 : PySem.W.findCls X.K (.ref B) (.type "type") "__init__" = some (.val (.builtin "ValueError.__init__"))) (ha : PA X (e :: es) ta)
    (hc : eval (.Call (.Attribute (.Name bas p1) "__init__" p2) (e :: es) [] pos) X.env = (do
      let o ← eval (.Name bas p1) X.env
      standAt p2.atName
      let (f, first) ← holding [o] (getMethod o "__init__" pl)
      callWith pos f first (backTo pos (starEach (e :: es) X.env)) (backToKw pos (keywordEach [] X.env))) := by rfl)
    (he : starEach (e :: es) X.env = (false, eval e X.env) :: starEach es X.env := by rfl) (hpl : (backTo pos (starEach es X.env)).any (·.1) = false := by rfl) :
    PE X (.Call (.Attribute (.Name bas p1) "__init__" p2) (e :: es) [] pos) (tVeI X.K ta) := by
  refine ⟨fun pins s σ H Q I h => PySem.W.methodCall_KW (ld_glob I hg hm ?_ hd) hc⟩
  refine PySem.W.method_cls I.kIn b1 (PySem.W.cls_value I.kIn b2 b3 rfl ?_)
  show wpAny _ _ (callWith pos (Value.builtin "ValueError.__init__") [] _ []) _ _ _
  refine callWith_method1 (thn (ha.run pos pins _ σ H _ (I.tok _) h) fun us s1 z => ?_) he hpl
  obtain ⟨vs, H1, I1, r1, a, C, ws, ev, hl, T, ea, q⟩ := z
  subst ev
  cases r1 with
  | @cons _ u0 _ ur ra rr =>
    obtain rfl : u0 = Value.ref a := ra
    refine oinit_ok T I1 ea ?_ fun s' J => ⟨.non, H1, J, rfl, q⟩
    rw [← Paired.length rr, sizeLine_eq]
    omega
end
/-- the text of such an __init__ -/
structure InitT (bas fn qual : Str) (st : Stmt) : Prop where
  body : ∃ (p1 p2 p3 p4 p5 p6 p7 p8 p9 p10 : Pos) (z : Str) (j : Nat), defBody st = [.Expr (.Call (.Attribute (.Name bas p1) "__init__" p2) [.Name "self" p3, .Constant (.str z) j p4] [] p5) p6, .Assign [.Attribute (.Name "self" p7) fn p8] (.Name fn p9) p10] ∧ ∀ env : PySem.Env, ∃ pl : Sem Bool, eval (.Call (.Attribute (.Name bas p1) "__init__" p2) [.Name "self" p3, .Constant (.str z) j p4] [] p5) env = (do
      let o ← eval (.Name bas p1) env
      standAt p2.atName
      let (f, first) ← holding [o] (getMethod o "__init__" pl)
      callWith p5 f first (backTo p5 (starEach [.Name "self" p3, .Constant (.str z) j p4] env)) (backToKw p5 (keywordEach [] env)))
  sc : FnScope ["self", fn] ["self", fn] (defScope st)
  gl : (defScope st).names.lookup bas = some .globalImplicit
  db : (bas == ("__debug__" : Str)) = false
  ls : (defScope st).names.lookup ("self" : Str) = some .local
  lf : (defScope st).names.lookup fn = some .local
  pf : plainN fn = true
  bd : ∀ (kV doc pm : Value) (an : Option Addr) (cdv ct : Value) (us : List Value), us.length = 2 → bindArgs (PySem.W.fnOf "__init__" qual (defArgs st) (defBody st) (defScope st) .none kV doc pm an cdv ct) ⟨us, []⟩ = pure ((["self", fn] : List Str).zip us)
theorem init_ok {P : Program} {w : World} {K : PySem.W.Frag} {mg : Str → Option Value} {base : Heap} {bas fn qual : Str} {st : Stmt} {C B fI : Addr} {fd : FuncData} (t : InitT bas fn qual st) (F : L2.Fun K "__init__" qual st fI fd) (ok : OexC K C)
    (no : PySem.W.findIn K (.ref C) fn = some none) (hm : mg bas = some (.ref B)) (b1 : PySem.W.specialIn K (.ref B) "__getattribute__" = some (some (.builtin "type.__getattribute__"))) (b2 : PySem.W.readsIn K B (.type "type") = true)
    (b3 : PySem.W.findCls K (.ref B) (.type "type") "__init__" = some (.val (.builtin "ValueError.__init__"))) : FnOk P w K mg base CX0 1 fI fd ["self", fn] (spI C fn) := by
  obtain ⟨p1, p2, p3, p4, p5, p6, p7, p8, p9, p10, z, j, hb, hev⟩ := t.body
  refine F.ok t.sc (fun vs H Q E h => ?_) fun cdv A outer s H vs Q E hr h => ?_
  · obtain ⟨a, y, rfl, _⟩ := h
    rfl
  · rw [hb]
    obtain ⟨f1, f2⟩ := plain_of t.pf
    have hv0 : PE (cxOf CX0 P w K mg base ["self", fn] qual (defScope st) fI cdv A outer s H E).nox (.Name "self" p3) (tVar 0) := pe_var (i := 0) rfl (.inl t.ls) (by decide) (by decide)
    have hv0' : PE (cxOf CX0 P w K mg base ["self", fn] qual (defScope st) fI cdv A outer s H E).nox (.Name "self" p7) (tVar 0) := pe_var (i := 0) rfl (.inl t.ls) (by decide) (by decide)
    have hv1 : PE (cxOf CX0 P w K mg base ["self", fn] qual (defScope st) fI cdv A outer s H E).nox (.Name fn p9) (tVar 1) := pe_var (i := 1) rfl (.inl t.lf) f1 f2
    obtain ⟨pl, hev⟩ := hev (cxOf CX0 P w K mg base ["self", fn] qual (defScope st) fI cdv A outer s H E).nox.env
    refine ⟨_, pss_cons (ps_expr (pe_kinit (X := (cxOf CX0 P w K mg base ["self", fn] qual (defScope st) fI cdv A outer s H E).nox) t.gl hm t.db b1 b2 b3 (pa_cons hv0 (pa_cons pe_str pa_nil)) hev)) (pss_one (ps_ost hv0' hv1)), ?_⟩
    obtain ⟨a, y, rfl, ha, q⟩ := h
    refine ⟨_, rfl, a, C, [.str z], rfl, (by decide : 1 ≤ 1000), ok, ha, ?_⟩
    exact ⟨_, rfl, _, rfl, a, C, rfl, ok, no, .inl ⟨ha, fun dx hd hne => q dx hd hne⟩⟩
/-- what the written part shows of the class -/
structure ClsK (K : PySem.W.Frag) (nm fn bas qual : Str) (st : Stmt) (C : Addr) : Prop where
  a : PySem.W.nsIn K mainGlobals nm = some (some (.ref C))
  ok : OexC K C
  no : PySem.W.findIn K (.ref C) fn = some none
  xc : ExcC K C
  ve : PySem.W.kitOne K (.ref C) (.type "ValueError") = some true
  init : ∃ (fI B : Addr) (oc : Value) (od an : Option Addr) (osl : Array (Option Value)) (kV doc pm cdv ct : Value), PySem.W.findIn K (.ref C) "__init__" = some (some (.ref fI)) ∧ PySem.W.typeIn K (.ref fI) = some (.type "function") ∧
    K.lookup fI = some ⟨oc, od, .func (PySem.W.fnOf "__init__" qual (defArgs st) (defBody st) (defScope st) .none kV doc pm an cdv ct), osl⟩ ∧ PySem.W.codeIn K cdv qual = true ∧ PySem.W.keepIn K (.ref fI) = true ∧
    PySem.W.nsIn K mainGlobals bas = some (some (.ref B)) ∧ PySem.W.specialIn K (.ref B) "__getattribute__" = some (some (.builtin "type.__getattribute__")) ∧ PySem.W.readsIn K B (.type "type") = true ∧
    PySem.W.findCls K (.ref B) (.type "type") "__init__" = some (.val (.builtin "ValueError.__init__"))
theorem clsK_mk {K : PySem.W.Frag} {nm fn bas qual : Str} {st : Stmt} {C fI B : Addr} {nm' q' : Str} {N : Addr} {bs bm : List Value} {sn : List Str} {sub : List Value} {ab : Bool} {col : Option Bool} {dd : Option Addr} {m0 m1 m2 m3 m5 : Option Value}
    {oc : Value} {od an : Option Addr} {osl : Array (Option Value)} {kV doc pm cdv ct : Value}
    (a : PySem.W.nsIn K mainGlobals nm = some (some (.ref C))) (b0 : PySem.W.nsIn K mainGlobals bas = some (some (.ref B))) (xL : K.lookup C = some (excClassObj nm' q' C N bs bm true sn sub ab col dd m0 m1 m2 m3 m5 "ValueError.__new__")) (hbm : PySem.HandSPX.refsVE bm = true)
    (sa : PySem.W.findIn K (.ref C) "__setattr__" = some (some (.builtin "object.__setattr__"))) (ga : PySem.W.findIn K (.ref C) "__getattribute__" = some (some (.builtin "BaseException.__getattribute__"))) (gg : PySem.W.findIn K (.ref C) "__getattr__" = some none)
    (no : PySem.W.findIn K (.ref C) fn = some none) (i1 : PySem.W.findIn K (.ref C) "__init__" = some (some (.ref fI))) (t1 : PySem.W.typeIn K (.ref fI) = some (.type "function"))
    (l1 : K.lookup fI = some ⟨oc, od, .func (PySem.W.fnOf "__init__" qual (defArgs st) (defBody st) (defScope st) .none kV doc pm an cdv ct), osl⟩) (c1 : PySem.W.codeIn K cdv qual = true) (k1 : PySem.W.keepIn K (.ref fI) = true)
    (kC : PySem.W.keepIn K (.ref C) = true) (eC : PySem.W.subIn K (.ref C) (.type "BaseException") = some true) (tC : PySem.W.typeIn K (.ref C) = some (.type "type")) (hC : PySem.W.hasDictIn K C = true)
    (ca : PySem.W.findIn K (.ref C) "__class__" = some (some (.builtin "object.__class__"))) (cn : PySem.W.specialIn K (.builtin "object.__class__") "__get__" = some (some (.builtin "getset_descriptor.__get__"))) (ct1 : PySem.W.takesIn K (.builtin "object.__class__") = some true)
    (cm : PySem.W.mroIn K C (.type "object") = some true) (ve : PySem.W.kitOne K (.ref C) (.type "ValueError") = some true) (b1 : PySem.W.specialIn K (.ref B) "__getattribute__" = some (some (.builtin "type.__getattribute__")))
    (b2 : PySem.W.readsIn K B (.type "type") = true) (b3 : PySem.W.findCls K (.ref B) (.type "type") "__init__" = some (.val (.builtin "ValueError.__init__"))) : ClsK K nm fn bas qual st C where
  a := a
  ok := ⟨⟨nm', q', N, bs, bm, sn, sub, ab, col, dd, m0, m1, m2, m3, m5, xL, hbm⟩, sa, eC, tC, kC⟩
  no := no
  xc := ⟨ga, gg, eC, hC, ca, cn, ct1, cm⟩
  ve := ve
  init := ⟨fI, B, oc, od, an, osl, kV, doc, pm, cdv, ct, i1, t1, l1, c1, k1, b0, b1, b2, b3⟩
/-- isinstance, except: a class beside another one -/
structure XisK (K : PySem.W.Frag) (nm : Str) (C : Addr) (r : Bool) : Prop where
  ex : ∃ D : Addr, PySem.W.nsIn K mainGlobals nm = some (some (.ref D)) ∧ PySem.W.kitOne K (.ref C) (.ref D) = some r ∧ PySem.W.exmOne K (.ref C) (.ref D) = some r
theorem xisK_mk {K : PySem.W.Frag} {nm : Str} {C D : Addr} {r : Bool} (a : PySem.W.nsIn K mainGlobals nm = some (some (.ref D))) (k : PySem.W.kitOne K (.ref C) (.ref D) = some r) (e1 : PySem.W.subIn K (.ref D) (.type "BaseException") = some true)
    (e2 : PySem.W.hasDictIn K D = true) (e3 : PySem.W.typeIn K (.ref D) = some (.type "type")) (e4 : PySem.W.subIn K (.ref C) (.ref D) = some r) : XisK K nm C r := ⟨D, a, k, PySem.W.exm_ref e1 e2 e3 e4⟩
theorem cls_at {T : Tx} {h : Heap} {k f : Nat} {nm fn bas qual : Str} {st : Stmt} {C : Addr} (X : T.K.In h) (G : h.Ns mainGlobals T.mg) (hk : T.W[k]? = some nm) (hf : T.W[f]? = some fn) (t : InitT bas fn qual st) (c : ClsK T.K nm fn bas qual st C) :
    ∃ fI fd, ClsAt T k f nm fn C fI fd := by
  obtain ⟨fI, B, oc, od, an, osl, kV, doc, pm, cdv, ct, i1, t1, l1, c1, k1, b0, b1, b2, b3⟩ := c.init
  have F := fun_mk (x := "__init__") (qual := qual) (st := st) l1 c1 k1
  exact ⟨fI, _, hk, hf, PySem.W.mg_of X G c.a, c.a, c.ok, i1, t1, c.no, F.binds (ps := ["self", fn]) t.bd, init_ok t F c.ok c.no (PySem.W.mg_of X G b0) b1 b2 b3, c.xc, c.ve⟩
end PD
/-! What the written part shows of the defs and constants. -/
namespace PD
open PySem L2
section
variable {K : PySem.W.Frag} {W : List Str} {w : World}
def RepK (K : PySem.W.Frag) (W : List Str) (w : World) (u : Value) (d : D) : Prop := ∃ v, RelV v u ∧ ∀ G, Rep ⟨K, W, w⟩ G v d
def RepsK (K : PySem.W.Frag) (W : List Str) (w : World) (us : List Value) (ds : List D) : Prop := ∃ vs, Vals vs us ∧ ∀ G, Reps ⟨K, W, w⟩ G vs ds
theorem repsK_nil : RepsK K W w [] [] := ⟨[], .nil, fun _ => .nil⟩
theorem repsK_cons {u : Value} {us : List Value} {d : D} {ds : List D} (h : RepK K W w u d) (r : RepsK K W w us ds) : RepsK K W w (u :: us) (d :: ds) := by
  obtain ⟨v, h1, h2⟩ := h
  obtain ⟨vs, r1, r2⟩ := r
  exact ⟨v :: vs, .cons h1 r1, fun G => .cons (h2 G) (r2 G)⟩
theorem repK_non : RepK K W w .none .non := ⟨.non, rfl, fun _ => .non⟩
theorem repK_bl {b : Bool} : RepK K W w (.bool b) (.bl b) := ⟨.bl b, rfl, fun _ => .bl b⟩
theorem repK_int {i : Int} {t : Tok} : RepK K W w (.int i t) (.int i) := ⟨.int i, ⟨t, rfl⟩, fun _ => .int i⟩
theorem repK_w {x : Str} {t : Tok} {k : Nat} (h : W[k]? = some x) : RepK K W w (.str x t) (.w k) := ⟨.str x, ⟨t, rfl⟩, fun _ => .w h⟩
theorem repK_tup {a : Addr} {od : Option Addr} {its : Array Value} {n : Nat} {osl : Array (Option Value)} {ds : List D} (l : K.lookup a = some ⟨.type "tuple", od, .seq its n, osl⟩) (hs : its.size ≤ 1000) (h : RepsK K W w its.toList ds) : RepK K W w (.ref a) (.tup ds) := by
  obtain ⟨vs, h1, h2⟩ := h
  refine ⟨.ref a, rfl, fun G => .tup (.inr ⟨_, its, n, l, rfl, rfl, ?_, h1⟩) (h2 G)⟩
  unfold sizeLine
  omega
inductive EntK (K : PySem.W.Frag) (W : List Str) (w : World) (a : Addr) : List DK → List D → Prop where
  | nil : EntK K W w a [] []
  | cons {k : Nat} {x : Str} {u : Value} {d : D} {ks : List DK} {ds : List D} : W[k]? = some x → PySem.W.nsIn K a x = some (some u) → RepK K W w u d → EntK K W w a ks ds → EntK K W w a (.w k :: ks) (d :: ds)
def GlK (K : PySem.W.Frag) (W : List Str) (w : World) (x : Str) (d : D) : Prop := ∃ u, PySem.W.nsIn K mainGlobals x = some (some u) ∧ RepK K W w u d
theorem glK_mk {x : Str} {d : D} {u : Value} (h : PySem.W.nsIn K mainGlobals x = some (some u)) (r : RepK K W w u d) : GlK K W w x d := ⟨u, h, r⟩
def DcK (K : PySem.W.Frag) (W : List Str) (w : World) (x : Str) (d : D) : Prop := ∃ a es n ks vs, d = .dic ks vs ∧ (a == sysModules) = false ∧ PySem.W.nsIn K mainGlobals x = some (some (.ref a)) ∧ K.lookup a = some ⟨.type "dict", none, .dict es n, #[]⟩ ∧ PySem.W.KeysLit w.params es.toList ∧ EntK K W w a ks vs
theorem dcK_mk {x : Str} {a : Addr} {es : Array DictEntry} {n : Nat} {ks : List DK} {vs : List D} (h : PySem.W.nsIn K mainGlobals x = some (some (.ref a))) (l : K.lookup a = some ⟨.type "dict", none, .dict es n, #[]⟩) (low : (a == sysModules) = false) (lit : PySem.W.KeysLit w.params es.toList) (e : EntK K W w a ks vs) : DcK K W w x (.dic ks vs) := ⟨a, es, n, ks, vs, rfl, low, h, l, lit, e⟩
/-- a word that is no key of a written dict -/
def MisK (K : PySem.W.Frag) (w : World) (x z : Str) : Prop := ∃ a es n, PySem.W.nsIn K mainGlobals x = some (some (.ref a)) ∧ K.lookup a = some ⟨.type "dict", none, .dict es n, #[]⟩ ∧ PySem.W.KeysLit w.params es.toList ∧ (a == sysModules) = false ∧ PySem.W.nsIn K a z = some none
theorem misK_mk {x z : Str} {a : Addr} {es : Array DictEntry} {n : Nat} (h : PySem.W.nsIn K mainGlobals x = some (some (.ref a))) (l : K.lookup a = some ⟨.type "dict", none, .dict es n, #[]⟩) (low : (a == sysModules) = false) (lit : PySem.W.KeysLit w.params es.toList) (e : PySem.W.nsIn K a z = some none) : MisK K w x z := ⟨a, es, n, h, l, lit, low, e⟩
theorem EntK.find {a : Addr} : ∀ {ks : List DK} {vs : List D}, EntK K W w a ks vs → ∀ q d, findD ks vs q = some d → ∃ k x u, q = .w k ∧ W[k]? = some x ∧ PySem.W.nsIn K a x = some (some u) ∧ RepK K W w u d
  | _, _, .nil, q, d, h => nomatch h
  | _, _, .cons (k := k) (x := x) (u := u) (d := d0) h1 h2 h3 r, q, d, h => by
    by_cases e : DK.w k = q
    · have h : (if DK.w k = q then some d0 else findD _ _ q) = some d := h
      rw [if_pos e] at h
      cases h
      exact ⟨k, x, u, e.symm, h1, h2, h3⟩
    · have h : (if DK.w k = q then some d0 else findD _ _ q) = some d := h
      rw [if_neg e] at h
      exact EntK.find r q d h
def BltK (K : PySem.W.Frag) (xs : List Str) : Prop := ∀ x ∈ xs, PySem.W.nsIn K mainGlobals x = some none
theorem bltK_nil : BltK K [] := fun _ h => nomatch h
theorem bltK_cons {x : Str} {xs : List Str} (h : PySem.W.nsIn K mainGlobals x = some none) (r : BltK K xs) : BltK K (x :: xs) := fun y hy => (List.mem_cons.mp hy).elim (fun e => by rw [e]; exact h) (r y)
/-- a def behind the top, under the name y -/
def DefK (K : PySem.W.Frag) (y x : Str) (st : Stmt) : Prop := ∃ (f : Addr) (oc : Value) (od an : Option Addr) (osl : Array (Option Value)) (kV doc pm cdv ct : Value),
  PySem.W.nsIn K mainGlobals y = some (some (.ref f)) ∧ K.lookup f = some ⟨oc, od, .func (PySem.W.fnOf x x (defArgs st) (defBody st) (defScope st) .none kV doc pm an cdv ct), osl⟩ ∧ PySem.W.codeIn K cdv x = true ∧ PySem.W.keepIn K (.ref f) = true
theorem defK_mk {y x : Str} {st : Stmt} {f : Addr} {oc : Value} {od an : Option Addr} {osl : Array (Option Value)} {kV doc pm cdv ct : Value} (a : PySem.W.nsIn K mainGlobals y = some (some (.ref f)))
    (l : K.lookup f = some ⟨oc, od, .func (PySem.W.fnOf x x (defArgs st) (defBody st) (defScope st) .none kV doc pm an cdv ct), osl⟩) (c : PySem.W.codeIn K cdv x = true) (k : PySem.W.keepIn K (.ref f) = true) : DefK K y x st := ⟨f, oc, od, an, osl, kV, doc, pm, cdv, ct, a, l, c, k⟩
/-- its text, known without the top -/
structure DefT (t : Tb) (x : Str) (st : Stmt) (ps N : List Str) (fn : Fn) : Prop where
  bd : ∀ (kV doc pm : Value) (an : Option Addr) (cdv ct : Value) (us : List Value), us.length = ps.length → bindArgs (PySem.W.fnOf x x (defArgs st) (defBody st) (defScope st) .none kV doc pm an cdv ct) ⟨us, []⟩ = pure (ps.zip us)
  sc : FnScope N ps (defScope st)
  np : ps.length = fn.np
  ns : N.length = fn.ns
  ck : ckSs t N (defScope st) fn.body (defBody st) = true
inductive DefsK (K : PySem.W.Frag) (t : Tb) : List Str → List Fn → Prop where
  | nil : DefsK K t [] []
  | cons {y x : Str} {st : Stmt} {ps N : List Str} {fn : Fn} {ys : List Str} {fns : List Fn} : DefK K y x st → DefT t x st ps N fn → DefsK K t ys fns → DefsK K t (y :: ys) (fn :: fns)
theorem DefsK.get {t : Tb} : ∀ {ys : List Str} {fns : List Fn}, DefsK K t ys fns → ∀ (f : Nat) (y : Str), ys[f]? = some y → ∃ fn x st ps N, fns[f]? = some fn ∧ DefK K y x st ∧ DefT t x st ps N fn
  | _, _, .nil, f, y, h => by simp at h
  | _, _, .cons h1 h2 r, 0, y, h => by
    cases h
    exact ⟨_, _, _, _, _, rfl, h1, h2⟩
  | _, _, .cons h1 h2 r, f + 1, y, h => by
    obtain ⟨fn, x, st, ps, N, e, q⟩ := r.get f y (by simpa using h)
    exact ⟨fn, x, st, ps, N, by simpa using e, q⟩
inductive GlsK (K : PySem.W.Frag) (W : List Str) (w : World) : List Str → List D → Prop where
  | nil : GlsK K W w [] []
  | cons {x : Str} {d : D} {xs : List Str} {ds : List D} : GlK K W w x d → GlsK K W w xs ds → GlsK K W w (x :: xs) (d :: ds)
theorem GlsK.get : ∀ {xs : List Str} {ds : List D}, GlsK K W w xs ds → ∀ (g : Nat) (x : Str), xs[g]? = some x → GlK K W w x (ds.getD g .non)
  | _, _, .nil, g, x, h => by simp at h
  | _, _, .cons h1 r, 0, x, h => by
    cases h
    exact h1
  | _, _, .cons h1 r, g + 1, x, h => r.get g x (by simpa using h)
inductive DcsK (K : PySem.W.Frag) (W : List Str) (w : World) : List Str → List D → Prop where
  | nil : DcsK K W w [] []
  | cons {x : Str} {d : D} {xs : List Str} {ds : List D} : DcK K W w x d → DcsK K W w xs ds → DcsK K W w (x :: xs) (d :: ds)
theorem DcsK.get : ∀ {xs : List Str} {ds : List D}, DcsK K W w xs ds → ∀ (g : Nat) (x : Str), xs[g]? = some x → DcK K W w x (ds.getD g .non)
  | _, _, .nil, g, x, h => by simp at h
  | _, _, .cons h1 r, 0, x, h => by
    cases h
    exact h1
  | _, _, .cons h1 r, g + 1, x, h => r.get g x (by simpa using h)
end
/-- the tables of a law: constants, dicts, defs -/
structure Lw where
  W : List Str
  gn : List Str
  gd : List D
  dn : List Str
  dd : List D
  fn : List Str
  ff : List Fn
  gm : List (List Nat)
  xcl : List (Nat × Nat)
  xcs : List Nat
inductive All {α : Type} (P : α → Prop) : List α → Prop where
  | nil : All P []
  | cons {x : α} {r : List α} : P x → All P r → All P (x :: r)
theorem All.mem {α : Type} {P : α → Prop} : ∀ {l : List α}, All P l → ∀ x ∈ l, P x
  | _, .nil, x, h => by simp at h
  | _, .cons h r, x, hx => (List.mem_cons.mp hx).elim (fun e => e ▸ h) (r.mem x)
theorem All.get {α : Type} {P : α → Prop} {l : List α} (h : All P l) {i : Nat} {x : α} (e : l[i]? = some x) : P x := h.mem x (List.mem_of_getElem? e)
namespace Lw
def gnm (l : Lw) (g : Nat) : Option Str := l.gn[g]?
def gdm (l : Lw) (g : Nat) : Option Str := if g < l.gn.length then none else l.dn[g - l.gn.length]?
def fnm (l : Lw) (f : Nat) : Option Str := l.fn[f]?
def fns (l : Lw) (f : Nat) : Option Fn := l.ff[f]?
def gv (l : Lw) (g : Nat) : D := if g < l.gn.length then l.gd.getD g .non else l.dd.getD (g - l.gn.length) .non
def gms (l : Lw) (g : Nat) : List Nat := l.gm.getD (g - l.gn.length) []
def tb (l : Lw) : Tb := ⟨l.W, l.fnm, l.gnm, l.gdm, l.gms, l.xcl, l.xcs⟩
def tx (l : Lw) (P : Program) (w : World) (K : PySem.W.Frag) (mg : Str → Option Value) (base : Heap) : Tx := ⟨P, w, K, mg, base, l.W, l.fnm, l.gnm, l.gdm, l.gv, l.gms, l.xcl, l.xcs⟩
end Lw
/-- all that the top shows -/
structure TopK (l : Lw) (K : PySem.W.Frag) (w : World) : Prop where
  blt : BltK K bltNames
  gls : GlsK K l.W w l.gn l.gd
  dcs : DcsK K l.W w l.dn l.dd
  defs : DefsK K l.tb l.fn l.ff
  cls : All (fun p : Nat × Nat => ∃ (nm fn bas qual : Str) (st : Stmt) (C : Addr), l.W[p.1]? = some nm ∧ l.W[p.2]? = some fn ∧ InitT bas fn qual st ∧ ClsK K nm fn bas qual st C ∧ All (fun c => ∃ nc, l.W[c]? = some nc ∧ XisK K nc C (c == p.1 || c == 0)) l.xcs) l.xcl
  ve : l.xcl ≠ [] → l.W[1]? = some ("ValueError" : Str) ∧ PySem.W.nsIn K mainGlobals "ValueError" = some none
  mis : All (fun p : Str × List Nat => All (fun k => ∃ z, l.W[k]? = some z ∧ MisK K w p.1 z) p.2) (l.dn.zip l.gm)
theorem top_ok {l : Lw} {P : Program} {w : World} {K : PySem.W.Frag} {h base : Heap} {mg : Str → Option Value} (X : K.In h) (G : h.Ns mainGlobals mg) (wok : WOk l.W) (T : TopK l K w) : TOk (l.tx P w K mg base) where
  wok := wok
  glob := fun g x e => by
    have e : l.gn[g]? = some x := e
    obtain ⟨u, h1, v, h2, h3⟩ := T.gls.get g x e
    refine ⟨v, u, PySem.W.mg_of X G h1, h2, fun G' => ?_⟩
    show Rep _ G' v (if g < l.gn.length then l.gd.getD g .non else l.dd.getD (g - l.gn.length) .non)
    rw [if_pos (List.getElem?_eq_some_iff.mp e).1]
    exact h3 G'
  gdic := fun g x e => by
    have e : (if g < l.gn.length then none else l.dn[g - l.gn.length]?) = some x := e
    split at e
    · cases e
    · rename_i hg
      obtain ⟨a, es, n, ks, vs, h1, low, h2, h3, h4, h5⟩ := T.dcs.get _ x e
      refine ⟨a, ks, vs, ?_, PySem.W.mg_of X G h2, low, fun q d hd => ?_⟩
      · show (if g < l.gn.length then l.gd.getD g .non else l.dd.getD (g - l.gn.length) .non) = _
        rw [if_neg hg]
        exact h1
      · obtain ⟨k, z, u, rfl, hk, hn, v, hr, hG⟩ := h5.find q d hd
        refine ⟨z, v, ?_, ⟨es, n, u, h3, h4, hn, hr⟩, hG⟩
        show (l.W[k]?).map Sum.inr = _
        rw [hk]
        rfl
  blt := fun x hx => PySem.W.mg_none_of X G (T.blt x hx)
  cls := fun p hp => by
    obtain ⟨nm, fn, bas, qual, st, C, hk, hf, t, c, xs⟩ := T.cls.mem p hp
    obtain ⟨fI, fd, A⟩ := cls_at (T := l.tx P w K mg base) (k := p.1) (f := p.2) X G hk hf t c
    refine ⟨nm, fn, C, fI, fd, A, fun c' hc => ?_⟩
    obtain ⟨nc, hn, D, d1, d2, d3⟩ := xs.mem c' hc
    exact ⟨nc, D, hn, PySem.W.mg_of X G d1, d2, d3⟩
  w1 := fun hx => by
    obtain ⟨h1, h2⟩ := T.ve hx
    exact ⟨h1, PySem.W.mg_none_of X G h2⟩
  gmis := fun g x e k hk => by
    have e : (if g < l.gn.length then none else l.dn[g - l.gn.length]?) = some x := e
    split at e
    · cases e
    · have hk : k ∈ l.gm.getD (g - l.gn.length) [] := hk
      rw [List.getD_eq_getElem?_getD] at hk
      cases hm : l.gm[g - l.gn.length]? with
      | none => rw [hm] at hk; simp at hk
      | some ms =>
        rw [hm] at hk
        have z : (l.dn.zip l.gm)[g - l.gn.length]? = some (x, ms) := by
          rw [List.getElem?_zip_eq_some]
          exact ⟨e, hm⟩
        obtain ⟨z, h1, a, es, n, h2, h3, h4, h5, h6⟩ := (T.mis.get z).mem k hk
        exact ⟨z, a, h1, PySem.W.mg_of X G h2, es, n, h3, h4, h5, h6⟩
theorem top_defs {l : Lw} {P : Program} {w : World} {K : PySem.W.Frag} {h base : Heap} {mg : Str → Option Value} (X : K.In h) (G : h.Ns mainGlobals mg) (wok : WOk l.W) (T : TopK l K w) (wf n : Nat) : Cal (l.tx P w K mg base) n (callF l.fns l.gv wf n) := by
  refine all_defs (T := l.tx P w K mg base) (top_ok X G wok T) (fun f y hy => ?_) n
  obtain ⟨fn, x, st, ps, N, h1, ⟨a, oc, od, an, osl, kV, doc, pm, cdv, ct, q1, q2, q3, q4⟩, D⟩ := T.defs.get f y hy
  have U := fun_mk (st := st) q2 q3 q4
  exact ⟨fn, h1, x, x, st, a, _, N, ps, U, PySem.W.mg_of X G q1, U.binds D.bd, D.sc, D.np, D.ns, D.ck⟩
/-- THE END of a law row, from the evaluator's answer -/
theorem walkL {l : PySem.W.OpenLaw} {m wf k fi : Nat} {q : Program} {loose : List Str} {XP : (Str → Option Value) → Heap → Prop} {YP : World → Heap → Prop} {d : DefRec} {K : Params → PySem.W.Frag} (L : Lw) (hm : l.most = some m) (hm2 : m ≤ sizeLine) (hdf : d.params.defaults = [])
    (room : Room (k + 1 + 64) callerA) (hY : ∀ (w : World) (h : Heap), YP w h → (K w.params).In h) (wok : WOk L.W) (hfi : L.fnm fi = some d.name) (T : ∀ w : World, TopK L (K w.params) w)
    (law : ∀ ns : List Int, ns.length ≤ m → ∃ ps, callF L.fns L.gv wf (k + 1) fi [(false, .scr ns)] = some ((false, .bl true), ps)) :
    PySem.W.WalkO q loose XP YP l.row.toRowW d [] (fun f vs => PySem.call f vs) := by
  refine walkD (n := k + 1) (W := L.W) (fnm := L.fnm) (gnm := L.gnm) (gdm := L.gdm) (gv := L.gv) (gms := L.gms) (xcl := L.xcl) (xcs := L.xcs) hm hm2 hdf room hY (fun w mg fa h X G hmg => ?_) law
  obtain ⟨fn, x, st, ps, N, h1, ⟨a, oc, od, an, osl, kV, doc, pm, cdv, ct, q1, q2, q3, q4⟩, D⟩ := (T w).defs.get fi d.name hfi
  have e := (PySem.W.mg_of X G q1).symm.trans hmg
  cases e
  have np1 : ps.length = 1 := by
    rw [D.np]
    obtain ⟨r, hr⟩ := law [] (Nat.zero_le _)
    have e : callF L.fns L.gv wf (k + 1) fi = runF (callF L.fns L.gv wf k) L.gv wf fn := by
      funext as
      show (match L.fns fi with | some fn => runF (callF L.fns L.gv wf k) L.gv wf fn as | none => none) = _
      rw [show L.fns fi = some fn from h1]
    rw [e] at hr
    unfold runF at hr
    split at hr
    · rename_i hl
      exact hl.symm
    · cases hr
  match ps, np1, D with
  | [p], _, D =>
    have U := fun_mk (st := st) q2 q3 q4
    refine ⟨_, p, fun s u => .of_eq (D.bd kV doc pm an cdv ct [u] rfl), fun base => ?_⟩
    have e : callF L.fns L.gv wf (k + 1) fi = runF (callF L.fns L.gv wf k) L.gv wf fn := by
      funext as
      show (match L.fns fi with | some fn => runF (callF L.fns L.gv wf k) L.gv wf fn as | none => none) = _
      rw [show L.fns fi = some fn from h1]
    rw [e]
    exact runG_of (T := L.tx l.prog w (K w.params) mg base) (n := k) (top_ok X G wok (T w)) (top_defs X G wok (T w) wf k) U (U.binds D.bd) D.sc D.np D.ns D.ck
end PD
/-! The facts of the top, read by a Hook of its own off one run of the top: what they say. -/
namespace PD
open PySem L2
open He (ba eqO eqO_ok)
section
variable {K : PySem.W.Frag} {W : List Str} {w : World}
mutual
theorem repB_ok : ∀ (d : D) (u : Value), repB K W d u = true → RepK K W w u d
  | .non, u, h => by
    cases u with
    | none => exact repK_non
    | _ => unfold repB at h; cases h
  | .bl b, u, h => by
    cases u with
    | bool c =>
      unfold repB at h
      rw [eq_of_beq h]
      exact repK_bl
    | _ => unfold repB at h; cases h
  | .int i, u, h => by
    cases u with
    | int j t =>
      unfold repB at h
      rw [of_decide_eq_true h]
      exact repK_int
    | _ => unfold repB at h; cases h
  | .w k, u, h => by
    cases u with
    | str x t =>
      unfold repB at h
      exact repK_w (of_decide_eq_true h)
    | _ => unfold repB at h; cases h
  | .rp d, u, h => by cases u <;> (unfold repB at h; cases h)
  | .scr d, u, h => by cases u <;> (unfold repB at h; cases h)
  | .lst d, u, h => by cases u <;> (unfold repB at h; cases h)
  | .dic d e, u, h => by cases u <;> (unfold repB at h; cases h)
  | .tup ds, u, h => by
    cases u with
    | ref a =>
      unfold repB at h
      cases q : K.lookup a with
      | none =>
        rw [q] at h
        cases h
      | some o =>
        obtain ⟨oc, od, dt, osl⟩ := o
        rw [q] at h
        cases oc with
        | type c =>
          cases dt with
          | seq its n =>
            obtain ⟨h1, h2⟩ := ba (show (decide (c = "tuple") && (decide (its.size ≤ 1000) && repsB K W ds its.toList)) = true from h)
            obtain ⟨h3, h4⟩ := ba h2
            have e1 : c = "tuple" := of_decide_eq_true h1
            subst e1
            exact repK_tup q (of_decide_eq_true h3) (repsB_ok ds its.toList h4)
          | _ => cases h
        | _ => cases dt <;> cases h
    | _ => unfold repB at h; cases h
theorem repsB_ok : ∀ (ds : List D) (us : List Value), repsB K W ds us = true → RepsK K W w us ds
  | [], us, h => by
    cases us with
    | nil => exact repsK_nil
    | cons u us => unfold repsB at h; cases h
  | d :: ds, us, h => by
    cases us with
    | nil => unfold repsB at h; cases h
    | cons u us =>
      unfold repsB at h
      obtain ⟨h1, h2⟩ := ba h
      exact repsK_cons (repB_ok d u h1) (repsB_ok ds us h2)
end
/-! ### a global, a dict's values -/
theorem nsB_ok {a : Addr} {x : Str} {d : D} (h : nsB K W a x d = true) : ∃ u, PySem.W.nsIn K a x = some (some u) ∧ RepK K W w u d := by
  unfold nsB at h
  cases e : PySem.W.nsIn K a x with
  | none => rw [e] at h; cases h
  | some r =>
    rw [e] at h
    cases r with
    | none => cases h
    | some u => exact ⟨u, rfl, repB_ok d u h⟩
theorem entB_ok {a : Addr} : ∀ (ks : List DK) (ds : List D), entB K W a ks ds = true → EntK K W w a ks ds
  | [], [], _ => .nil
  | [], _ :: _, h => by cases h
  | .w k :: ks, [], h => by cases h
  | .i n :: ks, [], h => by cases h
  | .i n :: ks, _ :: _, h => by cases h
  | .w k :: ks, d :: ds, h => by
    obtain ⟨h1, h2⟩ := ba (show ((match W[k]? with
      | some x => nsB K W a x d
      | none => false) && entB K W a ks ds) = true from h)
    cases e : W[k]? with
    | none => rw [e] at h1; cases h1
    | some x =>
      rw [e] at h1
      obtain ⟨u, q1, q2⟩ := nsB_ok (w := w) h1
      exact .cons e q1 q2 (entB_ok ks ds h2)
end
theorem clB_ok {K : PySem.W.Frag} {C : Addr} (h : clB K C = true) : ∃ nm q N bs bm sn sub ab col dd k0 k1 k2 k3 k5, K.lookup C = some (excClassObj nm q C N bs bm true sn sub ab col dd k0 k1 k2 k3 k5 "ValueError.__new__") ∧ PySem.HandSPX.refsVE bm = true := by
  unfold clB at h
  split at h
  · rename_i c dd cd k0 k1 k2 k3 z k5 e
    obtain ⟨nm, bs, mro, N, q, hd, sn, sub, ab, col, hdel⟩ := cd
    obtain ⟨h1, h2⟩ := ba h
    obtain ⟨h3, h4⟩ := ba h2
    obtain ⟨h5, h6⟩ := ba h4
    obtain ⟨h7, h8⟩ := ba h6
    have e1 : c = "type" := of_decide_eq_true h1
    have e2 : z = "ValueError.__new__" := of_decide_eq_true h8
    have e3 : hd = true := h5
    have e4 : hdel = false := by
      have h7 : (!hdel) = true := h7
      cases hdel with
      | false => rfl
      | true => cases h7
    subst e1 e2 e3 e4
    cases mro with
    | nil => cases h3
    | cons v bm =>
      cases v with
      | ref b =>
        obtain ⟨h9, h10⟩ := ba (show (decide (b = C) && PySem.HandSPX.refsVE bm) = true from h3)
        have e5 : b = C := of_decide_eq_true h9
        subst e5
        exact ⟨nm, q, N, bs, bm, sn, sub, ab, col, dd, k0, k1, k2, k3, k5, e, h10⟩
      | _ => cases h3
  · cases h
theorem obP_eq {as : List Addr} {fx : List Fx} {W : List Str} {fn : List He.DefD} {ts : List He.Tab} (s : PySem.W.SharedT) : obP as fx W fn ts s = (hookP as fx W fn ts).obs s.abs := by
  have e : HandSHeadRun.getT s = s.abs.heap.get? := funext (HandSHeadRun.getT_eq s)
  unfold obP
  rw [e]
  rfl
section
variable {fx : List Fx} {W : List Str} {fn : List He.DefD} {ts : List He.Tab} {w : World} {K : PySem.W.Frag}
theorem SaysP.fact (c : SaysP fx W fn ts w K) (i : Nat) {f : Fx} (h : fx[i]? = some f := by rfl) : f.ok K W = true :=
  List.all_eq_true.mp (show (fx.all fun f => f.ok K W) = true from congrArg (fun z : AlP => z.1) c.e) f (List.mem_of_getElem? h)
theorem SaysP.t (c : SaysP fx W fn ts w K) : He.SaysT [] fn ts w K := congrArg (fun z : AlP => z.2) c.e
theorem SaysP.glK (c : SaysP fx W fn ts w K) (i : Nat) {x : Str} {d : D} (h : fx[i]? = some (.gl x d) := by rfl) : GlK K W w x d := by
  obtain ⟨u, q1, q2⟩ := nsB_ok (w := w) (show nsB K W mainGlobals x d = true from c.fact i h)
  exact glK_mk q1 q2
theorem SaysP.freeK (c : SaysP fx W fn ts w K) (i : Nat) {x : Str} (h : fx[i]? = some (.free x) := by rfl) : PySem.W.nsIn K mainGlobals x = some none := eqO_ok (c.fact i h)
theorem SaysP.bltK (c : SaysP fx W fn ts w K) (h : ∀ x ∈ bltNames, ∃ i : Nat, fx[i]? = some (Fx.free x)) : BltK K bltNames := fun x hx => by
  obtain ⟨i, e⟩ := h x hx
  exact c.freeK i (h := e)
theorem SaysP.dcK (c : SaysP fx W fn ts w K) (i j : Nat) {x : Str} {ks : List DK} {vs : List D} {l : List Str} (h : fx[i]? = some (.dc x ks vs) := by rfl) (ht : ts[j]? = some (fun K => He.ga K x, l) := by rfl) : DcK K W w x (.dic ks vs) := by
  obtain ⟨h1, h2⟩ := ba (show (eqO (PySem.W.nsIn K mainGlobals x) (some (some (.ref (He.ga K x)))) && entB K W (He.ga K x) ks vs) = true from c.fact i h)
  obtain ⟨es, n, q⟩ := c.t.tab j ht
  exact dcK_mk (eqO_ok h1) q.at_ q.low q.lit (entB_ok ks vs h2)
theorem SaysP.misK (c : SaysP fx W fn ts w K) (i j g : Nat) {x z : Str} {l : List Str} (h : fx[i]? = some (.mis x z) := by rfl) (ht : ts[j]? = some (fun K => He.ga K x, l) := by rfl) (hg : fx[g]? = some (.glo x) := by rfl) : MisK K w x z := by
  obtain ⟨es, n, q⟩ := c.t.tab j ht
  exact misK_mk (eqO_ok (c.fact g hg)) q.at_ q.low q.lit (eqO_ok (c.fact i h))
theorem SaysP.defK (c : SaysP fx W fn ts w K) (i g : Nat) {y x : Str} {st : Stmt} (h : fn[i]? = some ⟨(y, none), x, x, defArgs st, defBody st, defScope st, [], []⟩ := by rfl) (hg : fx[g]? = some (.glo y) := by rfl) : DefK K y x st := by
  obtain ⟨fd, ⟨oc, od, dV, kV, doc, pm, an, cdv, ct, osl, e, q1, q2, q3, q4⟩, kp⟩ := c.t.d.def_ i h
  subst e
  have e2 : dV = .none := by
    rcases q3 with ⟨_, z⟩ | ⟨z, _⟩
    · exact z
    · exact absurd rfl z
  subst e2
  exact defK_mk (eqO_ok (c.fact g hg)) q1 q2 kp
theorem SaysP.clsK (c : SaysP fx W fn ts w K) (i j : Nat) {nm f bas qual : Str} {st : Stmt} (h : fx[i]? = some (.cls nm f bas) := by rfl) (hd : fn[j]? = some ⟨(nm, some "__init__"), "__init__", qual, defArgs st, defBody st, defScope st, [], []⟩ := by rfl) : ClsK K nm f bas qual st (He.ga K nm) := by
  have b := show klsB K nm f bas = true from c.fact i h
  unfold klsB at b
  obtain ⟨b1, b⟩ := ba b
  obtain ⟨b2, b⟩ := ba b
  obtain ⟨b3, b⟩ := ba b
  obtain ⟨b4, b⟩ := ba b
  obtain ⟨b5, b⟩ := ba b
  obtain ⟨b6, b⟩ := ba b
  obtain ⟨b7, b⟩ := ba b
  obtain ⟨b8, b⟩ := ba b
  obtain ⟨b9, b⟩ := ba b
  obtain ⟨b10, b⟩ := ba b
  obtain ⟨b11, b⟩ := ba b
  obtain ⟨b12, b⟩ := ba b
  obtain ⟨b13, b⟩ := ba b
  obtain ⟨b14, b⟩ := ba b
  obtain ⟨b15, b⟩ := ba b
  obtain ⟨b16, b⟩ := ba b
  obtain ⟨b17, b⟩ := ba b
  obtain ⟨b18, b⟩ := ba b
  obtain ⟨b19, b⟩ := ba b
  obtain ⟨b20, b21⟩ := ba b
  have b22 : PySem.W.findCls K (.ref (He.ga K bas)) (.type "type") "__init__" = some (.val (.builtin "ValueError.__init__")) := by
    split at b21
    · rename_i z e
      have e1 : z = "ValueError.__init__" := of_decide_eq_true b21
      subst e1
      exact e
    · cases b21
  obtain ⟨nm', q', N, bs, bm, sn, sub, ab, col, dd, k0, k1, k2, k3, k5, l1, l2⟩ := clB_ok b3
  obtain ⟨fd, ⟨oc, od, dV, kV, doc, pm, an, cdv, ct, osl, e, q1, q2, q3, q4⟩, kp⟩ := c.t.d.def_ j hd
  subst e
  have e2 : dV = .none := by
    rcases q3 with ⟨_, z⟩ | ⟨z, _⟩
    · exact z
    · exact absurd rfl z
  subst e2
  exact clsK_mk (eqO_ok b1) (eqO_ok b2) l1 l2 (eqO_ok b4) (eqO_ok b5) (eqO_ok b6) (eqO_ok b7) (eqO_ok b8) (of_decide_eq_true b9) q1 q2 kp b10 (of_decide_eq_true b11) (of_decide_eq_true b12) b13 (eqO_ok b14) (eqO_ok b15) (of_decide_eq_true b16) (of_decide_eq_true b17) (of_decide_eq_true b18) (eqO_ok b19) b20 b22
theorem SaysP.xisK (c : SaysP fx W fn ts w K) (i : Nat) {nm x : Str} {r : Bool} (h : fx[i]? = some (.xis nm x r) := by rfl) : XisK K x (He.ga K nm) r := by
  obtain ⟨h1, h2⟩ := ba (show (eqO (PySem.W.nsIn K mainGlobals x) (some (some (.ref (He.ga K x)))) && (decide (PySem.W.kitOne K (.ref (He.ga K nm)) (.ref (He.ga K x)) = some r) && decide (PySem.W.exmOne K (.ref (He.ga K nm)) (.ref (He.ga K x)) = some r))) = true from c.fact i h)
  obtain ⟨h3, h4⟩ := ba h2
  exact ⟨_, eqO_ok h1, of_decide_eq_true h3, of_decide_eq_true h4⟩
end
open PySem.Spec PyProof.Rows
/-- walkL over a head by facts -/
theorem walkP {l : PySem.W.OpenLaw} {m wf k fi : Nat} {q : Program} {loose : List Str} {XP : (Str → Option Value) → Heap → Prop} {YP : World → Heap → Prop} {d : DefRec} (L : Lw) (hm : l.most = some m) (hm2 : m ≤ sizeLine) (hdf : d.params.defaults = [])
    (room : Room (k + 1 + 64) callerA) (hY : ∀ (w : World) (h : Heap), YP w h → ∃ K : PySem.W.Frag, K.In h ∧ TopK L K w) (wok : WOk L.W) (hfi : L.fnm fi = some d.name)
    (law : ∀ ns : List Int, ns.length ≤ m → ∃ ps, callF L.fns L.gv wf (k + 1) fi [(false, .scr ns)] = some ((false, .bl true), ps)) :
    PySem.W.WalkO q loose XP YP l.row.toRowW d [] (fun f vs => PySem.call f vs) := by
  refine Att.attach_call hm hdf fun w s₀ st mg mb fa o pm cd doc a vs ns G Y ho hd hcd hmg ha hints hlen hg => ?_
  obtain ⟨K, kin, T⟩ := hY w _ Y
  obtain ⟨fn, x0, st0, ps0, N, h1, ⟨a0, oc, od, an, osl, kV, doc0, pm0, cdv, ct, q1, q2, q3, q4⟩, D⟩ := T.defs.get fi d.name hfi
  have e := (PySem.W.mg_of kin G.T.g q1).symm.trans hmg
  cases e
  have np1 : ps0.length = 1 := by
    rw [D.np]
    obtain ⟨r, hr⟩ := law [] (Nat.zero_le _)
    have e : callF L.fns L.gv wf (k + 1) fi = runF (callF L.fns L.gv wf k) L.gv wf fn := by
      funext as
      show (match L.fns fi with | some fn => runF (callF L.fns L.gv wf k) L.gv wf fn as | none => none) = _
      rw [show L.fns fi = some fn from h1]
    rw [e] at hr
    unfold runF at hr
    split at hr
    · rename_i hl
      exact hl.symm
    · cases hr
  match ps0, np1, D with
  | [p], _, D =>
    have U := fun_mk (st := st0) q2 q3 q4
    have hF : ∀ base : Heap, RunG ⟨l.prog, w, K, mg, base, L.W, L.fnm, L.gnm, L.gdm, L.gv, L.gms, L.xcl, L.xcs⟩ (k + 1) fa _ [p] (SpD ⟨K, L.W, w⟩ (callF L.fns L.gv wf (k + 1) fi)) := fun base => by
      have e : callF L.fns L.gv wf (k + 1) fi = runF (callF L.fns L.gv wf k) L.gv wf fn := by
        funext as
        show (match L.fns fi with | some fn => runF (callF L.fns L.gv wf k) L.gv wf fn as | none => none) = _
        rw [show L.fns fi = some fn from h1]
      rw [e]
      exact runG_of (T := L.tx l.prog w K mg base) (n := k) (top_ok kin G.T.g wok T) (top_defs kin G.T.g wok T wf k) U (U.binds D.bd) D.sc D.np D.ns D.ck
    have bd : ∀ (s : Shared) (u : Value), BindsTo s _ ⟨[u], []⟩ [(p, u)] := fun s u => .of_eq (D.bd kV doc0 pm0 an cdv ct [u] rfl)
    obtain ⟨ps, hl⟩ := law ns hlen
    have rv := vals_ints hints
    have lv := hints.length
    have big : ns.length ≤ sizeLine := Nat.le_trans hlen hm2
    have fin : ∀ H : Hp, SqL K H a (ns.map V.int) → (∀ b, H b ≠ none → b = a) → (H a ≠ none → K.lookup a = none) → HOk l.prog w H st.heap → (∀ b o, H b = some o → ∃ ob xs, o = .frz ob (.lst xs)) →
        codeAny (model l.prog w) callerA (.call (.ref fa) ⟨[.ref a], []⟩) (fun r s' => r = .ok (.ret (.bool true)) ∧ OldK st.heap s'.heap ∧ s'.os = st.os ∧ AllBare s'.gens) st := by
      intro H hS h1 h2 h3 h4
      obtain ⟨e0, kb, nb⟩ := env_of kin G.T.g G.T.b G.T.builtins G.T.nolimit hg ha h1 h2 h3
      exact headAt (T := ⟨l.prog, w, K, mg, hidT st.heap H, L.W, L.fnm, L.gnm, L.gdm, L.gv, L.gms, L.xcl, L.xcs⟩) (hF _) e0 room (bd _ _) hS hl h4
    cases hk : K.lookup a with
    | some ob =>
      have e := kin a ob hk
      rw [ha] at e
      cases e
      exact fin (fun _ => none) (.inr ⟨_, vs.toArray, _, hk, rfl, rfl, rfl, by rw [List.size_toArray, lv]; exact big, by simpa using rv⟩) (fun b z => absurd rfl z) (fun z => absurd rfl z) (fun b u z => nomatch (show (none : Option HO) = some u from z)) fun b u z => nomatch (show (none : Option HO) = some u from z)
    | none =>
      have at' : ∀ {b : Addr} {u : HO}, (if b = a then some (HO.frz { cls := .type "list", data := .seq vs.toArray } (.lst (ns.map V.int))) else none) = some u → b = a ∧ u = .frz { cls := .type "list", data := .seq vs.toArray } (.lst (ns.map V.int)) := by
        intro b u z
        by_cases hb : b = a
        · rw [if_pos hb] at z
          cases z
          exact ⟨hb, rfl⟩
        · rw [if_neg hb] at z
          cases z
      refine fin (fun b => if b = a then some (.frz { cls := .type "list", data := .seq vs.toArray } (.lst (ns.map V.int))) else none) (.inl (.inr ⟨{ cls := .type "list", data := .seq vs.toArray }, if_pos rfl⟩)) (fun b z => ?_) (fun _ => hk) (fun b u z => ?_) fun b u z => ⟨_, _, (at' z).2⟩
      · by_cases hb : b = a
        · exact hb
        · exact absurd (if_neg hb) z
      · obtain ⟨rfl, rfl⟩ := at' z
        exact ⟨ha, by rw [List.length_map]; exact big, vs, _, rv, ha⟩
end PD
/-! The data form of the text (printed by gen.py). -/
namespace K59
open PySem L2 PD
/-- _law_feed -/
def f0 : Fn := ⟨1, 1, (.cons (.ret (.lst (.cons (.bi .list (.slU (.var 0) (.cI 63))) (.cons (.cI 0) (.cons (.cI 0) (.cons (.cI 0) .nil)))))) .nil)⟩
/-- _law_take -/
def f1 : Fn := ⟨2, 5, (.cons (.setI 0 (.cI 3) (.bin .add (.idxV 0 (.cI 3)) (.cI 1))) (.cons (.ite (.cmp .gt (.idxV 0 (.cI 2)) (.cI 0)) (.cons (.asg 4 (.bin .mod (.idxV 0 (.cI 2)) (.var 1))) (.cons (.setI 0 (.cI 2) (.bin .fdiv (.idxV 0 (.cI 2)) (.var 1))) (.cons (.retV 4) .nil))) .nil) (.cons (.asg 2 (.cI 11)) (.cons (.ite (.cmp .gt (.bi .len (.idxV 0 (.cI 0))) (.cI 0)) (.cons (.asg 2 (.idx (.idxV 0 (.cI 0)) (.bin .mod (.idxV 0 (.cI 1)) (.bi .len (.idxV 0 (.cI 0)))))) .nil) .nil) (.cons (.setI 0 (.cI 1) (.bin .add (.idxV 0 (.cI 1)) (.cI 1))) (.cons (.ite (.and_ (.cmp .ge (.var 2) (.bin .pow (.cI 10) (.cI 18))) (.cmp .le (.idxV 0 (.cI 1)) (.bi .len (.idxV 0 (.cI 0))))) (.cons (.setI 0 (.cI 2) (.bin .fdiv (.var 2) (.var 1))) (.cons (.ret (.bin .mod (.var 2) (.var 1))) .nil)) .nil) (.cons (.asg 3 (.bin .mod (.bin .pow (.bin .add (.bin .mod (.var 2) (.cI 2147483629)) (.bin .mul (.cI 48271) (.idxV 0 (.cI 3)))) (.cI 5)) (.cI 2147483647))) (.cons (.asg 3 (.bin .mod (.bin .mul (.bin .add (.bin .fdiv (.var 3) (.cI 64)) (.cI 7919)) (.bin .pow (.bin .add (.bin .mul (.cI 2) (.idxV 0 (.cI 3))) (.cI 1)) (.cI 3))) (.cI 2147483587))) (.cons (.ret (.bin .mod (.bin .fdiv (.var 3) (.cI 64)) (.var 1))) .nil)))))))))⟩
/-- _law_told -/
def f2 : Fn := ⟨3, 6, (.cons (.asg 3 (.tup (.cons (.cW 15) (.cons (.cW 16) .nil)))) (.cons (.tryA (.cons (.asgX 3 (.pre (.cW 2) 12 (.cons (.var 0) (.cons (.var 1) (.cons (.var 2) .nil))))) .nil) 0 4 [(3, 4)] (.asg 5 (.one (.isE [5, 6, 7, 8, 9, 10, 11, 12, 13, 14])) (.ite [(false, (.isE [3])), (true, (.var 5)), (false, (.isE [1]))] (.asg 3 (.tup [(.wd 15), (.fld 4)]) .nil) .nil))) (.cons (.retV 3) .nil)))⟩
/-- _law_tree -/
def f3 : Fn := ⟨1, 3, (.cons (.asg 1 (.tup (.cons (.cW 18) .nil))) (.cons (.for_ (.one 2) (.rng1 (.bin .sub (.var 0) (.cI 1))) (.cons (.asg 1 (.tup (.cons (.cW 17) (.cons (.var 1) (.cons (.var 1) .nil))))) .nil)) (.cons (.retV 1) .nil)))⟩
/-- _law_chain -/
def f4 : Fn := ⟨3, 4, (.cons (.for_ (.one 3) (.rng1 (.var 1)) (.cons (.asg 2 (.tup (.cons (.var 0) (.cons (.var 2) .nil)))) .nil)) (.cons (.retV 2) .nil))⟩
/-- _law_many_right -/
def f5 : Fn := ⟨1, 6, (.cons (.asgP 4 5 (.call 3 (.cons (.cI 7) .nil)) (.call 4 (.cons (.cW 22) (.cons (.bin .add (.cI 15) (.var 0)) (.cons (.tup (.cons (.cW 18) .nil)) .nil))))) (.cons (.asg 1 (.tup (.cons (.cW 17) (.cons (.var 4) (.cons (.tup (.cons (.cW 21) (.cons (.var 4) (.cons (.var 5) .nil)))) .nil))))) (.cons (.asg 2 (.tup (.cons (.cW 21) (.cons (.tup (.cons (.cW 17) (.cons (.var 4) (.cons (.var 4) .nil)))) (.cons (.tup (.cons (.cW 17) (.cons (.var 4) (.cons (.var 5) .nil)))) .nil))))) (.cons (.asg 3 (.call 2 (.cons (.tup .nil) (.cons (.var 1) (.cons (.tup (.cons (.cW 20) (.cons (.tup .nil) (.cons (.cB false) (.cons (.tup .nil) .nil))))) .nil))))) (.cons (.ret (.cmp .eq (.bi .repr (.var 3)) (.bi .repr (.ite (.cmp .gt (.var 0) (.cI 0)) (.tup (.cons (.cW 15) (.cons (.cW 19) .nil))) (.tup (.cons (.cW 2) (.cons (.var 2) .nil))))))) .nil)))))⟩
/-- _law_deep_right -/
def f6 : Fn := ⟨2, 7, (.cons (.asg 2 (.idx (.lst (.cons (.tup (.cons (.cW 26) .nil)) (.cons (.tup (.cons (.cW 18) .nil)) (.cons (.tup (.cons (.cW 31) .nil)) .nil)))) (.call 1 (.cons (.var 0) (.cons (.cI 3) .nil))))) (.cons (.asg 3 (.call 4 (.cons (.cW 22) (.cons (.bin .add (.cI 38) (.var 1)) (.cons (.var 2) .nil))))) (.cons (.asg 4 (.call 2 (.cons (.tup .nil) (.cons (.var 3) (.cons (.tup (.cons (.cW 30) (.cons (.tup .nil) (.cons (.cB true) (.cons (.tup .nil) .nil))))) .nil))))) (.cons (.ite (.cmp .ne (.bi .repr (.var 4)) (.bi .repr (.ite (.cmp .gt (.var 1) (.cI 0)) (.tup (.cons (.cW 15) (.cons (.cW 19) .nil))) (.tup (.cons (.cW 2) (.cons (.tup (.cons (.cW 21) (.cons (.tup (.cons (.cW 25) .nil)) (.cons (.var 3) .nil)))) .nil)))))) (.cons (.ret (.cB false)) .nil) .nil) (.cons (.asg 5 (.tup (.cons (.cW 29) (.cons (.var 2) .nil)))) (.cons (.asg 6 (.tup (.cons (.cW 21) (.cons (.var 2) (.cons (.tup (.cons (.cW 27) (.cons (.tup (.cons (.cW 26) .nil)) (.cons (.tup (.cons (.cW 25) .nil)) .nil)))) .nil))))) (.cons (.asg 4 (.call 2 (.cons (.tup .nil) (.cons (.var 6) (.cons (.tup (.cons (.cW 28) (.cons (.tup (.cons (.cI 1) (.cons (.cI 1) .nil))) (.cons (.cB true) (.cons (.tup (.cons (.var 5) .nil)) .nil))))) .nil))))) (.cons (.ite (.cmp .ne (.bi .repr (.var 4)) (.bi .repr (.tup (.cons (.cW 2) (.cons (.tup (.cons (.cW 21) (.cons (.var 2) (.cons (.tup (.cons (.cW 27) (.cons (.tup (.cons (.cW 26) .nil)) (.cons (.tup (.cons (.cW 17) (.cons (.tup (.cons (.cW 25) .nil)) (.cons (.var 5) .nil)))) .nil)))) .nil)))) .nil))))) (.cons (.ret (.cB false)) .nil) .nil) (.cons (.ret (.cmp .eq (.call 2 (.cons (.tup .nil) (.cons (.var 6) (.cons (.tup (.cons (.cW 23) (.cons (.tup (.cons (.cI 1) (.cons (.cI 1) .nil))) (.cons (.cB true) (.cons (.tup .nil) .nil))))) .nil)))) (.tup (.cons (.cW 15) (.cons (.cW 24) .nil))))) .nil)))))))))⟩
/-- _law_holes_right -/
def f7 : Fn := ⟨2, 6, (.cons (.asg 2 (.tup (.cons (.cW 22) (.cons (.idx (.lst (.cons (.tup (.cons (.cW 26) .nil)) (.cons (.tup (.cons (.cW 31) .nil)) (.cons (.tup (.cons (.cW 17) (.cons (.tup (.cons (.cW 18) .nil)) (.cons (.tup (.cons (.cW 26) .nil)) .nil)))) .nil)))) (.call 1 (.cons (.var 0) (.cons (.cI 3) .nil)))) .nil)))) (.cons (.asg 3 (.bin .mul (.tup (.cons (.cI 0) .nil)) (.bin .add (.cI 2) (.var 1)))) (.cons (.asg 4 (.call 2 (.cons (.tup .nil) (.cons (.call 4 (.cons (.cW 29) (.cons (.bin .add (.cI 2) (.var 1)) (.cons (.var 2) .nil)))) (.cons (.tup (.cons (.cW 22) (.cons (.var 3) (.cons (.cB false) (.cons (.tup .nil) .nil))))) .nil))))) (.cons (.asg 5 (.call 4 (.cons (.cW 29) (.cons (.bin .add (.cI 2) (.var 1)) (.cons (.tup (.cons (.cW 17) (.cons (.tup (.cons (.cW 18) .nil)) (.cons (.tup (.cons (.cW 29) (.cons (.idxV 2 (.cI 1)) .nil))) .nil)))) .nil))))) (.cons (.ret (.cmp .eq (.bi .repr (.var 4)) (.bi .repr (.ite (.cmp .gt (.var 1) (.cI 0)) (.tup (.cons (.cW 15) (.cons (.cW 19) .nil))) (.tup (.cons (.cW 2) (.cons (.var 5) .nil))))))) .nil)))))⟩
/-- _law_rule_right -/
def f8 : Fn := ⟨1, 5, (.cons (.asg 1 (.tup (.cons (.cW 17) (.cons (.tup (.cons (.cW 18) .nil)) (.cons (.idx (.lst (.cons (.tup (.cons (.cW 26) .nil)) (.cons (.tup (.cons (.cW 18) .nil)) (.cons (.tup (.cons (.cW 31) .nil)) .nil)))) (.call 1 (.cons (.var 0) (.cons (.cI 3) .nil)))) .nil))))) (.cons (.asg 2 (.tup (.cons (.tup (.cons (.cW 21) (.cons (.tup (.cons (.cW 34) .nil)) (.cons (.tup (.cons (.cW 17) (.cons (.tup (.cons (.cW 18) .nil)) (.cons (.tup (.cons (.cW 32) (.cons (.cI 0) .nil))) .nil)))) .nil)))) (.cons (.var 1) .nil)))) (.cons (.asg 3 (.tup (.cons (.cW 32) (.cons (.tup (.cons (.cI 0) .nil)) (.cons (.cB true) (.cons (.tup (.cons (.cI 1) .nil)) .nil)))))) (.cons (.ite (.cmp .ne (.call 2 (.cons (.var 2) (.cons (.tup (.cons (.cW 29) (.cons (.var 1) .nil))) (.cons (.var 3) .nil)))) (.tup (.cons (.cW 15) (.cons (.cW 24) .nil)))) (.cons (.ret (.cB false)) .nil) .nil) (.cons (.asg 4 (.tup (.cons (.cW 2) (.cons (.tup (.cons (.cW 17) (.cons (.tup (.cons (.cW 32) (.cons (.cI 1) .nil))) (.cons (.tup (.cons (.cW 29) (.cons (.var 1) .nil))) .nil)))) .nil)))) (.cons (.ite (.cmp .ne (.bi .repr (.call 2 (.cons (.var 2) (.cons (.tup (.cons (.cW 17) (.cons (.var 1) (.cons (.tup (.cons (.cW 29) (.cons (.var 1) .nil))) .nil)))) (.cons (.var 3) .nil))))) (.bi .repr (.var 4))) (.cons (.ret (.cB false)) .nil) .nil) (.cons (.ret (.cmp .eq (.call 2 (.cons (.var 2) (.cons (.tup (.cons (.cW 29) (.cons (.var 1) .nil))) (.cons (.tup (.cons (.cW 32) (.cons (.tup (.cons (.cI 0) .nil)) (.cons (.cB true) (.cons (.tup (.cons (.cI 0) .nil)) .nil))))) .nil)))) (.tup (.cons (.cW 15) (.cons (.cW 33) .nil))))) .nil)))))))⟩
/-- _law_blocks_right -/
def f9 : Fn := ⟨1, 9, (.cons (.asg 1 (.idx (.lst (.cons (.tup (.cons (.cW 26) .nil)) (.cons (.tup (.cons (.cW 31) .nil)) (.cons (.tup (.cons (.cW 34) .nil)) (.cons (.tup (.cons (.cW 22) (.cons (.tup (.cons (.cW 26) .nil)) .nil))) (.cons (.tup (.cons (.cW 18) .nil)) (.cons (.tup (.cons (.cW 29) (.cons (.tup (.cons (.cW 26) .nil)) .nil))) .nil))))))) (.call 1 (.cons (.var 0) (.cons (.cI 6) .nil))))) (.cons (.asg 2 (.cmp .isin (.idxV 1 (.cI 0)) (.tup (.cons (.cW 22) (.cons (.cW 18) .nil))))) (.cons (.for_ (.two 5 6) (.seq (.lst (.cons (.tup (.cons (.cW 38) (.cons (.var 1) .nil))) (.cons (.tup (.cons (.cW 35) (.cons (.tup (.cons (.cW 34) .nil)) .nil))) (.cons (.tup (.cons (.cW 37) (.cons (.tup (.cons (.cW 25) .nil)) .nil))) .nil))))) (.cons (.asg 7 (.tup (.cons (.var 5) (.cons (.tup .nil) (.cons (.cB true) (.cons (.bin .mul (.tup (.cons (.var 1) .nil)) (.bi .int (.cmp .ne (.var 5) (.cW 38)))) .nil)))))) (.cons (.asg 8 (.tup (.cons (.cW 2) (.cons (.tup (.cons (.cW 27) (.cons (.ite (.cmp .eq (.var 5) (.cW 38)) (.tup (.cons (.cW 18) .nil)) (.var 6)) (.cons (.var 1) .nil)))) .nil)))) (.cons (.ite (.cmp .ne (.bi .repr (.call 2 (.cons (.tup .nil) (.cons (.var 6) (.cons (.var 7) .nil))))) (.bi .repr (.ite (.var 2) (.var 8) (.tup (.cons (.cW 15) (.cons (.cW 24) .nil)))))) (.cons (.ret (.cB false)) .nil) .nil) .nil)))) (.cons (.asg 3 (.tup (.cons (.cW 26) .nil))) (.cons (.for_ (.one 4) (.rng1 (.cI 38)) (.cons (.asg 3 (.tup (.cons (.cW 36) (.cons (.var 3) (.cons (.cI 0) (.cons (.cI 20) .nil)))))) .nil)) (.cons (.ret (.cmp .eq (.call 2 (.cons (.tup .nil) (.cons (.tup (.cons (.cW 21) (.cons (.tup (.cons (.cW 34) .nil)) (.cons (.var 3) .nil)))) (.cons (.tup (.cons (.cW 35) (.cons (.tup (.cons (.cI 0) .nil)) (.cons (.cB true) (.cons (.tup (.cons (.var 3) .nil)) .nil))))) .nil)))) (.tup (.cons (.cW 15) (.cons (.cW 19) .nil))))) .nil))))))⟩
/-- _law_long_right -/
def f10 : Fn := ⟨1, 10, (.cons (.asg 1 (.bin .add (.cI 20) (.call 1 (.cons (.var 0) (.cons (.cI 19) .nil))))) (.cons (.asg 2 (.call 1 (.cons (.var 0) (.cons (.cI 100) .nil)))) (.cons (.asg 3 (.tup (.cons (.cW 30) (.cons (.bin .mul (.tup (.cons (.cI 0) .nil)) (.var 1)) (.cons (.cB true) (.cons (.tup .nil) .nil)))))) (.cons (.asgQ 7 8 9 (.tup (.cons (.cW 26) .nil)) (.tup (.cons (.cW 26) (.cons (.tup (.cons (.var 2) .nil)) .nil))) (.tup (.cons (.cW 21) (.cons (.cI 1) (.cons (.tup (.cons (.cW 26) (.cons (.tup (.cons (.var 2) .nil)) .nil))) .nil))))) (.cons (.asg 4 (.tup (.cons (.cW 21) (.cons (.tup (.cons (.cW 25) .nil)) (.cons (.tup (.cons (.cW 26) .nil)) .nil))))) (.cons (.for_ (.one 5) (.rng1 (.var 1)) (.cons (.asgT [7, 4, 8, 9] (.tup (.cons (.tup (.cons (.cW 22) (.cons (.var 7) .nil))) (.cons (.tup (.cons (.cW 22) (.cons (.var 4) .nil))) (.cons (.tup (.cons (.cW 22) (.cons (.var 2) (.cons (.var 8) .nil)))) (.cons (.tup (.cons (.cW 22) (.cons (.var 2) (.cons (.var 9) .nil)))) .nil)))))) .nil)) (.cons (.ite (.or_ (.cmp .ne (.bi .repr (.call 2 (.cons (.tup .nil) (.cons (.var 7) (.cons (.var 3) .nil))))) (.bi .repr (.tup (.cons (.cW 2) (.cons (.var 4) .nil))))) (.cmp .ne (.bi .repr (.call 40 (.cons (.tup .nil) (.cons (.var 7) (.cons (.tup (.cons (.var 3) .nil)) (.cons (.var 8) .nil)))))) (.bi .repr (.var 9)))) (.cons (.ret (.cB false)) .nil) .nil) (.cons (.asg 6 (.call 45 (.cons (.tup .nil) (.cons (.var 7) (.cons (.tup (.cons (.var 3) .nil)) .nil))))) (.cons (.ret (.and_ (.cmp .eq (.bi .repr (.var 6)) (.bi .repr (.tup (.cons (.bin .add (.slU (.var 3) (.cI 2)) (.tup (.cons (.cB false) (.cons (.tup .nil) .nil)))) .nil)))) (.cmp .eq (.bi .repr (.call 40 (.cons (.tup .nil) (.cons (.var 4) (.cons (.var 6) (.cons (.var 9) .nil)))))) (.bi .repr (.var 8))))) .nil)))))))))⟩
/-- law -/
def f11 : Fn := ⟨1, 5, (.cons (.asg 1 (.call 0 (.cons (.var 0) .nil))) (.cons (.for_ (.one 2) (.rng1 (.cI 2)) (.cons (.asgP 3 4 (.call 1 (.cons (.var 1) (.cons (.cI 6) .nil))) (.call 1 (.cons (.var 1) (.cons (.cI 2) .nil)))) (.cons (.ite (.and_ (.cmp .eq (.var 3) (.cI 0)) (.not_ (.call 5 (.cons (.var 4) .nil)))) (.cons (.ret (.cB false)) .nil) .nil) (.cons (.ite (.and_ (.cmp .eq (.var 3) (.cI 1)) (.not_ (.call 6 (.cons (.var 1) (.cons (.var 4) .nil))))) (.cons (.ret (.cB false)) .nil) .nil) (.cons (.ite (.and_ (.cmp .eq (.var 3) (.cI 2)) (.not_ (.call 7 (.cons (.var 1) (.cons (.var 4) .nil))))) (.cons (.ret (.cB false)) .nil) .nil) (.cons (.ite (.and_ (.cmp .eq (.var 3) (.cI 3)) (.not_ (.call 8 (.cons (.var 1) .nil)))) (.cons (.ret (.cB false)) .nil) .nil) (.cons (.ite (.and_ (.cmp .eq (.var 3) (.cI 4)) (.not_ (.call 9 (.cons (.var 1) .nil)))) (.cons (.ret (.cB false)) .nil) .nil) (.cons (.ite (.and_ (.cmp .eq (.var 3) (.cI 5)) (.not_ (.call 10 (.cons (.var 1) .nil)))) (.cons (.ret (.cB false)) .nil) .nil) .nil)))))))) (.cons (.ret (.cB true)) .nil)))⟩
/-- moved_by -/
def f12 : Fn := ⟨3, 7, (.cons (.ite (.not_ (.call 13 (.cons (.bi .len (.var 0)) (.cons (.var 2) .nil)))) (.cons (.raise 3 4 (.cW 40)) .nil) .nil) (.cons (.asg 3 (.call 22 (.cons (.var 1) (.cons (.idxV 2 (.cI 1)) .nil)))) (.cons (.ite (.cmp .isN (.var 3) .cN) (.cons (.raise 3 4 (.cW 39)) .nil) .nil) (.cons (.asg 4 (.call 25 (.cons (.var 0) (.cons (.var 2) (.cons (.var 3) .nil))))) (.cons (.ite (.cmp .isN (.var 4) .cN) (.cons (.raise 3 4 (.cW 33)) .nil) .nil) (.cons (.asg 5 (.call 24 (.cons (.var 1) (.cons (.idxV 2 (.cI 1)) (.cons (.var 4) .nil))))) (.cons (.asg 6 (.call 19 (.cons (.bi .len (.var 0)) (.cons (.var 5) .nil)))) (.cons (.ite (.not_ (.call 21 (.cons (.var 6) .nil))) (.cons (.raise 3 4 (.cW 19)) .nil) .nil) (.cons (.ite (.or_ (.idxV 6 (.cI 4)) (.not_ (.call 30 (.cons (.var 0) (.cons (.var 5) .nil))))) (.cons (.raise 3 4 (.cW 24)) .nil) .nil) (.cons (.retV 5) .nil))))))))))⟩
/-- is_step -/
def f13 : Fn := ⟨2, 6, (.cons (.ite (.or_ (.not_ (.isi .tup (.var 1))) (.cmp .ne (.bi .len (.var 1)) (.cI 4))) (.cons (.ret (.cB false)) .nil) .nil) (.cons (.asgT [2, 3, 4, 5] (.var 1)) (.cons (.ite (.or_ (.not_ (.call 14 (.cons (.var 2) .nil))) (.or_ (.not_ (.call 15 (.cons (.var 3) .nil))) (.not_ (.isi .bool (.var 4))))) (.cons (.ret (.cB false)) .nil) .nil) (.cons (.ret (.call 17 (.cons (.var 0) (.cons (.var 2) (.cons (.var 4) (.cons (.var 5) .nil)))))) .nil))))⟩
/-- is_word -/
def f14 : Fn := ⟨1, 1, (.cons (.ite (.not_ (.isi .str (.var 0))) (.cons (.ret (.cB false)) .nil) .nil) (.cons (.ret (.or_ (.cmp .isin (.var 0) (.gl 0)) (.or_ (.cmp .isin (.var 0) (.gl 1)) (.or_ (.cmp .isin (.var 0) (.gl 2)) (.or_ (.cmp .isin (.var 0) (.gl 3)) (.cmp .isin (.var 0) (.gl 4))))))) .nil))⟩
/-- is_path -/
def f15 : Fn := ⟨1, 2, (.cons (.ite (.or_ (.not_ (.isi .tup (.var 0))) (.cmp .gt (.bi .len (.var 0)) (.gl 12))) (.cons (.ret (.cB false)) .nil) .nil) (.cons (.ret (.bi .all (.comp (.one 1) (.seq (.var 0)) .nil (.call 16 (.cons (.var 1) (.cons (.cI 0) (.cons (.cI 1) .nil))))))) .nil))⟩
/-- is_whole -/
def f16 : Fn := ⟨3, 3, (.cons (.ret (.and_ (.isi .int (.var 0)) (.and_ (.not_ (.isi .bool (.var 0))) (.ch .le .le (.var 1) (.var 0) (.var 2))))) .nil)⟩
/-- is_extra -/
def f17 : Fn := ⟨4, 4, (.cons (.ite (.not_ (.isi .tup (.var 3))) (.cons (.ret (.cB false)) .nil) .nil) (.cons (.ite (.and_ (.cmp .eq (.var 1) (.cW 41)) (.not_ (.var 2))) (.cons (.ret (.and_ (.cmp .eq (.bi .len (.var 3)) (.cI 1)) (.call 16 (.cons (.idxV 3 (.cI 0)) (.cons (.cI 0) (.cons (.gl 13) .nil)))))) .nil) .nil) (.cons (.ite (.and_ (.cmp .eq (.var 1) (.cW 32)) (.var 2)) (.cons (.ret (.and_ (.cmp .eq (.bi .len (.var 3)) (.cI 1)) (.call 16 (.cons (.idxV 3 (.cI 0)) (.cons (.cI 0) (.cons (.bin .sub (.var 0) (.cI 1)) .nil)))))) .nil) .nil) (.cons (.ite (.and_ (.cmp .isin (.var 1) (.gl 5)) (.var 2)) (.cons (.ret (.and_ (.cmp .eq (.bi .len (.var 3)) (.cI 1)) (.call 18 (.cons (.var 0) (.cons (.idxV 3 (.cI 0)) .nil))))) .nil) .nil) (.cons (.ret (.cmp .eq (.bi .len (.var 3)) (.cI 0))) .nil)))))⟩
/-- is_wide -/
def f18 : Fn := ⟨2, 3, (.cons (.asg 2 (.call 19 (.cons (.var 0) (.cons (.var 1) .nil)))) (.cons (.ret (.and_ (.cmp .notN (.var 2) .cN) (.and_ (.call 21 (.cons (.var 2) .nil)) (.not_ (.idxV 2 (.cI 4)))))) .nil))⟩
/-- measured -/
def f19 : Fn := ⟨2, 11, (.cons (.asg 2 (.call 20 (.cons (.var 0) (.cons (.var 1) .nil)))) (.cons (.ite (.cmp .isN (.var 2) .cN) (.cons (.ret .cN) .nil) .nil) (.cons (.asgT [5, 6, 7, 8, 9] (.tup (.cons (.cI 1) (.cons (.cI 0) (.cons (.cI 0) (.cons (.cmp .eq (.idxV 1 (.cI 0)) (.cW 32)) (.cons (.cB false) .nil))))))) (.cons (.for_ (.one 3) (.seq (.var 2)) (.cons (.asg 10 (.call 19 (.cons (.var 0) (.cons (.var 3) .nil)))) (.cons (.ite (.cmp .isN (.var 10) .cN) (.cons (.ret .cN) .nil) .nil) (.cons (.asg 5 (.bin .add (.var 5) (.idxV 10 (.cI 0)))) (.cons (.asg 6 (.b2 .max (.var 6) (.idxV 10 (.cI 1)))) (.cons (.asg 7 (.b2 .max (.var 7) (.idxV 10 (.cI 2)))) (.cons (.asg 8 (.or_ (.var 8) (.idxV 10 (.cI 3)))) (.cons (.asg 9 (.or_ (.var 9) (.idxV 10 (.cI 4)))) .nil)))))))) (.cons (.asg 4 (.cmp .eq (.idxV 1 (.cI 0)) (.cW 29))) (.cons (.ret (.tup (.cons (.var 5) (.cons (.bin .add (.var 6) (.cI 1)) (.cons (.bin .add (.var 7) (.bi .int (.var 4))) (.cons (.var 8) (.cons (.or_ (.var 9) (.and_ (.var 4) (.var 8))) .nil))))))) .nil))))))⟩
/-- inner_of -/
def f20 : Fn := ⟨2, 3, (.cons (.ite (.or_ (.not_ (.isi .tup (.var 1))) (.or_ (.cmp .eq (.bi .len (.var 1)) (.cI 0)) (.not_ (.isi .str (.idxV 1 (.cI 0)))))) (.cons (.ret .cN) .nil) .nil) (.cons (.asg 2 (.idxV 1 (.cI 0))) (.cons (.ite (.and_ (.cmp .isin (.var 2) (.gl 6)) (.cmp .eq (.bi .len (.var 1)) (.cI 1))) (.cons (.ret (.lst .nil)) .nil) .nil) (.cons (.ite (.and_ (.cmp .isin (.var 2) (.gl 7)) (.cmp .eq (.bi .len (.var 1)) (.cI 3))) (.cons (.ret (.lst (.cons (.idxV 1 (.cI 1)) (.cons (.idxV 1 (.cI 2)) .nil)))) .nil) .nil) (.cons (.ite (.and_ (.cmp .isin (.var 2) (.gl 8)) (.cmp .eq (.bi .len (.var 1)) (.cI 2))) (.cons (.ret (.lst (.cons (.idxV 1 (.cI 1)) .nil))) .nil) .nil) (.cons (.ite (.and_ (.cmp .eq (.var 2) (.cW 32)) (.and_ (.cmp .eq (.bi .len (.var 1)) (.cI 2)) (.call 16 (.cons (.idxV 1 (.cI 1)) (.cons (.cI 0) (.cons (.bin .sub (.var 0) (.cI 1)) .nil)))))) (.cons (.ret (.lst .nil)) .nil) .nil) (.cons (.ite (.or_ (.cmp .ne (.var 2) (.cW 36)) (.or_ (.cmp .ne (.bi .len (.var 1)) (.cI 4)) (.not_ (.call 16 (.cons (.idxV 1 (.cI 2)) (.cons (.cI 0) (.cons (.gl 13) .nil))))))) (.cons (.ret .cN) .nil) .nil) (.cons (.ret (.ite (.call 16 (.cons (.idxV 1 (.cI 3)) (.cons (.idxV 1 (.cI 2)) (.cons (.gl 13) .nil)))) (.lst (.cons (.idxV 1 (.cI 1)) .nil)) .cN)) .nil))))))))⟩
/-- fits_wide -/
def f21 : Fn := ⟨1, 1, (.cons (.ret (.and_ (.cmp .le (.idxV 0 (.cI 0)) (.gl 9)) (.and_ (.cmp .le (.idxV 0 (.cI 1)) (.gl 10)) (.cmp .le (.idxV 0 (.cI 2)) (.gl 11))))) .nil)⟩
/-- part_at -/
def f22 : Fn := ⟨2, 4, (.cons (.asg 2 (.var 0)) (.cons (.for_ (.one 3) (.seq (.var 1)) (.cons (.ite (.cmp .ge (.var 3) (.call 23 (.cons (.var 2) .nil))) (.cons (.ret .cN) .nil) .nil) (.cons (.asg 2 (.idxV 2 (.bin .add (.cI 1) (.var 3)))) .nil))) (.cons (.retV 2) .nil)))⟩
/-- parts_many -/
def f23 : Fn := ⟨1, 1, (.cons (.ite (.cmp .isin (.idxV 0 (.cI 0)) (.gl 7)) (.cons (.ret (.cI 2)) .nil) .nil) (.cons (.ret (.bi .int (.or_ (.cmp .isin (.idxV 0 (.cI 0)) (.gl 8)) (.cmp .eq (.idxV 0 (.cI 0)) (.cW 36))))) .nil))⟩
/-- put_at -/
def f24 : Fn := ⟨3, 4, (.cons (.ite (.cmp .eq (.bi .len (.var 1)) (.cI 0)) (.cons (.retV 2) .nil) .nil) (.cons (.asg 3 (.bin .add (.cI 1) (.idxV 1 (.cI 0)))) (.cons (.ret (.bin .add (.bin .add (.slU (.var 0) (.var 3)) (.tup (.cons (.call 24 (.cons (.idxV 0 (.var 3)) (.cons (.slL (.var 1) (.cI 1)) (.cons (.var 2) .nil)))) .nil))) (.slL (.var 0) (.bin .add (.var 3) (.cI 1))))) .nil)))⟩
/-- other_side -/
def f25 : Fn := ⟨3, 9, (.cons (.asgT [5, 6, 7, 8] (.var 1)) (.cons (.ite (.cmp .eq (.var 5) (.cW 32)) (.cons (.ret (.call 26 (.cons (.var 0) (.cons (.var 7) (.cons (.var 8) (.cons (.var 2) .nil)))))) .nil) .nil) (.cons (.asg 3 (.gget 17 (.var 5))) (.cons (.asg 4 .dnew) (.cons (.ite (.or_ (.not_ (.call 27 (.cons (.idxV 3 (.bi .int (.var 7))) (.cons (.var 2) (.cons (.var 4) .nil))))) (.not_ (.call 29 (.cons (.var 5) (.cons (.var 7) (.cons (.var 8) (.cons (.var 4) .nil))))))) (.cons (.ret .cN) .nil) .nil) (.cons (.ite (.and_ (.din true (.cW 42) 4) (.cmp .gt (.bi .len (.var 8)) (.cI 0))) (.cons (.dput 4 (.cW 42) (.idxV 8 (.cI 0))) .nil) .nil) (.cons (.ret (.call 28 (.cons (.idxV 3 (.bin .sub (.cI 1) (.bi .int (.var 7)))) (.cons (.var 4) .nil)))) .nil)))))))⟩
/-- ruled_side -/
def f26 : Fn := ⟨4, 4, (.cons (.ite (.var 1) (.cons (.ret (.ite (.cmp .eq (.var 3) (.idxV 0 (.idxV 2 (.cI 0)))) (.tup (.cons (.cW 32) (.cons (.idxV 2 (.cI 0)) .nil))) .cN)) .nil) .nil) (.cons (.ret (.ite (.cmp .eq (.idxV 3 (.cI 0)) (.cW 32)) (.idxV 0 (.idxV 3 (.cI 1))) .cN)) .nil))⟩
/-- fits -/
def f27 : Fn := ⟨3, 4, (.cons (.ite (.isi .str (.var 0)) (.cons (.ite (.din true (.var 0) 2) (.cons (.dput 2 (.var 0) (.var 1)) .nil) .nil) (.cons (.ret (.cmp .eq (.dget 2 (.var 0)) (.var 1))) .nil)) .nil) (.cons (.ite (.not_ (.isi .tup (.var 0))) (.cons (.ret (.cmp .eq (.var 0) (.var 1))) .nil) .nil) (.cons (.ite (.or_ (.cmp .ne (.bi .len (.var 1)) (.bi .len (.var 0))) (.cmp .ne (.idxV 1 (.cI 0)) (.idxV 0 (.cI 0)))) (.cons (.ret (.cB false)) .nil) .nil) (.cons (.ret (.bi .all (.comp (.one 3) (.rng2 (.cI 1) (.bi .len (.var 0))) .nil (.call 27 (.cons (.idxV 0 (.var 3)) (.cons (.idxV 1 (.var 3)) (.cons (.var 2) .nil))))))) .nil))))⟩
/-- filled -/
def f28 : Fn := ⟨2, 3, (.cons (.ite (.isi .str (.var 0)) (.cons (.ret (.dget 1 (.var 0))) .nil) .nil) (.cons (.ite (.not_ (.isi .tup (.var 0))) (.cons (.retV 0) .nil) .nil) (.cons (.ret (.bin .add (.slU (.var 0) (.cI 1)) (.bi .tuple (.comp (.one 2) (.seq (.slL (.var 0) (.cI 1))) .nil (.call 28 (.cons (.var 2) (.cons (.var 1) .nil))))))) .nil)))⟩
/-- sizes_fit -/
def f29 : Fn := ⟨4, 4, (.cons (.ite (.and_ (.cmp .eq (.var 0) (.cW 41)) (.not_ (.var 1))) (.cons (.dput 3 (.cW 44) (.idxV 2 (.cI 0))) (.cons (.dput 3 (.cW 46) (.bin .add (.idxV 2 (.cI 0)) (.cI 1))) (.cons (.ret (.ch .le .lt (.dget 3 (.cW 47)) (.idxV 2 (.cI 0)) (.dget 3 (.cW 45)))) .nil))) .nil) (.cons (.ite (.cmp .eq (.var 0) (.cW 41)) (.cons (.ret (.cmp .eq (.dget 3 (.cW 46)) (.bin .add (.dget 3 (.cW 44)) (.cI 1)))) .nil) .nil) (.cons (.ite (.and_ (.cmp .eq (.var 0) (.cW 43)) (.not_ (.var 1))) (.cons (.dput 3 (.cW 44) (.bin .add (.dget 3 (.cW 47)) (.cI 1))) (.cons (.dput 3 (.cW 46) (.bin .add (.dget 3 (.cW 45)) (.cI 1))) (.cons (.ret (.cmp .lt (.dget 3 (.cW 45)) (.gl 16))) .nil))) .nil) (.cons (.ite (.cmp .eq (.var 0) (.cW 43)) (.cons (.dput 3 (.cW 47) (.bin .sub (.dget 3 (.cW 44)) (.cI 1))) (.cons (.dput 3 (.cW 45) (.bin .sub (.dget 3 (.cW 46)) (.cI 1))) (.cons (.ret (.cmp .gt (.dget 3 (.cW 44)) (.cI 0))) .nil))) .nil) (.cons (.ret (.cB true)) .nil)))))⟩
/-- is_right -/
def f30 : Fn := ⟨2, 2, (.cons (.ret (.and_ (.cmp .notN (.call 31 (.cons (.var 0) .nil)) .cN) (.call 35 (.cons (.call 32 (.cons (.var 0) .nil)) (.cons (.var 1) .nil))))) .nil)⟩
/-- found_told -/
def f31 : Fn := ⟨1, 8, (.cons (.asg 1 (.call 32 (.cons (.var 0) .nil))) (.cons (.ite (.not_ (.bi .all (.comp (.one 6) (.seq (.var 0)) .nil (.call 35 (.cons (.var 1) (.cons (.var 6) .nil)))))) (.cons (.ret .cN) .nil) .nil) (.cons (.asg 2 .dnew) (.cons (.for_ (.one 3) (.rng1 (.bi .len (.var 0))) (.cons (.for_ (.one 4) (.rng1 (.bi .len (.var 0))) (.cons (.asg 5 (.call 38 (.cons (.var 1) (.cons (.idxV 0 (.var 4)) .nil)))) (.cons (.ite (.and_ (.din true (.var 4) 2) (.bi .all (.comp (.one 7) (.seq (.var 5)) .nil (.din false (.var 7) 2)))) (.cons (.dput 2 (.var 4) (.maxD (.comp (.one 7) (.seq (.var 5)) .nil (.bin .add (.dget 2 (.var 7)) (.cI 1))) (.cI 0))) .nil) .nil) .nil))) .nil)) (.cons (.ite (.cmp .lt (.bi .len (.var 2)) (.bi .len (.var 0))) (.cons (.ret .cN) .nil) .nil) (.cons (.ret (.tup (.cons (.var 1) (.cons (.bi .tuple (.comp (.one 4) (.rng1 (.bi .len (.var 0))) .nil (.dget 2 (.var 4)))) .nil)))) .nil))))))⟩
/-- greatest_lows -/
def f32 : Fn := ⟨1, 4, (.cons (.asg 1 (.bin .mul (.tup (.cons (.gl 14) .nil)) (.bi .len (.var 0)))) (.cons (.asg 2 (.bi .tuple (.comp (.one 3) (.rng1 (.bi .len (.var 0))) .nil (.b2 .min (.idxV 1 (.var 3)) (.call 33 (.cons (.var 1) (.cons (.idxV 0 (.var 3)) .nil))))))) (.cons (.whl (.cmp .ne (.var 2) (.var 1)) (.cons (.asg 1 (.var 2)) (.cons (.asg 2 (.bi .tuple (.comp (.one 3) (.rng1 (.bi .len (.var 0))) .nil (.b2 .min (.idxV 1 (.var 3)) (.call 33 (.cons (.var 1) (.cons (.idxV 0 (.var 3)) .nil))))))) .nil))) (.cons (.retV 1) .nil))))⟩
/-- low_of -/
def f33 : Fn := ⟨2, 3, (.cons (.ite (.cmp .eq (.idxV 1 (.cI 0)) (.cW 32)) (.cons (.ret (.idxV 0 (.idxV 1 (.cI 1)))) .nil) .nil) (.cons (.ite (.dinG false (.idxV 1 (.cI 0)) 18 [21, 17, 27, 22, 29, 36]) (.cons (.ret (.gget 18 (.idxV 1 (.cI 0)))) .nil) .nil) (.cons (.ret (.b2 .min (.gl 14) (.call 34 (.cons (.var 1) (.cons (.comp (.one 2) (.seq (.call 37 (.cons (.var 1) .nil))) .nil (.call 33 (.cons (.var 0) (.cons (.var 2) .nil)))) .nil))))) .nil)))⟩
/-- by_parts -/
def f34 : Fn := ⟨2, 3, (.cons (.asg 2 (.idxV 0 (.cI 0))) (.cons (.ite (.cmp .eq (.var 2) (.cW 21)) (.cons (.ret (.b2 .min (.idxV 1 (.cI 0)) (.idxV 1 (.cI 1)))) .nil) .nil) (.cons (.ite (.cmp .eq (.var 2) (.cW 17)) (.cons (.ret (.bin .add (.idxV 1 (.cI 0)) (.idxV 1 (.cI 1)))) .nil) .nil) (.cons (.ite (.cmp .eq (.var 2) (.cW 27)) (.cons (.ret (.bin .mul (.idxV 1 (.cI 0)) (.idxV 1 (.cI 1)))) .nil) .nil) (.cons (.ite (.cmp .eq (.var 2) (.cW 22)) (.cons (.ret (.b2 .max (.cI 1) (.idxV 1 (.cI 0)))) .nil) .nil) (.cons (.ite (.cmp .eq (.var 2) (.cW 29)) (.cons (.ret (.b2 .max (.cI 0) (.bin .sub (.idxV 1 (.cI 0)) (.cI 1)))) .nil) .nil) (.cons (.ite (.cmp .gt (.idxV 1 (.cI 0)) (.idxV 0 (.cI 3))) (.cons (.ret (.gl 14)) .nil) .nil) (.cons (.ret (.b2 .max (.idxV 0 (.cI 2)) (.idxV 1 (.cI 0)))) .nil))))))))⟩
/-- stands_by -/
def f35 : Fn := ⟨2, 3, (.cons (.ret (.bi .all (.comp (.one 2) (.seq (.call 36 (.cons (.var 1) .nil))) (.cons (.cmp .eq (.idxV 2 (.cI 0)) (.cW 27)) .nil) (.cmp .gt (.call 33 (.cons (.var 0) (.cons (.idxV 2 (.cI 2)) .nil))) (.cI 0))))) .nil)⟩
/-- kinds_in -/
def f36 : Fn := ⟨1, 4, (.cons (.asg 1 (.lst .nil)) (.cons (.asg 2 (.lst (.cons (.var 0) .nil))) (.cons (.whl (.eqE true 2) (.cons (.asg 3 (.pop 2)) (.cons (.expr (.app 1 (.var 3))) (.cons (.expr (.ext 2 (.slR (.call 37 (.cons (.var 3) .nil))))) .nil)))) (.cons (.retV 1) .nil))))⟩
/-- inner_kinds -/
def f37 : Fn := ⟨1, 1, (.cons (.ite (.cmp .isin (.idxV 0 (.cI 0)) (.gl 15)) (.cons (.ret (.bi .list (.slL (.var 0) (.cI 1)))) .nil) .nil) (.cons (.ite (.cmp .isin (.idxV 0 (.cI 0)) (.tup (.cons (.cW 22) (.cons (.cW 29) (.cons (.cW 36) .nil))))) (.cons (.ret (.lst (.cons (.idxV 0 (.cI 1)) .nil))) .nil) .nil) (.cons (.ret (.lst .nil)) .nil)))⟩
/-- needs_of -/
def f38 : Fn := ⟨2, 2, (.cons (.ret (.bi .tuple (.sset (.call 39 (.cons (.var 0) (.cons (.var 1) .nil)))))) .nil)⟩
/-- needed -/
def f39 : Fn := ⟨2, 7, (.cons (.asg 2 (.idxV 1 (.cI 0))) (.cons (.ite (.cmp .eq (.var 2) (.cW 32)) (.cons (.ret (.lst (.cons (.idxV 1 (.cI 1)) .nil))) .nil) .nil) (.cons (.asg 3 (.lst .nil)) (.cons (.ite (.cmp .isin (.var 2) (.tup (.cons (.cW 21) (.cons (.cW 22) (.cons (.cW 36) .nil))))) (.cons (.for_ (.one 4) (.seq (.call 37 (.cons (.var 1) .nil))) (.cons (.expr (.ext 3 (.call 39 (.cons (.var 0) (.cons (.var 4) .nil))))) .nil)) .nil) .nil) (.cons (.ite (.cmp .isin (.var 2) (.tup (.cons (.cW 17) (.cons (.cW 27) .nil)))) (.cons (.asg 5 (.call 33 (.cons (.var 0) (.cons (.idxV 1 (.cI 1)) .nil)))) (.cons (.asg 6 (.call 33 (.cons (.var 0) (.cons (.idxV 1 (.cI 2)) .nil)))) (.cons (.ite (.or_ (.cmp .eq (.var 6) (.cI 0)) (.and_ (.cmp .eq (.var 2) (.cW 27)) (.or_ (.cmp .eq (.var 6) (.cI 1)) (.cmp .eq (.var 5) (.cI 0))))) (.cons (.expr (.ext 3 (.call 39 (.cons (.var 0) (.cons (.idxV 1 (.cI 1)) .nil))))) .nil) .nil) (.cons (.ite (.or_ (.cmp .eq (.var 5) (.cI 0)) (.and_ (.cmp .eq (.var 2) (.cW 27)) (.cmp .eq (.var 5) (.cI 1)))) (.cons (.expr (.ext 3 (.call 39 (.cons (.var 0) (.cons (.idxV 1 (.cI 2)) .nil))))) .nil) .nil) .nil)))) .nil) (.cons (.retV 3) .nil))))))⟩
/-- led_by -/
def f40 : Fn := ⟨4, 7, (.cons (.asg 4 (.var 1)) (.cons (.asg 5 (.var 3)) (.cons (.for_ (.one 6) (.seq (.var 2)) (.cons (.asg 5 (.call 41 (.cons (.var 4) (.cons (.idxV 6 (.cI 1)) (.cons (.var 6) (.cons (.var 5) .nil)))))) (.cons (.asg 4 (.call 44 (.cons (.var 0) (.cons (.var 4) (.cons (.var 6) .nil))))) .nil))) (.cons (.retV 5) .nil))))⟩
/-- led_at -/
def f41 : Fn := ⟨4, 8, (.cons (.ite (.cmp .eq (.bi .len (.var 1)) (.cI 0)) (.cons (.ret (.call 42 (.cons (.var 2) (.cons (.var 3) .nil)))) .nil) .nil) (.cons (.asgT [5, 6] (.tup (.cons (.idxV 1 (.cI 0)) (.cons (.slL (.var 1) (.cI 1)) .nil)))) (.cons (.asg 4 (.idxV 0 (.bin .add (.cI 1) (.var 5)))) (.cons (.ite (.cmp .eq (.idxV 0 (.cI 0)) (.cW 36)) (.cons (.ret (.call 41 (.cons (.var 4) (.cons (.var 6) (.cons (.var 2) (.cons (.var 3) .nil)))))) .nil) .nil) (.cons (.ite (.cmp .eq (.idxV 0 (.cI 0)) (.cW 21)) (.cons (.ret (.ite (.cmp .eq (.idxV 3 (.cI 1)) (.var 5)) (.tup (.cons (.cW 21) (.cons (.var 5) (.cons (.call 41 (.cons (.var 4) (.cons (.var 6) (.cons (.var 2) (.cons (.idxV 3 (.cI 2)) .nil))))) .nil)))) (.var 3))) .nil) .nil) (.cons (.ite (.and_ (.cmp .eq (.idxV 0 (.cI 0)) (.cW 17)) (.cmp .eq (.var 5) (.cI 0))) (.cons (.ret (.tup (.cons (.cW 17) (.cons (.call 41 (.cons (.var 4) (.cons (.var 6) (.cons (.var 2) (.cons (.idxV 3 (.cI 1)) .nil))))) (.cons (.idxV 3 (.cI 2)) .nil))))) .nil) .nil) (.cons (.ite (.cmp .eq (.idxV 0 (.cI 0)) (.cW 17)) (.cons (.ret (.tup (.cons (.cW 17) (.cons (.idxV 3 (.cI 1)) (.cons (.call 41 (.cons (.var 4) (.cons (.var 6) (.cons (.var 2) (.cons (.idxV 3 (.cI 2)) .nil))))) .nil))))) .nil) .nil) (.cons (.ite (.and_ (.cmp .eq (.idxV 0 (.cI 0)) (.cW 27)) (.cmp .eq (.var 5) (.cI 0))) (.cons (.ret (.tup (.cons (.cW 27) (.cons (.call 41 (.cons (.var 4) (.cons (.var 6) (.cons (.var 2) (.cons (.idxV 3 (.cI 1)) .nil))))) (.cons (.idxV 3 (.cI 2)) .nil))))) .nil) .nil) (.cons (.ite (.cmp .eq (.idxV 0 (.cI 0)) (.cW 27)) (.cons (.ret (.tup (.cons (.cW 27) (.cons (.idxV 3 (.cI 1)) (.cons (.bi .tuple (.comp (.one 7) (.seq (.idxV 3 (.cI 2))) .nil (.call 41 (.cons (.var 4) (.cons (.var 6) (.cons (.var 2) (.cons (.var 7) .nil))))))) .nil))))) .nil) .nil) (.cons (.ite (.cmp .eq (.idxV 0 (.cI 0)) (.cW 22)) (.cons (.ret (.tup (.cons (.cW 22) (.cons (.idxV 3 (.cI 1)) (.cons (.call 41 (.cons (.var 4) (.cons (.var 6) (.cons (.var 2) (.cons (.idxV 3 (.cI 2)) .nil))))) .nil))))) .nil) .nil) (.cons (.ret (.tup (.cons (.cW 29) (.cons (.call 41 (.cons (.var 4) (.cons (.var 6) (.cons (.var 2) (.cons (.idxV 3 (.cI 1)) .nil))))) .nil)))) .nil)))))))))))⟩
/-- led_part -/
def f42 : Fn := ⟨2, 6, (.cons (.asgT [2, 3, 4, 5] (.var 0)) (.cons (.ite (.cmp .isin (.var 2) (.gl 0)) (.cons (.ret (.call 43 (.cons (.var 2) (.cons (.var 4) (.cons (.var 1) .nil))))) .nil) .nil) (.cons (.ite (.cmp .isin (.var 2) (.gl 1)) (.cons (.ret .never) .nil) .nil) (.cons (.ite (.cmp .isin (.var 2) (.gl 2)) (.cons (.ret .never) .nil) .nil) (.cons (.ite (.cmp .isin (.var 2) (.gl 3)) (.cons (.ret .never) .nil) .nil) (.cons (.ret .never) .nil))))))⟩
/-- led_sum -/
def f43 : Fn := ⟨3, 3, (.cons (.ite (.cmp .eq (.var 0) (.cW 51)) (.cons (.ret (.tup (.cons (.cW 21) (.cons (.bin .sub (.cI 1) (.idxV 2 (.cI 1))) (.cons (.idxV 2 (.cI 2)) .nil))))) .nil) .nil) (.cons (.ite (.cmp .eq (.var 0) (.cW 50)) (.cons (.ret (.ite (.var 1) .never .never)) .nil) .nil) (.cons (.ite (.cmp .eq (.var 0) (.cW 49)) (.cons (.ret (.tup (.cons (.cW 17) (.cons (.idxV 2 (.cI 2)) (.cons (.idxV 2 (.cI 1)) .nil))))) .nil) .nil) (.cons (.ite (.cmp .eq (.var 0) (.cW 48)) (.cons (.ret .never) .nil) .nil) (.cons (.ite (.cmp .eq (.var 0) (.cW 20)) (.cons (.ret .never) .nil) .nil) (.cons (.ite (.cmp .eq (.var 0) (.cW 30)) (.cons (.ret (.ite (.var 1) (.tup (.cons (.cW 21) (.cons (.cI 1) (.cons (.var 2) .nil)))) (.idxV 2 (.cI 2)))) .nil) .nil) (.cons (.ret (.ite (.var 1) (.tup (.cons (.cW 17) (.cons (.tup (.cons (.cW 34) .nil)) (.cons (.var 2) .nil)))) (.idxV 2 (.cI 2)))) .nil)))))))⟩
/-- gone -/
def f44 : Fn := ⟨3, 3, (.cons (.ret (.call 24 (.cons (.var 1) (.cons (.idxV 2 (.cI 1)) (.cons (.call 25 (.cons (.var 0) (.cons (.var 2) (.cons (.call 22 (.cons (.var 1) (.cons (.idxV 2 (.cI 1)) .nil))) .nil)))) .nil))))) .nil)⟩
/-- way_back -/
def f45 : Fn := ⟨3, 7, (.cons (.asg 3 (.var 1)) (.cons (.asg 4 (.lst .nil)) (.cons (.for_ (.one 5) (.seq (.var 2)) (.cons (.asg 6 (.call 46 (.cons (.var 5) (.cons (.call 22 (.cons (.var 3) (.cons (.idxV 5 (.cI 1)) .nil))) .nil)))) (.cons (.expr (.app 4 (.tup (.cons (.idxV 5 (.cI 0)) (.cons (.idxV 5 (.cI 1)) (.cons (.not_ (.idxV 5 (.cI 2))) (.cons (.var 6) .nil))))))) (.cons (.asg 3 (.call 44 (.cons (.var 0) (.cons (.var 3) (.cons (.var 5) .nil))))) .nil)))) (.cons (.ret (.bi .tuple (.slR (.var 4)))) .nil))))⟩
/-- extra_turned -/
def f46 : Fn := ⟨2, 6, (.cons (.asgT [2, 3, 4, 5] (.var 0)) (.cons (.ite (.and_ (.cmp .eq (.var 2) (.cW 41)) (.var 4)) (.cons (.ret (.tup (.cons (.idx (.idxV 1 (.cI 1)) (.cI 3)) .nil))) .nil) .nil) (.cons (.ite (.and_ (.cmp .eq (.var 2) (.cW 32)) (.not_ (.var 4))) (.cons (.ret (.tup (.cons (.idxV 1 (.cI 1)) .nil))) .nil) .nil) (.cons (.ite (.and_ (.cmp .isin (.var 2) (.gl 5)) (.not_ (.var 4))) (.cons (.ret (.tup (.cons (.idxV 1 (.cI 2)) .nil))) .nil) .nil) (.cons (.ret (.tup .nil)) .nil)))))⟩
def ff : List Fn := [f0, f1, f2, f3, f4, f5, f6, f7, f8, f9, f10, f11, f12, f13, f14, f15, f16, f17, f18, f19, f20, f21, f22, f23, f24, f25, f26, f27, f28, f29, f30, f31, f32, f33, f34, f35, f36, f37, f38, f39, f40, f41, f42, f43, f44, f45, f46]
def gd : List D := [g0, g1, g2, g3, g4, g5, g6, g7, g8, g9, g10, g11, g12, g13, g14, g15, g16]
def dd : List D := [g17, g18]
-- CUT
def lw : Lw := ⟨wd, [("SUM_WORDS" : Str), ("IN_WORDS" : Str), ("BARE_WORDS" : Str), ("HOLE_WORDS" : Str), ("SIZE_WORDS" : Str), ("LOSING" : Str), ("BARE" : Str), ("TWOFOLD" : Str), ("SINGLE" : Str), ("MOST_KINDS" : Str), ("MOST_DEEP" : Str), ("MOST_HOLES" : Str), ("MOST_PATH" : Str), ("MOST_SIZE_steps" : Str), ("MOST_LOW" : Str), ("PAIRED" : Str), ("MOST_SIZE_sides" : Str)], gd, [("SIDES" : Str), ("BARE_LOWS" : Str)], dd, [("_law_feed" : Str), ("_law_take" : Str), ("_law_told" : Str), ("_law_tree" : Str), ("_law_chain" : Str), ("_law_many_right" : Str), ("_law_deep_right" : Str), ("_law_holes_right" : Str), ("_law_rule_right" : Str), ("_law_blocks_right" : Str), ("_law_long_right" : Str), ("law" : Str), ("moved_by" : Str), ("is_step" : Str), ("is_word" : Str), ("is_path" : Str), ("is_whole" : Str), ("is_extra" : Str), ("is_wide" : Str), ("measured" : Str), ("inner_of" : Str), ("fits_wide" : Str), ("part_at" : Str), ("parts_many" : Str), ("put_at" : Str), ("other_side" : Str), ("ruled_side" : Str), ("fits" : Str), ("filled" : Str), ("sizes_fit" : Str), ("is_right" : Str), ("found_told" : Str), ("greatest_lows" : Str), ("low_of" : Str), ("by_parts" : Str), ("stands_by" : Str), ("kinds_in" : Str), ("inner_kinds" : Str), ("needs_of" : Str), ("needed" : Str), ("led_by" : Str), ("led_at" : Str), ("led_part" : Str), ("led_sum" : Str), ("gone" : Str), ("way_back" : Str), ("extra_turned" : Str)], ff, [[], [21, 17, 27, 22, 29, 36]], [(3, 4)], [0, 5, 6, 7, 8, 9, 10, 3, 11, 12, 13, 14]⟩
theorem wok : WOk lw.W := by
  constructor <;> decide +kernel
theorem c0 : DefT lw.tb ("_law_feed" : Str) (top 126) [("_law_script" : Str)] [("_law_script" : Str)] f0 := by
  refine ⟨fun _ _ _ _ _ _ us hl => match us, hl with | [_], _ => rfl, C8.fnScope_by (by decide +kernel), rfl, rfl, by decide +kernel⟩
theorem c1 : DefT lw.tb ("_law_take" : Str) (top 127) [("_law_feed_here" : Str), ("_law_many" : Str)] [("_law_feed_here" : Str), ("_law_many" : Str), ("_law_cell" : Str), ("_law_mixed" : Str), ("_law_found" : Str)] f1 := by
  refine ⟨fun _ _ _ _ _ _ us hl => match us, hl with | [_, _], _ => rfl, C8.fnScope_by (by decide +kernel), rfl, rfl, by decide +kernel⟩
theorem c2 : DefT lw.tb ("_law_told" : Str) (top 128) [("_law_rules" : Str), ("_law_kind" : Str), ("_law_thing" : Str)] [("_law_rules" : Str), ("_law_kind" : Str), ("_law_thing" : Str), ("_law_found" : Str), ("e" : Str), ("_law_others" : Str)] f2 := by
  refine ⟨fun _ _ _ _ _ _ us hl => match us, hl with | [_, _, _], _ => rfl, C8.fnScope_by (by decide +kernel), rfl, rfl, by decide +kernel⟩
theorem c3 : DefT lw.tb ("_law_tree" : Str) (top 129) [("_law_deep" : Str)] [("_law_deep" : Str), ("_law_kind" : Str), ("_law_k" : Str)] f3 := by
  refine ⟨fun _ _ _ _ _ _ us hl => match us, hl with | [_], _ => rfl, C8.fnScope_by (by decide +kernel), rfl, rfl, by decide +kernel⟩
theorem c4 : DefT lw.tb ("_law_chain" : Str) (top 130) [("_law_word" : Str), ("_law_many" : Str), ("_law_kind" : Str)] [("_law_word" : Str), ("_law_many" : Str), ("_law_kind" : Str), ("_law_k" : Str)] f4 := by
  refine ⟨fun _ _ _ _ _ _ us hl => match us, hl with | [_, _, _], _ => rfl, C8.fnScope_by (by decide +kernel), rfl, rfl, by decide +kernel⟩
theorem c5 : DefT lw.tb ("_law_many_right" : Str) (top 131) [("_law_more" : Str)] [("_law_more" : Str), ("_law_kind" : Str), ("_law_due" : Str), ("_law_told_here" : Str), ("_law_one" : Str), ("_law_last" : Str)] f5 := by
  refine ⟨fun _ _ _ _ _ _ us hl => match us, hl with | [_], _ => rfl, C8.fnScope_by (by decide +kernel), rfl, rfl, by decide +kernel⟩
theorem c6 : DefT lw.tb ("_law_deep_right" : Str) (top 132) [("_law_feed_here" : Str), ("_law_more" : Str)] [("_law_feed_here" : Str), ("_law_more" : Str), ("_law_base" : Str), ("_law_kind" : Str), ("_law_told_here" : Str), ("_law_inner" : Str), ("_law_blocks" : Str)] f6 := by
  refine ⟨fun _ _ _ _ _ _ us hl => match us, hl with | [_, _], _ => rfl, C8.fnScope_by (by decide +kernel), rfl, rfl, by decide +kernel⟩
theorem c7 : DefT lw.tb ("_law_holes_right" : Str) (top 133) [("_law_feed_here" : Str), ("_law_more" : Str)] [("_law_feed_here" : Str), ("_law_more" : Str), ("_law_kind" : Str), ("_law_path" : Str), ("_law_told_here" : Str), ("_law_due" : Str)] f7 := by
  refine ⟨fun _ _ _ _ _ _ us hl => match us, hl with | [_, _], _ => rfl, C8.fnScope_by (by decide +kernel), rfl, rfl, by decide +kernel⟩
theorem c8 : DefT lw.tb ("_law_rule_right" : Str) (top 134) [("_law_feed_here" : Str)] [("_law_feed_here" : Str), ("_law_pair" : Str), ("_law_rules" : Str), ("_law_step" : Str), ("_law_due" : Str)] f8 := by
  refine ⟨fun _ _ _ _ _ _ us hl => match us, hl with | [_], _ => rfl, C8.fnScope_by (by decide +kernel), rfl, rfl, by decide +kernel⟩
theorem c9 : DefT lw.tb ("_law_blocks_right" : Str) (top 135) [("_law_feed_here" : Str)] [("_law_feed_here" : Str), ("_law_kind" : Str), ("_law_good" : Str), ("_law_deep" : Str), ("_law_k" : Str), ("_law_word" : Str), ("_law_one" : Str), ("_law_step" : Str), ("_law_due" : Str)] f9 := by
  refine ⟨fun _ _ _ _ _ _ us hl => match us, hl with | [_], _ => rfl, C8.fnScope_by (by decide +kernel), rfl, rfl, by decide +kernel⟩
theorem c10 : DefT lw.tb ("_law_long_right" : Str) (top 136) [("_law_feed_here" : Str)] [("_law_feed_here" : Str), ("_law_many" : Str), ("_law_name" : Str), ("_law_step" : Str), ("_law_due" : Str), ("_law_k" : Str), ("_law_about" : Str), ("_law_kind" : Str), ("_law_s" : Str), ("_law_t" : Str)] f10 := by
  refine ⟨fun _ _ _ _ _ _ us hl => match us, hl with | [_], _ => rfl, C8.fnScope_by (by decide +kernel), rfl, rfl, by decide +kernel⟩
theorem c11 : DefT lw.tb ("law" : Str) (top 137) [("_law_script" : Str)] [("_law_script" : Str), ("_law_feed_here" : Str), ("_law_turn" : Str), ("_law_way" : Str), ("_law_more" : Str)] f11 := by
  refine ⟨fun _ _ _ _ _ _ us hl => match us, hl with | [_], _ => rfl, C8.fnScope_by (by decide +kernel), rfl, rfl, by decide +kernel⟩
theorem c12 : DefT lw.tb ("moved_by" : Str) (top 66) [("rules" : Str), ("kind" : Str), ("thing" : Str)] [("rules" : Str), ("kind" : Str), ("thing" : Str), ("part" : Str), ("other" : Str), ("found" : Str), ("sizes" : Str)] f12 := by
  refine ⟨fun _ _ _ _ _ _ us hl => match us, hl with | [_, _, _], _ => rfl, C8.fnScope_by (by decide +kernel), rfl, rfl, by decide +kernel⟩
theorem c13 : DefT lw.tb ("is_step" : Str) (top 60) [("many" : Str), ("thing" : Str)] [("many" : Str), ("thing" : Str), ("word" : Str), ("path" : Str), ("back" : Str), ("extra" : Str)] f13 := by
  refine ⟨fun _ _ _ _ _ _ us hl => match us, hl with | [_, _], _ => rfl, C8.fnScope_by (by decide +kernel), rfl, rfl, by decide +kernel⟩
theorem c14 : DefT lw.tb ("is_word" : Str) (top 57) [("thing" : Str)] [("thing" : Str)] f14 := by
  refine ⟨fun _ _ _ _ _ _ us hl => match us, hl with | [_], _ => rfl, C8.fnScope_by (by decide +kernel), rfl, rfl, by decide +kernel⟩
theorem c15 : DefT lw.tb ("is_path" : Str) (top 58) [("thing" : Str)] [("thing" : Str), ("pick" : Str)] f15 := by
  refine ⟨fun _ _ _ _ _ _ us hl => match us, hl with | [_], _ => rfl, C8.fnScope_by (by decide +kernel), rfl, rfl, by decide +kernel⟩
theorem c16 : DefT lw.tb ("is_whole" : Str) (top 52) [("thing" : Str), ("low" : Str), ("high" : Str)] [("thing" : Str), ("low" : Str), ("high" : Str)] f16 := by
  refine ⟨fun _ _ _ _ _ _ us hl => match us, hl with | [_, _, _], _ => rfl, C8.fnScope_by (by decide +kernel), rfl, rfl, by decide +kernel⟩
theorem c17 : DefT lw.tb ("is_extra" : Str) (top 59) [("many" : Str), ("word" : Str), ("back" : Str), ("thing" : Str)] [("many" : Str), ("word" : Str), ("back" : Str), ("thing" : Str)] f17 := by
  refine ⟨fun _ _ _ _ _ _ us hl => match us, hl with | [_, _, _, _], _ => rfl, C8.fnScope_by (by decide +kernel), rfl, rfl, by decide +kernel⟩
theorem c18 : DefT lw.tb ("is_wide" : Str) (top 56) [("many" : Str), ("thing" : Str)] [("many" : Str), ("thing" : Str), ("found" : Str)] f18 := by
  refine ⟨fun _ _ _ _ _ _ us hl => match us, hl with | [_, _], _ => rfl, C8.fnScope_by (by decide +kernel), rfl, rfl, by decide +kernel⟩
theorem c19 : DefT lw.tb ("measured" : Str) (top 54) [("many" : Str), ("thing" : Str)] [("many" : Str), ("thing" : Str), ("inner" : Str), ("one" : Str), ("holed" : Str), ("count" : Str), ("deep" : Str), ("holes" : Str), ("ruled" : Str), ("bad" : Str), ("found" : Str)] f19 := by
  refine ⟨fun _ _ _ _ _ _ us hl => match us, hl with | [_, _], _ => rfl, C8.fnScope_by (by decide +kernel), rfl, rfl, by decide +kernel⟩
theorem c20 : DefT lw.tb ("inner_of" : Str) (top 53) [("many" : Str), ("thing" : Str)] [("many" : Str), ("thing" : Str), ("word" : Str)] f20 := by
  refine ⟨fun _ _ _ _ _ _ us hl => match us, hl with | [_, _], _ => rfl, C8.fnScope_by (by decide +kernel), rfl, rfl, by decide +kernel⟩
theorem c21 : DefT lw.tb ("fits_wide" : Str) (top 55) [("found" : Str)] [("found" : Str)] f21 := by
  refine ⟨fun _ _ _ _ _ _ us hl => match us, hl with | [_], _ => rfl, C8.fnScope_by (by decide +kernel), rfl, rfl, by decide +kernel⟩
theorem c22 : DefT lw.tb ("part_at" : Str) (top 63) [("kind" : Str), ("path" : Str)] [("kind" : Str), ("path" : Str), ("part" : Str), ("pick" : Str)] f22 := by
  refine ⟨fun _ _ _ _ _ _ us hl => match us, hl with | [_, _], _ => rfl, C8.fnScope_by (by decide +kernel), rfl, rfl, by decide +kernel⟩
theorem c23 : DefT lw.tb ("parts_many" : Str) (top 62) [("kind" : Str)] [("kind" : Str)] f23 := by
  refine ⟨fun _ _ _ _ _ _ us hl => match us, hl with | [_], _ => rfl, C8.fnScope_by (by decide +kernel), rfl, rfl, by decide +kernel⟩
theorem c24 : DefT lw.tb ("put_at" : Str) (top 64) [("kind" : Str), ("path" : Str), ("part" : Str)] [("kind" : Str), ("path" : Str), ("part" : Str), ("at" : Str)] f24 := by
  refine ⟨fun _ _ _ _ _ _ us hl => match us, hl with | [_, _, _], _ => rfl, C8.fnScope_by (by decide +kernel), rfl, rfl, by decide +kernel⟩
theorem c25 : DefT lw.tb ("other_side" : Str) (top 36) [("rules" : Str), ("step" : Str), ("part" : Str)] [("rules" : Str), ("step" : Str), ("part" : Str), ("sides" : Str), ("found" : Str), ("word" : Str), ("path" : Str), ("back" : Str), ("extra" : Str)] f25 := by
  refine ⟨fun _ _ _ _ _ _ us hl => match us, hl with | [_, _, _], _ => rfl, C8.fnScope_by (by decide +kernel), rfl, rfl, by decide +kernel⟩
theorem c26 : DefT lw.tb ("ruled_side" : Str) (top 35) [("rules" : Str), ("back" : Str), ("extra" : Str), ("part" : Str)] [("rules" : Str), ("back" : Str), ("extra" : Str), ("part" : Str)] f26 := by
  refine ⟨fun _ _ _ _ _ _ us hl => match us, hl with | [_, _, _, _], _ => rfl, C8.fnScope_by (by decide +kernel), rfl, rfl, by decide +kernel⟩
theorem c27 : DefT lw.tb ("fits" : Str) (top 32) [("side" : Str), ("thing" : Str), ("found" : Str)] [("side" : Str), ("thing" : Str), ("found" : Str), ("k" : Str)] f27 := by
  refine ⟨fun _ _ _ _ _ _ us hl => match us, hl with | [_, _, _], _ => rfl, C8.fnScope_by (by decide +kernel), rfl, rfl, by decide +kernel⟩
theorem c28 : DefT lw.tb ("filled" : Str) (top 33) [("side" : Str), ("found" : Str)] [("side" : Str), ("found" : Str), ("one" : Str)] f28 := by
  refine ⟨fun _ _ _ _ _ _ us hl => match us, hl with | [_, _], _ => rfl, C8.fnScope_by (by decide +kernel), rfl, rfl, by decide +kernel⟩
theorem c29 : DefT lw.tb ("sizes_fit" : Str) (top 34) [("word" : Str), ("back" : Str), ("extra" : Str), ("found" : Str)] [("word" : Str), ("back" : Str), ("extra" : Str), ("found" : Str)] f29 := by
  refine ⟨fun _ _ _ _ _ _ us hl => match us, hl with | [_, _, _, _], _ => rfl, C8.fnScope_by (by decide +kernel), rfl, rfl, by decide +kernel⟩
theorem c30 : DefT lw.tb ("is_right" : Str) (top 28) [("rules" : Str), ("kind" : Str)] [("rules" : Str), ("kind" : Str)] f30 := by
  refine ⟨fun _ _ _ _ _ _ us hl => match us, hl with | [_, _], _ => rfl, C8.fnScope_by (by decide +kernel), rfl, rfl, by decide +kernel⟩
theorem c31 : DefT lw.tb ("found_told" : Str) (top 27) [("rules" : Str)] [("rules" : Str), ("lows" : Str), ("ranks" : Str), ("turn" : Str), ("i" : Str), ("needs" : Str), ("one" : Str), ("j" : Str)] f31 := by
  refine ⟨fun _ _ _ _ _ _ us hl => match us, hl with | [_], _ => rfl, C8.fnScope_by (by decide +kernel), rfl, rfl, by decide +kernel⟩
theorem c32 : DefT lw.tb ("greatest_lows" : Str) (top 26) [("rules" : Str)] [("rules" : Str), ("lows" : Str), ("lesser" : Str), ("i" : Str)] f32 := by
  refine ⟨fun _ _ _ _ _ _ us hl => match us, hl with | [_], _ => rfl, C8.fnScope_by (by decide +kernel), rfl, rfl, by decide +kernel⟩
theorem c33 : DefT lw.tb ("low_of" : Str) (top 21) [("lows" : Str), ("kind" : Str)] [("lows" : Str), ("kind" : Str), ("one" : Str)] f33 := by
  refine ⟨fun _ _ _ _ _ _ us hl => match us, hl with | [_, _], _ => rfl, C8.fnScope_by (by decide +kernel), rfl, rfl, by decide +kernel⟩
theorem c34 : DefT lw.tb ("by_parts" : Str) (top 20) [("kind" : Str), ("inner" : Str)] [("kind" : Str), ("inner" : Str), ("word" : Str)] f34 := by
  refine ⟨fun _ _ _ _ _ _ us hl => match us, hl with | [_, _], _ => rfl, C8.fnScope_by (by decide +kernel), rfl, rfl, by decide +kernel⟩
theorem c35 : DefT lw.tb ("stands_by" : Str) (top 24) [("lows" : Str), ("kind" : Str)] [("lows" : Str), ("kind" : Str), ("one" : Str)] f35 := by
  refine ⟨fun _ _ _ _ _ _ us hl => match us, hl with | [_, _], _ => rfl, C8.fnScope_by (by decide +kernel), rfl, rfl, by decide +kernel⟩
theorem c36 : DefT lw.tb ("kinds_in" : Str) (top 16) [("kind" : Str)] [("kind" : Str), ("found" : Str), ("pile" : Str), ("one" : Str)] f36 := by
  refine ⟨fun _ _ _ _ _ _ us hl => match us, hl with | [_], _ => rfl, C8.fnScope_by (by decide +kernel), rfl, rfl, by decide +kernel⟩
theorem c37 : DefT lw.tb ("inner_kinds" : Str) (top 15) [("kind" : Str)] [("kind" : Str)] f37 := by
  refine ⟨fun _ _ _ _ _ _ us hl => match us, hl with | [_], _ => rfl, C8.fnScope_by (by decide +kernel), rfl, rfl, by decide +kernel⟩
theorem c38 : DefT lw.tb ("needs_of" : Str) (top 23) [("lows" : Str), ("kind" : Str)] [("lows" : Str), ("kind" : Str)] f38 := by
  refine ⟨fun _ _ _ _ _ _ us hl => match us, hl with | [_, _], _ => rfl, C8.fnScope_by (by decide +kernel), rfl, rfl, by decide +kernel⟩
theorem c39 : DefT lw.tb ("needed" : Str) (top 22) [("lows" : Str), ("kind" : Str)] [("lows" : Str), ("kind" : Str), ("word" : Str), ("found" : Str), ("one" : Str), ("first" : Str), ("second" : Str)] f39 := by
  refine ⟨fun _ _ _ _ _ _ us hl => match us, hl with | [_, _], _ => rfl, C8.fnScope_by (by decide +kernel), rfl, rfl, by decide +kernel⟩
theorem c40 : DefT lw.tb ("led_by" : Str) (top 121) [("rules" : Str), ("kind" : Str), ("way" : Str), ("s" : Str)] [("rules" : Str), ("kind" : Str), ("way" : Str), ("s" : Str), ("here" : Str), ("found" : Str), ("step" : Str)] f40 := by
  refine ⟨fun _ _ _ _ _ _ us hl => match us, hl with | [_, _, _, _], _ => rfl, C8.fnScope_by (by decide +kernel), rfl, rfl, by decide +kernel⟩
theorem c41 : DefT lw.tb ("led_at" : Str) (top 120) [("kind" : Str), ("path" : Str), ("step" : Str), ("s" : Str)] [("kind" : Str), ("path" : Str), ("step" : Str), ("s" : Str), ("inner" : Str), ("pick" : Str), ("rest" : Str), ("one" : Str)] f41 := by
  refine ⟨fun _ _ _ _ _ _ us hl => match us, hl with | [_, _, _, _], _ => rfl, C8.fnScope_by (by decide +kernel), rfl, rfl, by decide +kernel⟩
theorem c42 : DefT lw.tb ("led_part" : Str) (top 119) [("step" : Str), ("s" : Str)] [("step" : Str), ("s" : Str), ("word" : Str), ("path" : Str), ("back" : Str), ("extra" : Str)] f42 := by
  refine ⟨fun _ _ _ _ _ _ us hl => match us, hl with | [_, _], _ => rfl, C8.fnScope_by (by decide +kernel), rfl, rfl, by decide +kernel⟩
theorem c43 : DefT lw.tb ("led_sum" : Str) (top 116) [("word" : Str), ("back" : Str), ("s" : Str)] [("word" : Str), ("back" : Str), ("s" : Str)] f43 := by
  refine ⟨fun _ _ _ _ _ _ us hl => match us, hl with | [_, _, _], _ => rfl, C8.fnScope_by (by decide +kernel), rfl, rfl, by decide +kernel⟩
theorem c44 : DefT lw.tb ("gone" : Str) (top 65) [("rules" : Str), ("kind" : Str), ("step" : Str)] [("rules" : Str), ("kind" : Str), ("step" : Str)] f44 := by
  refine ⟨fun _ _ _ _ _ _ us hl => match us, hl with | [_, _, _], _ => rfl, C8.fnScope_by (by decide +kernel), rfl, rfl, by decide +kernel⟩
theorem c45 : DefT lw.tb ("way_back" : Str) (top 124) [("rules" : Str), ("kind" : Str), ("way" : Str)] [("rules" : Str), ("kind" : Str), ("way" : Str), ("here" : Str), ("found" : Str), ("step" : Str), ("extra" : Str)] f45 := by
  refine ⟨fun _ _ _ _ _ _ us hl => match us, hl with | [_, _, _], _ => rfl, C8.fnScope_by (by decide +kernel), rfl, rfl, by decide +kernel⟩
theorem c46 : DefT lw.tb ("extra_turned" : Str) (top 123) [("step" : Str), ("part" : Str)] [("step" : Str), ("part" : Str), ("word" : Str), ("path" : Str), ("back" : Str), ("extra" : Str)] f46 := by
  refine ⟨fun _ _ _ _ _ _ us hl => match us, hl with | [_, _], _ => rfl, C8.fnScope_by (by decide +kernel), rfl, rfl, by decide +kernel⟩
theorem it0 : InitT "KindError" ("word" : Str) "NoMove.__init__" (inClass (top 8) 0) where
  body := ⟨_, _, _, _, _, _, _, _, _, _, _, _, rfl, fun _ => ⟨_, rfl⟩⟩
  sc := C8.fnScope_by (by decide +kernel)
  gl := by decide +kernel
  db := by decide
  ls := by decide +kernel
  lf := by decide +kernel
  pf := by decide
  bd := fun _ _ _ _ _ _ us hl => match us, hl with | [_, _], _ => rfl
theorem tops {K : PySem.W.Frag} {w : World} {C0 : Addr} (b : BltK K bltNames) (h0 : GlK K wd w ("SUM_WORDS" : Str) g0) (h1 : GlK K wd w ("IN_WORDS" : Str) g1) (h2 : GlK K wd w ("BARE_WORDS" : Str) g2) (h3 : GlK K wd w ("HOLE_WORDS" : Str) g3) (h4 : GlK K wd w ("SIZE_WORDS" : Str) g4) (h5 : GlK K wd w ("LOSING" : Str) g5) (h6 : GlK K wd w ("BARE" : Str) g6) (h7 : GlK K wd w ("TWOFOLD" : Str) g7) (h8 : GlK K wd w ("SINGLE" : Str) g8) (h9 : GlK K wd w ("MOST_KINDS" : Str) g9) (h10 : GlK K wd w ("MOST_DEEP" : Str) g10) (h11 : GlK K wd w ("MOST_HOLES" : Str) g11) (h12 : GlK K wd w ("MOST_PATH" : Str) g12) (h13 : GlK K wd w ("MOST_SIZE_steps" : Str) g13) (h14 : GlK K wd w ("MOST_LOW" : Str) g14) (h15 : GlK K wd w ("PAIRED" : Str) g15) (h16 : GlK K wd w ("MOST_SIZE_sides" : Str) g16) (h17 : DcK K wd w ("SIDES" : Str) g17) (h18 : DcK K wd w ("BARE_LOWS" : Str) g18) (d0 : DefK K ("_law_feed" : Str) ("_law_feed" : Str) (top 126)) (d1 : DefK K ("_law_take" : Str) ("_law_take" : Str) (top 127)) (d2 : DefK K ("_law_told" : Str) ("_law_told" : Str) (top 128)) (d3 : DefK K ("_law_tree" : Str) ("_law_tree" : Str) (top 129)) (d4 : DefK K ("_law_chain" : Str) ("_law_chain" : Str) (top 130)) (d5 : DefK K ("_law_many_right" : Str) ("_law_many_right" : Str) (top 131)) (d6 : DefK K ("_law_deep_right" : Str) ("_law_deep_right" : Str) (top 132)) (d7 : DefK K ("_law_holes_right" : Str) ("_law_holes_right" : Str) (top 133)) (d8 : DefK K ("_law_rule_right" : Str) ("_law_rule_right" : Str) (top 134)) (d9 : DefK K ("_law_blocks_right" : Str) ("_law_blocks_right" : Str) (top 135)) (d10 : DefK K ("_law_long_right" : Str) ("_law_long_right" : Str) (top 136)) (d11 : DefK K ("law" : Str) ("law" : Str) (top 137)) (d12 : DefK K ("moved_by" : Str) ("moved_by" : Str) (top 66)) (d13 : DefK K ("is_step" : Str) ("is_step" : Str) (top 60)) (d14 : DefK K ("is_word" : Str) ("is_word" : Str) (top 57)) (d15 : DefK K ("is_path" : Str) ("is_path" : Str) (top 58)) (d16 : DefK K ("is_whole" : Str) ("is_whole" : Str) (top 52)) (d17 : DefK K ("is_extra" : Str) ("is_extra" : Str) (top 59)) (d18 : DefK K ("is_wide" : Str) ("is_wide" : Str) (top 56)) (d19 : DefK K ("measured" : Str) ("measured" : Str) (top 54)) (d20 : DefK K ("inner_of" : Str) ("inner_of" : Str) (top 53)) (d21 : DefK K ("fits_wide" : Str) ("fits_wide" : Str) (top 55)) (d22 : DefK K ("part_at" : Str) ("part_at" : Str) (top 63)) (d23 : DefK K ("parts_many" : Str) ("parts_many" : Str) (top 62)) (d24 : DefK K ("put_at" : Str) ("put_at" : Str) (top 64)) (d25 : DefK K ("other_side" : Str) ("other_side" : Str) (top 36)) (d26 : DefK K ("ruled_side" : Str) ("ruled_side" : Str) (top 35)) (d27 : DefK K ("fits" : Str) ("fits" : Str) (top 32)) (d28 : DefK K ("filled" : Str) ("filled" : Str) (top 33)) (d29 : DefK K ("sizes_fit" : Str) ("sizes_fit" : Str) (top 34)) (d30 : DefK K ("is_right" : Str) ("is_right" : Str) (top 28)) (d31 : DefK K ("found_told" : Str) ("found_told" : Str) (top 27)) (d32 : DefK K ("greatest_lows" : Str) ("greatest_lows" : Str) (top 26)) (d33 : DefK K ("low_of" : Str) ("low_of" : Str) (top 21)) (d34 : DefK K ("by_parts" : Str) ("by_parts" : Str) (top 20)) (d35 : DefK K ("stands_by" : Str) ("stands_by" : Str) (top 24)) (d36 : DefK K ("kinds_in" : Str) ("kinds_in" : Str) (top 16)) (d37 : DefK K ("inner_kinds" : Str) ("inner_kinds" : Str) (top 15)) (d38 : DefK K ("needs_of" : Str) ("needs_of" : Str) (top 23)) (d39 : DefK K ("needed" : Str) ("needed" : Str) (top 22)) (d40 : DefK K ("led_by" : Str) ("led_by" : Str) (top 121)) (d41 : DefK K ("led_at" : Str) ("led_at" : Str) (top 120)) (d42 : DefK K ("led_part" : Str) ("led_part" : Str) (top 119)) (d43 : DefK K ("led_sum" : Str) ("led_sum" : Str) (top 116)) (d44 : DefK K ("gone" : Str) ("gone" : Str) (top 65)) (d45 : DefK K ("way_back" : Str) ("way_back" : Str) (top 124)) (d46 : DefK K ("extra_turned" : Str) ("extra_turned" : Str) (top 123)) (k0 : ClsK K ("NoMove" : Str) ("word" : Str) "KindError" "NoMove.__init__" (inClass (top 8) 0) C0) (x0_0 : XisK K ("KindError" : Str) C0 true) (x0_1 : XisK K ("NoExchange" : Str) C0 false) (x0_2 : XisK K ("NoKind" : Str) C0 false) (x0_3 : XisK K ("NoPaper" : Str) C0 false) (x0_4 : XisK K ("TooMany" : Str) C0 false) (x0_5 : XisK K ("NoPlace" : Str) C0 false) (x0_6 : XisK K ("NoDraw" : Str) C0 false) (x0_7 : XisK K ("NoMove" : Str) C0 true) (x0_8 : XisK K ("NoName" : Str) C0 false) (x0_9 : XisK K ("NoText" : Str) C0 false) (x0_10 : XisK K ("NoRow" : Str) C0 false) (x0_11 : XisK K ("NoLevel" : Str) C0 false) (ve : PySem.W.nsIn K mainGlobals "ValueError" = some none) (m1_0 : MisK K w ("BARE_LOWS" : Str) ("this" : Str)) (m1_1 : MisK K w ("BARE_LOWS" : Str) ("both" : Str)) (m1_2 : MisK K w ("BARE_LOWS" : Str) ("in" : Str)) (m1_3 : MisK K w ("BARE_LOWS" : Str) ("point" : Str)) (m1_4 : MisK K w ("BARE_LOWS" : Str) ("hole" : Str)) (m1_5 : MisK K w ("BARE_LOWS" : Str) ("sized" : Str)) : TopK lw K w where
  blt := b
  gls := (.cons h0 (.cons h1 (.cons h2 (.cons h3 (.cons h4 (.cons h5 (.cons h6 (.cons h7 (.cons h8 (.cons h9 (.cons h10 (.cons h11 (.cons h12 (.cons h13 (.cons h14 (.cons h15 (.cons h16 .nil)))))))))))))))))
  dcs := (.cons h17 (.cons h18 .nil))
  defs := (.cons (d0) (c0) (.cons (d1) (c1) (.cons (d2) (c2) (.cons (d3) (c3) (.cons (d4) (c4) (.cons (d5) (c5) (.cons (d6) (c6) (.cons (d7) (c7) (.cons (d8) (c8) (.cons (d9) (c9) (.cons (d10) (c10) (.cons (d11) (c11) (.cons (d12) (c12) (.cons (d13) (c13) (.cons (d14) (c14) (.cons (d15) (c15) (.cons (d16) (c16) (.cons (d17) (c17) (.cons (d18) (c18) (.cons (d19) (c19) (.cons (d20) (c20) (.cons (d21) (c21) (.cons (d22) (c22) (.cons (d23) (c23) (.cons (d24) (c24) (.cons (d25) (c25) (.cons (d26) (c26) (.cons (d27) (c27) (.cons (d28) (c28) (.cons (d29) (c29) (.cons (d30) (c30) (.cons (d31) (c31) (.cons (d32) (c32) (.cons (d33) (c33) (.cons (d34) (c34) (.cons (d35) (c35) (.cons (d36) (c36) (.cons (d37) (c37) (.cons (d38) (c38) (.cons (d39) (c39) (.cons (d40) (c40) (.cons (d41) (c41) (.cons (d42) (c42) (.cons (d43) (c43) (.cons (d44) (c44) (.cons (d45) (c45) (.cons (d46) (c46) .nil)))))))))))))))))))))))))))))))))))))))))))))))
  cls := (.cons ⟨_, _, _, _, _, _, rfl, rfl, it0, k0, (.cons ⟨_, rfl, x0_0⟩ (.cons ⟨_, rfl, x0_1⟩ (.cons ⟨_, rfl, x0_2⟩ (.cons ⟨_, rfl, x0_3⟩ (.cons ⟨_, rfl, x0_4⟩ (.cons ⟨_, rfl, x0_5⟩ (.cons ⟨_, rfl, x0_6⟩ (.cons ⟨_, rfl, x0_7⟩ (.cons ⟨_, rfl, x0_8⟩ (.cons ⟨_, rfl, x0_9⟩ (.cons ⟨_, rfl, x0_10⟩ (.cons ⟨_, rfl, x0_11⟩ .nil))))))))))))⟩ .nil)
  ve := fun h => ⟨rfl, ve⟩
  mis := (.cons .nil (.cons (.cons ⟨_, rfl, m1_0⟩ (.cons ⟨_, rfl, m1_1⟩ (.cons ⟨_, rfl, m1_2⟩ (.cons ⟨_, rfl, m1_3⟩ (.cons ⟨_, rfl, m1_4⟩ (.cons ⟨_, rfl, m1_5⟩ .nil)))))) .nil))
end K59

namespace K59
open PySem PySem.W PySem.Calls PyProof.Rows L2 PD
theorem topK {K : PySem.W.Frag} {w : World} (c : SaysP fxs wd dl tbs w K) : TopK lw K w :=
  tops
  (c.bltK (fun x hx => by
    simp only [bltNames, List.mem_cons, List.not_mem_nil, or_false] at hx
    rcases hx with rfl | rfl | rfl | rfl | rfl | rfl | rfl | rfl | rfl | rfl | rfl | rfl | rfl | rfl | rfl | rfl | rfl | rfl | rfl
    · exact ⟨0, rfl⟩
    · exact ⟨1, rfl⟩
    · exact ⟨2, rfl⟩
    · exact ⟨3, rfl⟩
    · exact ⟨4, rfl⟩
    · exact ⟨5, rfl⟩
    · exact ⟨6, rfl⟩
    · exact ⟨7, rfl⟩
    · exact ⟨8, rfl⟩
    · exact ⟨9, rfl⟩
    · exact ⟨10, rfl⟩
    · exact ⟨11, rfl⟩
    · exact ⟨12, rfl⟩
    · exact ⟨13, rfl⟩
    · exact ⟨14, rfl⟩
    · exact ⟨15, rfl⟩
    · exact ⟨16, rfl⟩
    · exact ⟨17, rfl⟩
    · exact ⟨18, rfl⟩))
  (c.glK 68 rfl)
  (c.glK 69 rfl)
  (c.glK 70 rfl)
  (c.glK 71 rfl)
  (c.glK 72 rfl)
  (c.glK 73 rfl)
  (c.glK 74 rfl)
  (c.glK 75 rfl)
  (c.glK 76 rfl)
  (c.glK 77 rfl)
  (c.glK 78 rfl)
  (c.glK 79 rfl)
  (c.glK 80 rfl)
  (c.glK 81 rfl)
  (c.glK 82 rfl)
  (c.glK 83 rfl)
  (c.glK 84 rfl)
  (c.dcK 85 0 rfl rfl)
  (c.dcK 86 1 rfl rfl)
  (c.defK 0 19 rfl rfl)
  (c.defK 1 20 rfl rfl)
  (c.defK 2 21 rfl rfl)
  (c.defK 3 22 rfl rfl)
  (c.defK 4 23 rfl rfl)
  (c.defK 5 24 rfl rfl)
  (c.defK 6 25 rfl rfl)
  (c.defK 7 26 rfl rfl)
  (c.defK 8 27 rfl rfl)
  (c.defK 9 28 rfl rfl)
  (c.defK 10 29 rfl rfl)
  (c.defK 11 30 rfl rfl)
  (c.defK 12 31 rfl rfl)
  (c.defK 13 32 rfl rfl)
  (c.defK 14 33 rfl rfl)
  (c.defK 15 34 rfl rfl)
  (c.defK 16 35 rfl rfl)
  (c.defK 17 36 rfl rfl)
  (c.defK 18 37 rfl rfl)
  (c.defK 19 38 rfl rfl)
  (c.defK 20 39 rfl rfl)
  (c.defK 21 40 rfl rfl)
  (c.defK 22 41 rfl rfl)
  (c.defK 23 42 rfl rfl)
  (c.defK 24 43 rfl rfl)
  (c.defK 25 44 rfl rfl)
  (c.defK 26 45 rfl rfl)
  (c.defK 27 46 rfl rfl)
  (c.defK 28 47 rfl rfl)
  (c.defK 29 48 rfl rfl)
  (c.defK 30 49 rfl rfl)
  (c.defK 31 50 rfl rfl)
  (c.defK 32 51 rfl rfl)
  (c.defK 33 52 rfl rfl)
  (c.defK 34 53 rfl rfl)
  (c.defK 35 54 rfl rfl)
  (c.defK 36 55 rfl rfl)
  (c.defK 37 56 rfl rfl)
  (c.defK 38 57 rfl rfl)
  (c.defK 39 58 rfl rfl)
  (c.defK 40 59 rfl rfl)
  (c.defK 41 60 rfl rfl)
  (c.defK 42 61 rfl rfl)
  (c.defK 43 62 rfl rfl)
  (c.defK 44 63 rfl rfl)
  (c.defK 45 64 rfl rfl)
  (c.defK 46 65 rfl rfl)
  (c.clsK 93 47 rfl rfl)
  (c.xisK 94 rfl)
  (c.xisK 95 rfl)
  (c.xisK 96 rfl)
  (c.xisK 97 rfl)
  (c.xisK 98 rfl)
  (c.xisK 99 rfl)
  (c.xisK 100 rfl)
  (c.xisK 101 rfl)
  (c.xisK 102 rfl)
  (c.xisK 103 rfl)
  (c.xisK 104 rfl)
  (c.xisK 105 rfl)
  (c.freeK 106 rfl)
  (c.misK 87 1 67 rfl rfl rfl)
  (c.misK 88 1 67 rfl rfl rfl)
  (c.misK 89 1 67 rfl rfl rfl)
  (c.misK 90 1 67 rfl rfl rfl)
  (c.misK 91 1 67 rfl rfl rfl)
  (c.misK 92 1 67 rfl rfl rfl)
end K59
section
open PySem PySem.W PySem.Calls PyProof.Rows
theorem K59.main (lawh : ∀ ns : List Int, ns.length ≤ 63 → ∃ ps, PD.callF K59.lw.fns K59.lw.gv 500 (119 + 1) 11 [(false, .scr ns)] = some ((false, .bl true), ps)) : PySem.Challenge.rw_kindmakes_k59_too_wide_or_not_right.Holds := by
  w_on; o_law
  refine HandSHeadRun.head_any (r := OpenLaw.row PySem.Challenge.rw_kindmakes_k59_too_wide_or_not_right) (q := view (OpenLaw.row PySem.Challenge.rw_kindmakes_k59_too_wide_or_not_right).prog [137]) (H := K59.hk) (ob := K59.ob) (M := 12000) (loose := K59.nms) (d := HandSHeadRun.topDef (OpenLaw.row PySem.Challenge.rw_kindmakes_k59_too_wide_or_not_right).prog 137) (kwd := []) PD.obP_eq
    (by kernel_rfl) (fun s => by kernel_rfl) K59.run (by kernel_rfl) (by kernel_rfl) (by kernel_rfl) (by rfl) (by first | assumption | decide +kernel) (by decide +kernel) ⟨rfl, rfl, rfl, rfl, rfl, by decide +kernel⟩ ?hw ?hc
  case hw => w_witness2
  case hc =>
    refine PD.walkP (l := PySem.Challenge.rw_kindmakes_k59_too_wide_or_not_right) (wf := 500) (k := 119) (fi := 11) K59.lw rfl (by decide) (by kernel_rfl) ⟨rfl, by decide, by decide⟩ (fun w h Y => ?_) K59.wok (by kernel_rfl) lawh
    obtain ⟨K, X, c⟩ := Y
    exact ⟨K, X, K59.topK c⟩
end
/-! Reading a body: what must hold so that the evaluator answers so. -/
namespace PD
def getK : Env → Nat → (Fl → D → Prop) → Prop
  | some (f, d) :: _, 0, k => k f d
  | _ :: r, n + 1, k => getK r n k
  | _, _, _ => False
def setK : Env → Nat → Cell → (Env → Prop) → Prop
  | _ :: r, 0, c, k => k (c :: r)
  | x :: r, n + 1, c, k => setK r n c fun r' => k (x :: r')
  | [], _, _, _ => False
def readK (e : Env) (i : Nat) (P : D → Env → Prop) : Prop := getK e i fun f d => match f with
  | .fro => P d e
  | .lfro => P d e
  | .own => setK e i (some (.fro, d)) (P d)
  | .lent => setK e i (some (.lfro, d)) (P d)
def ownK (e : Env) (i : Nat) (P : Fl → D → Prop) : Prop := getK e i fun f d => match f with
  | .own => P .own d
  | .lent => P .lent d
  | _ => False
def freeK : Env → Nat → Prop → Prop
  | none :: _, 0, P => P
  | some (.fro, _) :: _, 0, P => P
  | some (.own, _) :: _, 0, P => P
  | _ :: r, n + 1, P => freeK r n P
  | _, _, _ => False
def putK (e : Env) (i : Nat) (o : Bool) (d : D) (P : Env → Prop) : Prop := freeK e i (match o with
  | true => setK e i (some (.own, d)) P
  | false => setK e i (some (.fro, d)) P)
def argsK (e : Env) : List Arg → (List (Bool × D) → Prop) → Prop
  | [], k => k []
  | .v d :: r, k => argsK e r fun l => k ((false, d) :: l)
  | .s i :: r, k => getK e i fun f d => match f with
    | .own => argsK e r fun l => k ((true, d) :: l)
    | .lent => argsK e r fun l => k ((true, d) :: l)
    | .fro => argsK e r fun l => k ((false, d) :: l)
    | .lfro => argsK e r fun l => k ((false, d) :: l)
def postsK : List Arg → List (Bool × D) → Env → (Env → Prop) → Prop
  | [], _, e, k => k e
  | .v _ :: r, _ :: ps, e, k => postsK r ps e k
  | .s i :: r, p :: ps, e, k => getK e i fun f _ => match f with
    | .own => (match p with
      | (true, d) => setK e i (some (.own, d)) fun e' => postsK r ps e' k
      | (false, d) => setK e i (some (.fro, d)) fun e' => postsK r ps e' k)
    | .lent => (match p with
      | (true, d) => setK e i (some (.lent, d)) fun e' => postsK r ps e' k
      | (false, d) => setK e i (some (.lfro, d)) fun e' => postsK r ps e' k)
    | .fro => postsK r ps e k
    | .lfro => postsK r ps e k
  | _ :: _, [], e, k => False
def clearK : List Nat → Env → (Env → Prop) → Prop
  | [], e, k => k e
  | i :: is, e, k => setK e i none fun e' => clearK is e' k
def backK (e0 : Env) : List Nat → Env → (Env → Prop) → Prop
  | [], e, k => k e
  | i :: is, e, k => match e0[i]? with
    | some (some (.fro, d)) => setK e i (some (.fro, d)) fun e' => backK e0 is e' k
    | _ => backK e0 is e k
def putTK : TGt → D → Env → (Env → Prop) → Prop
  | .one i, d, e, k => putK e i false d k
  | .two i j, .tup [a, b], e, k => putK e i false a fun e1 => putK e1 j false b k
  | _, _, _, _ => False
def putTsK : List Nat → List D → Env → (Env → Prop) → Prop
  | [], [], e, k => k e
  | i :: is, d :: ds, e, k => putK e i false d fun e1 => putTsK is ds e1 k
  | _, _, _, _ => False
def postK (e : Env) : List (Bool × D) → Nat → (List (Bool × D) → Prop) → Prop
  | [], _, k => k []
  | (false, d) :: r, i, k => postK e r (i + 1) fun l => k ((false, d) :: l)
  | (true, _) :: r, i, k => getK e i fun f d => match f with
    | .lent => postK e r (i + 1) fun l => k ((true, d) :: l)
    | .lfro => postK e r (i + 1) fun l => k ((false, d) :: l)
    | _ => False
abbrev PE3 := Bool → D → Env → Prop
/-- an answer that is looked at by hand -/
@[irreducible] def Ask {α : Type} (x : Option α) (P : α → Prop) : Prop := ∃ a, x = some a ∧ P a
theorem ask {α : Type} {x : Option α} {P : α → Prop} {a : α} (h : x = some a) (k : P a) : Ask x P := by
  unfold Ask
  exact ⟨a, h, k⟩
theorem ask_ok {α : Type} {x : Option α} {P : α → Prop} (h : Ask x P) : ∃ a, x = some a ∧ P a := by
  unfold Ask at h
  exact h
structure Wm where
  ev : PE3 → Env → Prop
  lk : (D → Env → Prop) → Env → Prop
  t : (Bool → Env → Prop) → Env → Prop
  ar : (Arg → Env → Prop) → Env → Prop
def Wm.of (f : PE3 → Env → Prop) : Wm where
  ev := f
  lk := fun P => f fun _ d e => P d e
  t := fun P => f fun _ d e => ∃ b, trD d = some b ∧ P b e
  ar := fun P => f fun _ d e => P (.v d) e
structure Wms where
  ev : (List D → Env → Prop) → Env → Prop
  ar : (List Arg → Env → Prop) → Env → Prop
  t : (Bool → Env → Prop) → Env → Prop
def wcomp (f : D → (Option D → Env → Prop) → Env → Prop) : List D → (List D → Env → Prop) → Env → Prop
  | [], P, e => P [] e
  | x :: r, P, e => f x (fun o e1 => wcomp f r (fun ys e2 => P (match o with | some y => y :: ys | none => ys) e2) e1) e
def wfor0 (f : D → (Env → Flow → Prop) → Env → Prop) : List D → (Env → Flow → Prop) → Env → Prop
  | [], P, e => P e .nx
  | x :: r, P, e => f x (fun e1 fl => match fl with
    | .nx => wfor0 f r P e1
    | .ct => wfor0 f r P e1
    | .bk => P e1 .nx
    | .rt o d => P e1 (.rt o d)
    | .ex k f d => P e1 (.ex k f d)) e
def wwhl0 (c : (Bool → Env → Prop) → Env → Prop) (f : (Env → Flow → Prop) → Env → Prop) : Nat → (Env → Flow → Prop) → Env → Prop
  | 0, _, _ => False
  | n + 1, P, e => c (fun b e1 => match b with
    | false => P e1 .nx
    | true => f (fun e2 fl => match fl with
      | .nx => wwhl0 c f n P e2
      | .ct => wwhl0 c f n P e2
      | .bk => P e2 .nx
      | .rt o d => P e2 (.rt o d)
      | .ex k f d => P e2 (.ex k f d)) e1) e
@[irreducible] def wfor (f : D → (Env → Flow → Prop) → Env → Prop) (ds : List D) (P : Env → Flow → Prop) (e : Env) : Prop := wfor0 f ds P e
@[irreducible] def wwhl (c : (Bool → Env → Prop) → Env → Prop) (f : (Env → Flow → Prop) → Env → Prop) (n : Nat) (P : Env → Flow → Prop) (e : Env) : Prop := wwhl0 c f n P e
theorem wwhl_s {c : (Bool → Env → Prop) → Env → Prop} {f : (Env → Flow → Prop) → Env → Prop} {n : Nat} {P : Env → Flow → Prop} {e : Env} : wwhl c f (n + 1) P e = c (fun b e1 => match b with
    | false => P e1 .nx
    | true => f (fun e2 fl => match fl with
      | .nx => wwhl c f n P e2
      | .ct => wwhl c f n P e2
      | .bk => P e2 .nx
      | .rt o d => P e2 (.rt o d)
      | .ex k f d => P e2 (.ex k f d)) e1) e := by
  unfold wwhl
  rfl
theorem wwhl_0 {c : (Bool → Env → Prop) → Env → Prop} {f : (Env → Flow → Prop) → Env → Prop} {P : Env → Flow → Prop} {e : Env} : wwhl c f 0 P e = False := by
  unfold wwhl
  rfl
theorem wfor_n {f : D → (Env → Flow → Prop) → Env → Prop} {P : Env → Flow → Prop} {e : Env} : wfor f [] P e = P e .nx := by
  unfold wfor
  rfl
theorem wfor_c {f : D → (Env → Flow → Prop) → Env → Prop} {x : D} {r : List D} {P : Env → Flow → Prop} {e : Env} : wfor f (x :: r) P e = f x (fun e1 fl => match fl with
    | .nx => wfor f r P e1
    | .ct => wfor f r P e1
    | .bk => P e1 .nx
    | .rt o d => P e1 (.rt o d)
    | .ex k f d => P e1 (.ex k f d)) e := by
  unfold wfor
  rfl
theorem wcomp_n {f : D → (Option D → Env → Prop) → Env → Prop} {P : List D → Env → Prop} {e : Env} : wcomp f [] P e = P [] e := rfl
theorem wcomp_c {f : D → (Option D → Env → Prop) → Env → Prop} {x : D} {r : List D} {P : List D → Env → Prop} {e : Env} : wcomp f (x :: r) P e = f x (fun o e1 => wcomp f r (fun ys e2 => P (match o with | some y => y :: ys | none => ys) e2) e1) e := rfl
section
variable (Φ : Phi) (gv : Nat → D) (wf : Nat)
mutual
def wm : IE → Wm
  | .var i => { ev := fun P e => readK e i fun d e' => P false d e', lk := fun P e => getK e i fun _ d => P d e, t := fun P e => getK e i fun _ d => ∃ b, trD d = some b ∧ P b e, ar := fun P e => getK e i fun _ _ => P (.s i) e }
  | .never => Wm.of fun _ _ => False
  | .cI i => Wm.of fun P e => P false (.int i) e
  | .cB b => Wm.of fun P e => P false (.bl b) e
  | .cN => Wm.of fun P e => P false .non e
  | .cW k => Wm.of fun P e => P false (.w k) e
  | .gl g => Wm.of fun P e => P false (gv g) e
  | .bin op a b => Wm.of fun P e => (wm a).ev (fun _ x e1 => (wm b).ev (fun _ y e2 => ∃ d, binD op x y = some d ∧ P (isL d) d e2) e1) e
  | .neg a => Wm.of fun P e => (wm a).ev (fun _ x e1 => match x with | .int i => P false (.int (-i)) e1 | _ => False) e
  | .cmp op a b => Wm.of fun P e => (wm a).ev (fun _ x e1 => (wm b).lk (fun y e2 => ∃ r, cmpD op x y = some r ∧ P false (.bl r) e2) e1) e
  | .ch o1 o2 a b c => Wm.of fun P e => (wm a).ev (fun _ x e1 => (wm b).ev (fun _ y e2 => ∃ r, cmpD o1 x y = some r ∧ (match r with
      | true => (wm c).ev (fun _ z e3 => ∃ s, cmpD o2 y z = some s ∧ P false (.bl s) e3) e2
      | false => P false (.bl false) e2)) e1) e
  | .and_ a b => { Wm.of (fun P e => (wm a).ev (fun _ x e1 => match x with
      | .bl c => (match c with
        | true => (wm b).ev (fun _ y e2 => match y with | .bl c => P false (.bl c) e2 | _ => False) e1
        | false => P false (.bl false) e1)
      | _ => False) e) with t := fun P e => (wm a).t (fun c e1 => match c with | true => (wm b).t P e1 | false => P false e1) e }
  | .or_ a b => { Wm.of (fun P e => (wm a).ev (fun _ x e1 => match x with
      | .bl c => (match c with
        | false => (wm b).ev (fun _ y e2 => match y with | .bl c => P false (.bl c) e2 | _ => False) e1
        | true => P false (.bl true) e1)
      | _ => False) e) with t := fun P e => (wm a).t (fun c e1 => match c with | true => P true e1 | false => (wm b).t P e1) e }
  | .not_ a => { Wm.of (fun P e => (wm a).ev (fun _ x e1 => match x with | .bl c => P false (.bl (!c)) e1 | _ => False) e) with t := fun P e => (wm a).t (fun c e1 => P (!c) e1) e }
  | .ite c a b => { Wm.of (fun P e => (wm c).t (fun r e1 => match r with | true => (wm a).ev P e1 | false => (wm b).ev P e1) e) with t := fun _ _ => False }
  | .tup es => Wm.of fun P e => (wms es).ev (fun ds e1 => P false (.tup ds) e1) e
  | .lst es => Wm.of fun P e => (wms es).ev (fun ds e1 => P true (.lst ds) e1) e
  | .dnew => Wm.of fun P e => P true (.dic [] []) e
  | .idx a b => Wm.of fun P e => (wm a).ev (fun _ x e1 => (wm b).ev (fun _ y e2 => ∃ d, idxD x y = some d ∧ P false d e2) e1) e
  | .idxV i b => Wm.of fun P e => getK e i fun _ _ => (wm b).ev (fun _ y e1 => getK e1 i fun _ x => ∃ d, idxD x y = some d ∧ P false d e1) e
  | .slL a lo => Wm.of fun P e => (wm a).ev (fun _ x e1 => (wm lo).ev (fun _ y e2 => match y with | .int i => Ask (slD (some i) none x) fun d => P (isL d) d e2 | _ => False) e1) e
  | .slU a hi => Wm.of fun P e => (wm a).ev (fun _ x e1 => (wm hi).ev (fun _ y e2 => match y with | .int i => Ask (slD none (some i) x) fun d => P (isL d) d e2 | _ => False) e1) e
  | .slB a lo hi => Wm.of fun P e => (wm a).ev (fun _ x e1 => (wm lo).ev (fun _ y e2 => (wm hi).ev (fun _ z e3 => match y, z with | .int i, .int j => Ask (slD (some i) (some j) x) fun d => P (isL d) d e3 | _, _ => False) e2) e1) e
  | .slR a => Wm.of fun P e => (wm a).ev (fun _ x e1 => Ask (revD x) fun d => P (isL d) d e1) e
  | .call f es => Wm.of fun P e => (wms es).ar (fun as e1 => argsK e1 as fun vs => nodupN (lentAt e1 as) = true ∧ ∃ r, Φ f vs = some r ∧ isX r.1 = none ∧ (match r with | ((o, d), ps) => postsK as ps e1 fun e2 => P o d e2)) e
  | .bi b a => Wm.of fun P e => (wm a).lk (fun x e1 => ∃ r, biD b x = some r ∧ P r.1 r.2 e1) e
  | .b2 b a c => Wm.of fun P e => (wm a).ev (fun _ x e1 => (wm c).ev (fun _ y e2 => ∃ d, b2D b x y = some d ∧ P false d e2) e1) e
  | .isi t a => Wm.of fun P e => (wm a).ev (fun _ x e1 => ∃ r, isiD t x = some r ∧ P false (.bl r) e1) e
  | .tupR a => Wm.of fun P e => (wm a).ev (fun _ x e1 => match x with
      | .int n => (-1000000 ≤ n ∧ n ≤ 1000000) ∧ P false (.tup ((upto 0 n.toNat).map D.int)) e1
      | _ => False) e
  | .lstR a => Wm.of fun P e => (wm a).ev (fun _ x e1 => match x with
      | .int n => (-1000000 ≤ n ∧ n ≤ 1000000) ∧ P true (.lst ((upto 0 n.toNat).map D.int)) e1
      | _ => False) e
  | .comp t it cs a => Wm.of fun P e => wI it (fun ds e1 => ds.length ≤ 1000000 ∧ clearK t.is e1 fun e2 =>
      wcomp (fun x Q en => putTK t x en fun en1 => (wms cs).t (fun b en2 => match b with
        | true => (wm a).ev (fun _ y en3 => clearK t.is en3 (Q (some y))) en2
        | false => clearK t.is en2 (Q none)) en1) ds (fun ys e3 => backK e1 t.is e3 fun e4 => P true (.lst ys) e4) e2) e
  | .dget i b => Wm.of fun P e => getK e i fun _ _ => (wm b).ev (fun _ y e1 => getK e1 i fun _ x => Ask (dgetD x y) fun d => P false d e1) e
  | .gget g b => Wm.of fun P e => (wm b).ev (fun _ y e1 => Ask (dgetD (gv g) y) fun d => P false d e1) e
  | .din neg a i => Wm.of fun P e => (wm a).ev (fun _ y e1 => getK e1 i fun _ x => Ask (dinD x y) fun b => P false (.bl (match neg with | true => !b | false => b)) e1) e
  | .dinG neg a g ms => Wm.of fun P e => (wm a).ev (fun _ y e1 => Ask (dinGD (gv g) ms y) fun b => P false (.bl (match neg with | true => !b | false => b)) e1) e
  | .dlit ks es => Wm.of fun P e => (wms es).ev (fun ds e1 => (ks.length = ds.length ∧ ks.Nodup) ∧ P true (.dic (ks.map DK.w) ds) e1) e
  | .sortW a ks ss => Wm.of fun P e => (wm a).ev (fun _ x e1 => match x with
      | .dic l _ => l = ks.map DK.w ∧ P true (.lst (ss.map D.w)) e1
      | _ => False) e
  | .getE d k x => Wm.of fun P e => (wm d).ev (fun _ a e1 => (wm k).ev (fun _ b e2 => (wm x).ev (fun _ c e3 => match a with
      | .dic ks vs => ∃ y, keyD b = some y ∧ P false ((findD ks vs y).getD c) e3
      | _ => False) e2) e1) e
  | .dgetE d k => Wm.of fun P e => (wm d).ev (fun _ a e1 => (wm k).ev (fun _ b e2 => Ask (dgetD a b) fun v => P false v e2) e1) e
  | .eqE neg i => Wm.of fun P e => getK e i fun _ x => ∃ r, cmpD (match neg with | true => .ne | false => .eq) x (.lst []) = some r ∧ P false (.bl r) e
  | .maxD a c => Wm.of fun P e => (wm a).ev (fun _ x e1 => (wm c).ev (fun _ y e2 => match x, y with | .lst xs, .int d => ∃ ns, intsD xs = some ns ∧ P false (.int (match ns with | [] => d | m :: r => maxI m r)) e2 | _, _ => False) e1) e
  | .sset a => Wm.of fun P e => (wm a).ev (fun _ x e1 => match x with | .lst xs => ∃ ns, intsD xs = some ns ∧ ns.length < 64 ∧ P true (.lst ((sortU ns).map D.int)) e1 | _ => False) e
  | .app i a => Wm.of fun P e => getK e i fun _ z => isL z = true ∧ (wm a).ev (fun _ y e1 => ownK e1 i fun f d => match d with | .lst xs => xs.length < 1000000 ∧ setK e1 i (some (f, .lst (xs ++ [y]))) (P false .non) | _ => False) e
  | .ext i a => Wm.of fun P e => getK e i fun _ z => isL z = true ∧ (wm a).ev (fun _ y e1 => ownK e1 i fun f d => match d, y with | .lst xs, .lst ys => xs.length + ys.length ≤ 1000000 ∧ setK e1 i (some (f, .lst (xs ++ ys))) (P false .non) | _, _ => False) e
  | .popAt i a => Wm.of fun P e => getK e i fun _ z => isL z = true ∧ (wm a).ev (fun _ y e1 => ownK e1 i fun f d => match d, y with | .lst xs, .int k => (0 ≤ k ∧ k < 2 ^ 62) ∧ ∃ x, xs[k.toNat]? = some x ∧ setK e1 i (some (f, .lst (xs.eraseIdx k.toNat))) (P false x) | _, _ => False) e
  | .pop i => Wm.of fun P e => ownK e i fun f d => match d with | .lst xs => ∃ x, xs[xs.length - 1]? = some x ∧ setK e i (some (f, .lst xs.dropLast)) (P false x) | _ => False
  | .clear i => Wm.of fun P e => ownK e i fun f d => match d with | .lst _ => setK e i (some (f, .lst [])) (P false .non) | _ => False
def wms : IEs → Wms
  | .nil => { ev := fun P e => P [] e, ar := fun P e => P [] e, t := fun P e => P true e }
  | .cons a r => {
      ev := fun P e => (wm a).ev (fun _ x e1 => (wms r).ev (fun xs e2 => P (x :: xs) e2) e1) e
      ar := fun P e => (wm a).ar (fun x e1 => (wms r).ar (fun xs e2 => P (x :: xs) e2) e1) e
      t := fun P e => (wm a).t (fun b e1 => match b with | true => (wms r).t P e1 | false => P false e1) e }
def wI : IT → (List D → Env → Prop) → Env → Prop
  | .seq a => fun P e => (wm a).ev (fun _ x e1 => match x with
      | .lst xs => P xs e1
      | .tup xs => P xs e1
      | _ => False) e
  | .rng1 a => fun P e => (wm a).ev (fun _ x e1 => match x with
      | .int n => (-1000000 ≤ n ∧ n ≤ 1000000) ∧ P ((upto 0 n.toNat).map D.int) e1
      | _ => False) e
  | .rng2 a b => fun P e => (wm a).ev (fun _ x e1 => (wm b).ev (fun _ y e2 => match x, y with
      | .int m, .int n => (-1000000 ≤ m ∧ m ≤ 1000000 ∧ -1000000 ≤ n ∧ n ≤ 1000000) ∧ P ((upto m (n - m).toNat).map D.int) e2
      | _, _ => False) e1) e
end
def wC (f : Nat) (es : IEs) (P : XO → Env → Prop) (e : Env) : Prop := (wms Φ gv es).ar (fun as e1 => argsK e1 as fun vs => nodupN (lentAt e1 as) = true ∧ ∃ r, Φ f vs = some r ∧ (match isX r.1 with
  | some x => postsK as r.2 e1 fun e2 => P (.inr x) e2
  | none => postsK as r.2 e1 fun e2 => P (.inl r.1) e2)) e
def wX : IX → (XO → Env → Prop) → Env → Prop
  | .call f es => fun P e => wC Φ gv f es P e
  | .pre a f es => fun P e => (wm Φ gv a).ev (fun _ x e0 => wC Φ gv f es (fun q e1 => match q with
      | .inl r => P (.inl (false, .tup [x, r.2])) e1
      | .inr z => P (.inr z) e1) e0) e
def wPut (i : Nat) (k : IE) (x : D) (P : Env → Prop) (e : Env) : Prop := getK e i fun _ _ => (wm Φ gv k).ev (fun _ y e1 => ownK e1 i fun f d => match d with
  | .dic ks vs => ∃ q, keyD y = some q ∧ ks.length < 1000000 ∧ (Ask (some (putD ks vs q x)) fun r => match r with | (k2, v2) => setK e1 i (some (f, .dic k2 v2)) P)
  | _ => False) e
mutual
def wS : IS → (Env → Flow → Prop) → Env → Prop
  | .asgX i x => fun P e => wX Φ gv x (fun q e1 => match q with
      | .inl r => putK e1 i r.1 r.2 fun e2 => P e2 .nx
      | .inr z => P e1 (.ex z.1 z.2.1 z.2.2)) e
  | .retX x => fun P e => wX Φ gv x (fun q e1 => match q with
      | .inl r => P e1 (.rt r.1 r.2)
      | .inr z => P e1 (.ex z.1 z.2.1 z.2.2)) e
  | .exprX x => fun P e => wX Φ gv x (fun q e1 => match q with
      | .inl _ => P e1 .nx
      | .inr z => P e1 (.ex z.1 z.2.1 z.2.2)) e
  | .raise k f a => fun P e => (wm Φ gv a).ev (fun _ d e1 => P e1 (.ex k f d)) e
  | .tryA b c i xs h => fun P e => wSs b (fun e1 fl => match fl with
      | .ex k f d => (xs.contains (k, f) && unset e1 i) = true ∧ (c = k ∨ c = 0) ∧ ∃ e2, hs k f d h e1 = some e2 ∧ P e2 .nx
      | .nx => P e1 .nx
      | .rt o d => P e1 (.rt o d)
      | .bk => P e1 .bk
      | .ct => P e1 .ct) e
  | .asgQ i j l a b c => fun P e => (wm Φ gv a).ev (fun _ x e1 => (wm Φ gv b).ev (fun _ y e2 => (wm Φ gv c).ev (fun _ z e3 => putK e3 i false x fun e4 => putK e4 j false y fun e5 => putK e5 l false z fun e6 => P e6 .nx) e2) e1) e
  | .asg i a => fun P e => (wm Φ gv a).ev (fun o d e1 => putK e1 i o d fun e2 => P e2 .nx) e
  | .asgT is a => fun P e => (wm Φ gv a).ev (fun _ d e1 => match d with
      | .tup xs => putTsK is xs e1 fun e2 => P e2 .nx
      | .lst xs => putTsK is xs e1 fun e2 => P e2 .nx
      | _ => False) e
  | .asgP i j a b => fun P e => (wm Φ gv a).ev (fun _ x e1 => (wm Φ gv b).ev (fun _ y e2 => putK e2 i false x fun e3 => putK e3 j false y fun e4 => P e4 .nx) e1) e
  | .setI i k a => fun P e => (wm Φ gv a).ev (fun _ x e1 => getK e1 i fun _ _ => (wm Φ gv k).ev (fun _ y e2 => ownK e2 i fun f d => match d, y with | .lst xs, .int n => (0 ≤ n ∧ n < xs.length) ∧ setK e2 i (some (f, .lst (xs.set n.toNat x))) fun e3 => P e3 .nx | _, _ => False) e1) e
  | .dput i k a => fun P e => (wm Φ gv a).ev (fun _ x e1 => getK e1 i fun _ _ => (wm Φ gv k).ev (fun _ y e2 => ownK e2 i fun f d => match d with | .dic ks vs => ∃ q, keyD y = some q ∧ ks.length < 1000000 ∧ (Ask (some (putD ks vs q x)) fun r => match r with | (k2, v2) => setK e2 i (some (f, .dic k2 v2)) fun e3 => P e3 .nx) | _ => False) e1) e
  | .dputP i k1 k2 a => fun P e => (wm Φ gv a).ev (fun _ d e1 => match d with
      | .tup [x, y] => wPut Φ gv i k1 x (fun e2 => wPut Φ gv i k2 y (fun e3 => P e3 .nx) e2) e1
      | _ => False) e
  | .expr a => fun P e => (wm Φ gv a).ev (fun _ _ e1 => P e1 .nx) e
  | .ret a => fun P e => (wm Φ gv a).ev (fun o d e1 => P e1 (.rt o d)) e
  | .retV i => fun P e => getK e i fun f d => match f with
      | .own => setK e i none fun e' => P e' (.rt true d)
      | .lent => setK e i (some (.lfro, d)) fun e' => P e' (.rt false d)
      | .fro => P e (.rt false d)
      | .lfro => P e (.rt false d)
  | .retN => fun P e => P e (.rt false .non)
  | .pass => fun P e => P e .nx
  | .never => fun _ _ => False
  | .brk => fun P e => P e .bk
  | .cont => fun P e => P e .ct
  | .ite c t f => fun P e => (wm Φ gv c).t (fun b e1 => match b with | true => wSs t P e1 | false => wSs f P e1) e
  | .for_ t it b => fun P e => wI Φ gv it (fun ds e1 => wfor (fun x Q en => putTK t x en fun en1 => wSs b Q en1) ds P e1) e
  | .whl c b => fun P e => wwhl (fun Q en => (wm Φ gv c).t Q en) (fun Q en => wSs b Q en) wf P e
def wSs : ISs → (Env → Flow → Prop) → Env → Prop
  | .nil => fun P e => P e .nx
  | .cons s r => fun P e => wS s (fun e1 fl => match fl with
      | .nx => wSs r P e1
      | .rt o d => P e1 (.rt o d)
      | .bk => P e1 .bk
      | .ct => P e1 .ct
      | .ex k f d => P e1 (.ex k f d)) e
end
end
end PD
namespace PD
structure Rd (s : Sm) (m : Wm) : Prop where
  ev : ∀ P e, m.ev P e → ∃ r, s.ev e = some r ∧ P r.1 r.2.1 r.2.2
  lk : ∀ P e, m.lk P e → ∃ r, s.lk e = some r ∧ P r.1 r.2
  t : ∀ P e, m.t P e → ∃ r, s.t e = some r ∧ P r.1 r.2
  ar : ∀ P e, m.ar P e → ∃ r, s.ar e = some r ∧ P r.1 r.2
structure Rds (s : Sms) (m : Wms) : Prop where
  ev : ∀ P e, m.ev P e → ∃ r, s.ev e = some r ∧ P r.1 r.2
  ar : ∀ P e, m.ar P e → ∃ r, s.ar e = some r ∧ P r.1 r.2
  t : ∀ P e, m.t P e → ∃ r, s.t e = some r ∧ P r.1 r.2
theorem Rd.of {f : Env → Option (Bool × D × Env)} {g : PE3 → Env → Prop} (h : ∀ P e, g P e → ∃ r, f e = some r ∧ P r.1 r.2.1 r.2.2) : Rd (Sm.of f) (Wm.of g) where
  ev := h
  lk := fun P e q => by
    obtain ⟨r, h1, h2⟩ := h _ e q
    exact ⟨(r.2.1, r.2.2), by show (f e).map _ = _; rw [h1]; rfl, h2⟩
  t := fun P e q => by
    obtain ⟨r, h1, b, h2, h3⟩ := h _ e q
    exact ⟨(b, r.2.2), by show (f e).bind _ = _; rw [h1, Option.bind_some, h2]; rfl, h3⟩
  ar := fun P e q => by
    obtain ⟨r, h1, h2⟩ := h _ e q
    exact ⟨(.v r.2.1, r.2.2), by show (f e).map _ = _; rw [h1]; rfl, h2⟩
theorem wcomp_ok {f : D → Env → Option (Option D × Env)} {g : D → (Option D → Env → Prop) → Env → Prop} (h : ∀ x P e, g x P e → ∃ r, f x e = some r ∧ P r.1 r.2) : ∀ ds P e, wcomp g ds P e → ∃ r, cloop f ds e = some r ∧ P r.1 r.2
  | [], P, e, q => ⟨([], e), rfl, q⟩
  | x :: r, P, e, q => by
    obtain ⟨⟨o, e1⟩, h1, h2⟩ := h x _ e q
    obtain ⟨⟨ys, e2⟩, h3, h4⟩ := wcomp_ok h r _ e1 h2
    have e0 : cloop f (x :: r) e = (match f x e with
      | none => none
      | some (o, env1) => match cloop f r env1 with
        | none => none
        | some (ys, env2) => some (match o with | some y => y :: ys | none => ys, env2)) := rfl
    rw [e0, h1]
    dsimp only
    rw [h3]
    cases o with
    | none => exact ⟨_, rfl, h4⟩
    | some y => exact ⟨_, rfl, h4⟩
theorem wfor_ok {f : D → Env → Option (Env × Flow)} {g : D → (Env → Flow → Prop) → Env → Prop} (h : ∀ x P e, g x P e → ∃ r, f x e = some r ∧ P r.1 r.2) : ∀ ds P e, wfor g ds P e → ∃ r, floop f ds e = some r ∧ P r.1 r.2
  | [], P, e, q => by
    rw [wfor_n] at q
    exact ⟨(e, .nx), rfl, q⟩
  | x :: r, P, e, q => by
    rw [wfor_c] at q
    obtain ⟨⟨e1, fl⟩, h1, h2⟩ := h x _ e q
    unfold floop
    rw [h1]
    cases fl with
    | nx => exact wfor_ok h r P e1 h2
    | ct => exact wfor_ok h r P e1 h2
    | bk => exact ⟨(e1, .nx), rfl, h2⟩
    | rt o d => exact ⟨(e1, .rt o d), rfl, h2⟩
    | ex k f d => exact ⟨(e1, .ex k f d), rfl, h2⟩
theorem wwhl_ok {c : Env → Option (Bool × Env)} {f : Env → Option (Env × Flow)} {wc : (Bool → Env → Prop) → Env → Prop} {g : (Env → Flow → Prop) → Env → Prop} (hc : ∀ P e, wc P e → ∃ r, c e = some r ∧ P r.1 r.2) (h : ∀ P e, g P e → ∃ r, f e = some r ∧ P r.1 r.2) :
    ∀ n P e, wwhl wc g n P e → ∃ r, wloop c f n e = some r ∧ P r.1 r.2
  | 0, P, e, q => by
    rw [wwhl_0] at q
    exact q.elim
  | n + 1, P, e, q => by
    rw [wwhl_s] at q
    obtain ⟨⟨b, e1⟩, h1, h2⟩ := hc _ e q
    unfold wloop
    rw [h1]
    cases b with
    | false => exact ⟨(e1, .nx), rfl, h2⟩
    | true =>
      obtain ⟨⟨e2, fl⟩, h3, h4⟩ := h _ e1 h2
      dsimp only
      rw [h3]
      cases fl with
      | nx => exact wwhl_ok hc h n P e2 h4
      | ct => exact wwhl_ok hc h n P e2 h4
      | bk => exact ⟨(e2, .nx), rfl, h4⟩
      | rt o d => exact ⟨(e2, .rt o d), rfl, h4⟩
      | ex k f d => exact ⟨(e2, .ex k f d), rfl, h4⟩
theorem getK_ok : ∀ {e : Env} {i : Nat} {k : Fl → D → Prop}, getK e i k → ∃ f d, getC e i = some (f, d) ∧ k f d
  | some (f, d) :: _, 0, k, h => ⟨f, d, rfl, h⟩
  | none :: r, n + 1, k, h => getK_ok (e := r) (i := n) h
  | some _ :: r, n + 1, k, h => getK_ok (e := r) (i := n) h
theorem setK_ok : ∀ {e : Env} {i : Nat} {c : Cell} {k : Env → Prop}, setK e i c k → k (e.set i c)
  | _ :: r, 0, c, k, h => h
  | x :: r, n + 1, c, k, h => setK_ok (e := r) (i := n) (k := fun r' => k (x :: r')) h
theorem readK_ok {e : Env} {i : Nat} {P : D → Env → Prop} (h : readK e i P) : ∃ p, readV e i = some p ∧ P p.1 p.2 := by
  obtain ⟨f, d, h1, h2⟩ := getK_ok h
  unfold readV
  rw [h1]
  cases f with
  | fro => exact ⟨_, rfl, h2⟩
  | lfro => exact ⟨_, rfl, h2⟩
  | own => exact ⟨_, rfl, setK_ok h2⟩
  | lent => exact ⟨_, rfl, setK_ok h2⟩
theorem lookK_ok {e : Env} {i : Nat} {k : Fl → D → Prop} (h : getK e i k) : ∃ f d, lookV e i = some d ∧ k f d := by
  obtain ⟨f, d, h1, h2⟩ := getK_ok h
  exact ⟨f, d, by unfold lookV; rw [h1]; rfl, h2⟩
theorem ownK_ok {e : Env} {i : Nat} {P : Fl → D → Prop} (h : ownK e i P) : ∃ f d, ownC e i = some (f, d) ∧ P f d := by
  obtain ⟨f, d, h1, h2⟩ := getK_ok h
  unfold ownC
  rw [h1]
  cases f with
  | own => exact ⟨_, _, rfl, h2⟩
  | lent => exact ⟨_, _, rfl, h2⟩
  | fro => exact h2.elim
  | lfro => exact h2.elim
theorem freeK_ok : ∀ {e : Env} {i : Nat} {P : Prop}, freeK e i P → freeC e i = true ∧ P
  | none :: _, 0, P, h => ⟨rfl, h⟩
  | some (.fro, _) :: _, 0, P, h => ⟨rfl, h⟩
  | some (.own, _) :: _, 0, P, h => ⟨rfl, h⟩
  | some (.lent, _) :: _, 0, P, h => h.elim
  | some (.lfro, _) :: _, 0, P, h => h.elim
  | none :: r, n + 1, P, h => freeK_ok (e := r) (i := n) h
  | some (.fro, _) :: r, n + 1, P, h => freeK_ok (e := r) (i := n) h
  | some (.own, _) :: r, n + 1, P, h => freeK_ok (e := r) (i := n) h
  | some (.lent, _) :: r, n + 1, P, h => freeK_ok (e := r) (i := n) h
  | some (.lfro, _) :: r, n + 1, P, h => freeK_ok (e := r) (i := n) h
theorem putK_ok {e : Env} {i : Nat} {o : Bool} {d : D} {P : Env → Prop} (h : putK e i o d P) : ∃ e2, putC e i o d = some e2 ∧ P e2 := by
  obtain ⟨h1, h2⟩ := freeK_ok h
  unfold putC
  rw [if_pos h1]
  cases o with
  | true => exact ⟨_, rfl, setK_ok h2⟩
  | false => exact ⟨_, rfl, setK_ok h2⟩
theorem argsK_ok {e : Env} : ∀ {as : List Arg} {k : List (Bool × D) → Prop}, argsK e as k → ∃ vs, argsOf e as = some vs ∧ k vs
  | [], k, h => ⟨[], rfl, h⟩
  | .v d :: r, k, h => by
    obtain ⟨vs, h1, h2⟩ := argsK_ok (as := r) h
    exact ⟨_, by show (argsOf e r).map _ = _; rw [h1]; rfl, h2⟩
  | .s i :: r, k, h => by
    obtain ⟨f, d, h1, h2⟩ := getK_ok h
    cases f with
    | own =>
      obtain ⟨vs, h3, h4⟩ := argsK_ok (as := r) h2
      exact ⟨_, by unfold argsOf; rw [h1]; show (argsOf e r).map _ = _; rw [h3]; rfl, h4⟩
    | lent =>
      obtain ⟨vs, h3, h4⟩ := argsK_ok (as := r) h2
      exact ⟨_, by unfold argsOf; rw [h1]; show (argsOf e r).map _ = _; rw [h3]; rfl, h4⟩
    | fro =>
      obtain ⟨vs, h3, h4⟩ := argsK_ok (as := r) h2
      exact ⟨_, by unfold argsOf; rw [h1]; show (argsOf e r).map _ = _; rw [h3]; rfl, h4⟩
    | lfro =>
      obtain ⟨vs, h3, h4⟩ := argsK_ok (as := r) h2
      exact ⟨_, by unfold argsOf; rw [h1]; show (argsOf e r).map _ = _; rw [h3]; rfl, h4⟩
theorem postsK_ok : ∀ {as : List Arg} {ps : List (Bool × D)} {e : Env} {k : Env → Prop}, postsK as ps e k → k (posts as ps e)
  | [], ps, e, k, h => by cases ps <;> exact h
  | .v _ :: r, _ :: ps, e, k, h => postsK_ok (as := r) (ps := ps) h
  | .s i :: r, p :: ps, e, k, h => by
    obtain ⟨f, d, h1, h2⟩ := getK_ok h
    show k (posts r ps (postArg e i p))
    unfold postArg
    rw [h1]
    obtain ⟨b, x⟩ := p
    cases f with
    | own => cases b <;> exact postsK_ok (as := r) (ps := ps) (setK_ok h2)
    | lent => cases b <;> exact postsK_ok (as := r) (ps := ps) (setK_ok h2)
    | fro => exact postsK_ok (as := r) (ps := ps) h2
    | lfro => exact postsK_ok (as := r) (ps := ps) h2
theorem clearK_ok : ∀ {is : List Nat} {e : Env} {k : Env → Prop}, clearK is e k → k (clearAt is e)
  | [], e, k, h => h
  | i :: is, e, k, h => clearK_ok (is := is) (setK_ok h)
theorem backK_ok {e0 : Env} : ∀ {is : List Nat} {e : Env} {k : Env → Prop}, backK e0 is e k → k (back e0 is e)
  | [], e, k, h => h
  | i :: is, e, k, h => by
    have e1 : back e0 (i :: is) e = back e0 is (match e0[i]? with | some (some (.fro, d)) => e.set i (some (.fro, d)) | _ => e) := rfl
    have h : (match e0[i]? with | some (some (.fro, d)) => setK e i (some (.fro, d)) fun e' => backK e0 is e' k | _ => backK e0 is e k) := h
    rw [e1]
    generalize e0[i]? = c at h ⊢
    match c, h with
    | some (some (.fro, d)), h => exact backK_ok (is := is) (setK_ok h)
    | some (some (.own, d)), h => exact backK_ok (is := is) h
    | some (some (.lent, d)), h => exact backK_ok (is := is) h
    | some (some (.lfro, d)), h => exact backK_ok (is := is) h
    | some none, h => exact backK_ok (is := is) h
    | none, h => exact backK_ok (is := is) h
theorem putTK_ok : ∀ {t : TGt} {d : D} {e : Env} {k : Env → Prop}, putTK t d e k → ∃ e2, putT t d e = some e2 ∧ k e2
  | .one i, d, e, k, h => putK_ok h
  | .two i j, .tup [a, b], e, k, h => by
    have h : putK e i false a fun e1 => putK e1 j false b k := h
    obtain ⟨e1, h1, h2⟩ := putK_ok h
    obtain ⟨e2, h3, h4⟩ := putK_ok h2
    exact ⟨e2, by show (putC e i false a).bind _ = _; rw [h1, Option.bind_some, h3], h4⟩
theorem putTsK_ok : ∀ {is : List Nat} {ds : List D} {e : Env} {k : Env → Prop}, putTsK is ds e k → ∃ e2, putTs is ds e = some e2 ∧ k e2
  | [], [], e, k, h => ⟨e, rfl, h⟩
  | i :: is, d :: ds, e, k, h => by
    have h : putK e i false d fun e1 => putTsK is ds e1 k := h
    obtain ⟨e1, h1, h2⟩ := putK_ok h
    obtain ⟨e2, h3, h4⟩ := putTsK_ok (is := is) (ds := ds) h2
    exact ⟨e2, by show (putC e i false d).bind _ = _; rw [h1, Option.bind_some, h3], h4⟩
theorem postK_ok {e : Env} : ∀ {as : List (Bool × D)} {i : Nat} {k : List (Bool × D) → Prop}, postK e as i k → ∃ ps, postOf e as i = some ps ∧ k ps
  | [], i, k, h => ⟨[], rfl, h⟩
  | (false, d) :: r, i, k, h => by
    obtain ⟨ps, h1, h2⟩ := postK_ok (as := r) h
    exact ⟨_, by show (postOf e r (i + 1)).map _ = _; rw [h1]; rfl, h2⟩
  | (true, x) :: r, i, k, h => by
    obtain ⟨f, d, h1, h2⟩ := getK_ok h
    unfold postOf
    rw [h1]
    cases f with
    | lent =>
      obtain ⟨ps, h3, h4⟩ := postK_ok (as := r) h2
      exact ⟨_, by show (postOf e r (i + 1)).map _ = _; rw [h3]; rfl, h4⟩
    | lfro =>
      obtain ⟨ps, h3, h4⟩ := postK_ok (as := r) h2
      exact ⟨_, by show (postOf e r (i + 1)).map _ = _; rw [h3]; rfl, h4⟩
    | own => exact h2.elim
    | fro => exact h2.elim
section
variable {Φ : Phi} {gv : Nat → D} {wf : Nat}
mutual
theorem wm_ok : ∀ a : IE, Rd (sem Φ gv a) (wm Φ gv a)
  | .var i => {
      ev := fun P e q => by
        obtain ⟨p, h, q⟩ := readK_ok q
        exact ⟨(false, p.1, p.2), by show (readV e i).map _ = _; rw [h]; rfl, q⟩
      lk := fun P e q => by
        obtain ⟨f, p, h, q⟩ := lookK_ok q
        exact ⟨(p, e), by show (lookV e i).map _ = _; rw [h]; rfl, q⟩
      t := fun P e q => by
        obtain ⟨f, p, h, b, h2, q⟩ := lookK_ok q
        exact ⟨(b, e), by show (lookV e i).bind _ = _; rw [h, Option.bind_some, h2]; rfl, q⟩
      ar := fun P e q => by
        obtain ⟨f, d, h, q⟩ := getK_ok q
        exact ⟨(.s i, e), by show (getC e i).map _ = _; rw [h]; rfl, q⟩ }
  | .never => Rd.of fun P e q => q.elim
  | .cI i => Rd.of fun P e q => ⟨_, rfl, q⟩
  | .cB b => Rd.of fun P e q => ⟨_, rfl, q⟩
  | .cN => Rd.of fun P e q => ⟨_, rfl, q⟩
  | .cW k => Rd.of fun P e q => ⟨_, rfl, q⟩
  | .gl g => Rd.of fun P e q => ⟨_, rfl, q⟩
  | .bin op a b => Rd.of fun P e q => by
    obtain ⟨p, h1, q⟩ := (wm_ok a).ev _ e q
    obtain ⟨p2, h2, d, h3, q⟩ := (wm_ok b).ev _ _ q
    exact ⟨_, by rw [h1, Option.bind_some, h2, Option.bind_some, h3]; rfl, q⟩
  | .neg a => Rd.of fun P e q => by
    obtain ⟨⟨o, x, e1⟩, h1, q⟩ := (wm_ok a).ev _ e q
    cases x <;> first | exact q.elim | exact ⟨_, by rw [h1]; rfl, q⟩
  | .cmp op a b => Rd.of fun P e q => by
    obtain ⟨p, h1, q⟩ := (wm_ok a).ev _ e q
    obtain ⟨p2, h2, d, h3, q⟩ := (wm_ok b).lk _ _ q
    exact ⟨_, by rw [h1, Option.bind_some, h2, Option.bind_some, h3]; rfl, q⟩
  | .ch o1 o2 a b c => Rd.of fun P e q => by
    obtain ⟨p, h1, q⟩ := (wm_ok a).ev _ e q
    obtain ⟨p2, h2, r, h3, q⟩ := (wm_ok b).ev _ _ q
    cases r with
    | false => exact ⟨_, by rw [h1, Option.bind_some, h2, Option.bind_some, h3]; rfl, q⟩
    | true =>
      obtain ⟨p3, h4, d, h5, q⟩ := (wm_ok c).ev _ _ q
      exact ⟨_, by rw [h1, Option.bind_some, h2, Option.bind_some, h3, Option.bind_some, if_pos rfl, h4, Option.bind_some, h5]; rfl, q⟩
  | .and_ a b => by
    have h : ∀ P e, (wm Φ gv (.and_ a b)).ev P e → ∃ r, (sem Φ gv (.and_ a b)).ev e = some r ∧ P r.1 r.2.1 r.2.2 := fun P e q => by
      obtain ⟨⟨o, x, e1⟩, h1, q⟩ := (wm_ok a).ev _ e q
      cases x with
      | bl c =>
        cases c with
        | false => exact ⟨_, by show ((sem Φ gv a).ev e).bind _ = _; rw [h1]; rfl, q⟩
        | true =>
          obtain ⟨⟨o2, y, e2⟩, h2, q⟩ := (wm_ok b).ev _ _ q
          cases y <;> first | exact q.elim | exact ⟨_, by show ((sem Φ gv a).ev e).bind _ = _; rw [h1, Option.bind_some]; show ((sem Φ gv b).ev e1).bind _ = _; rw [h2]; rfl, q⟩
      | _ => exact q.elim
    exact ⟨h, (Rd.of h).lk, fun P e q => by
        obtain ⟨⟨c, e1⟩, h1, q⟩ := (wm_ok a).t _ e q
        cases c with
        | false => exact ⟨_, by show ((sem Φ gv a).t e).bind _ = _; rw [h1]; rfl, q⟩
        | true =>
          obtain ⟨r, h2, q⟩ := (wm_ok b).t _ _ q
          exact ⟨r, by show ((sem Φ gv a).t e).bind _ = _; rw [h1, Option.bind_some, if_pos rfl, h2], q⟩, (Rd.of h).ar⟩
  | .or_ a b => by
    have h : ∀ P e, (wm Φ gv (.or_ a b)).ev P e → ∃ r, (sem Φ gv (.or_ a b)).ev e = some r ∧ P r.1 r.2.1 r.2.2 := fun P e q => by
      obtain ⟨⟨o, x, e1⟩, h1, q⟩ := (wm_ok a).ev _ e q
      cases x with
      | bl c =>
        cases c with
        | true => exact ⟨_, by show ((sem Φ gv a).ev e).bind _ = _; rw [h1]; rfl, q⟩
        | false =>
          obtain ⟨⟨o2, y, e2⟩, h2, q⟩ := (wm_ok b).ev _ _ q
          cases y <;> first | exact q.elim | exact ⟨_, by show ((sem Φ gv a).ev e).bind _ = _; rw [h1, Option.bind_some]; show ((sem Φ gv b).ev e1).bind _ = _; rw [h2]; rfl, q⟩
      | _ => exact q.elim
    exact ⟨h, (Rd.of h).lk, fun P e q => by
        obtain ⟨⟨c, e1⟩, h1, q⟩ := (wm_ok a).t _ e q
        cases c with
        | true => exact ⟨_, by show ((sem Φ gv a).t e).bind _ = _; rw [h1]; rfl, q⟩
        | false =>
          obtain ⟨r, h2, q⟩ := (wm_ok b).t _ _ q
          exact ⟨r, by show ((sem Φ gv a).t e).bind _ = _; rw [h1, Option.bind_some, if_neg Bool.false_ne_true, h2], q⟩, (Rd.of h).ar⟩
  | .not_ a => by
    have h : ∀ P e, (wm Φ gv (.not_ a)).ev P e → ∃ r, (sem Φ gv (.not_ a)).ev e = some r ∧ P r.1 r.2.1 r.2.2 := fun P e q => by
      obtain ⟨⟨o, x, e1⟩, h1, q⟩ := (wm_ok a).ev _ e q
      cases x <;> first | exact q.elim | exact ⟨_, by show ((sem Φ gv a).ev e).bind _ = _; rw [h1]; rfl, q⟩
    exact ⟨h, (Rd.of h).lk, fun P e q => by
        obtain ⟨⟨c, e1⟩, h1, q⟩ := (wm_ok a).t _ e q
        exact ⟨_, by show ((sem Φ gv a).t e).map _ = _; rw [h1]; rfl, q⟩, (Rd.of h).ar⟩
  | .ite c a b => by
    have h : ∀ P e, (wm Φ gv (.ite c a b)).ev P e → ∃ r, (sem Φ gv (.ite c a b)).ev e = some r ∧ P r.1 r.2.1 r.2.2 := fun P e q => by
      obtain ⟨⟨r, e1⟩, h1, q⟩ := (wm_ok c).t _ e q
      cases r with
      | true =>
        obtain ⟨p, h2, q⟩ := (wm_ok a).ev _ _ q
        exact ⟨p, by show ((sem Φ gv c).t e).bind _ = _; rw [h1, Option.bind_some, if_pos rfl, h2], q⟩
      | false =>
        obtain ⟨p, h2, q⟩ := (wm_ok b).ev _ _ q
        exact ⟨p, by show ((sem Φ gv c).t e).bind _ = _; rw [h1, Option.bind_some, if_neg Bool.false_ne_true, h2], q⟩
    exact ⟨h, (Rd.of h).lk, fun P e q => q.elim, (Rd.of h).ar⟩
  | .tup es => Rd.of fun P e q => by
    obtain ⟨p, h1, q⟩ := (wms_ok es).ev _ e q
    exact ⟨_, by rw [h1]; rfl, q⟩
  | .lst es => Rd.of fun P e q => by
    obtain ⟨p, h1, q⟩ := (wms_ok es).ev _ e q
    exact ⟨_, by rw [h1]; rfl, q⟩
  | .dnew => Rd.of fun P e q => ⟨_, rfl, q⟩
  | .idx a b => Rd.of fun P e q => by
    obtain ⟨p, h1, q⟩ := (wm_ok a).ev _ e q
    obtain ⟨p2, h2, d, h3, q⟩ := (wm_ok b).ev _ _ q
    exact ⟨_, by rw [h1, Option.bind_some, h2, Option.bind_some, h3]; rfl, q⟩
  | .idxV i b => Rd.of fun P e q => by
    obtain ⟨_, z, h0, q⟩ := lookK_ok q
    obtain ⟨p, h1, q⟩ := (wm_ok b).ev _ e q
    obtain ⟨_, x, h2, d, h3, q⟩ := lookK_ok q
    exact ⟨_, by rw [h0, Option.bind_some, h1, Option.bind_some, h2, Option.bind_some, h3]; rfl, q⟩
  | .slL a lo => Rd.of fun P e q => by
    obtain ⟨p, h1, q⟩ := (wm_ok a).ev _ e q
    obtain ⟨⟨o, y, e2⟩, h2, q⟩ := (wm_ok lo).ev _ _ q
    cases y with
    | int i =>
      obtain ⟨d, h3, q⟩ := ask_ok q
      exact ⟨_, by rw [h1, Option.bind_some, h2, Option.bind_some]; dsimp only; rw [h3]; rfl, q⟩
    | _ => exact q.elim
  | .slU a lo => Rd.of fun P e q => by
    obtain ⟨p, h1, q⟩ := (wm_ok a).ev _ e q
    obtain ⟨⟨o, y, e2⟩, h2, q⟩ := (wm_ok lo).ev _ _ q
    cases y with
    | int i =>
      obtain ⟨d, h3, q⟩ := ask_ok q
      exact ⟨_, by rw [h1, Option.bind_some, h2, Option.bind_some]; dsimp only; rw [h3]; rfl, q⟩
    | _ => exact q.elim
  | .slB a lo hi => Rd.of fun P e q => by
    obtain ⟨p, h1, q⟩ := (wm_ok a).ev _ e q
    obtain ⟨⟨o, y, e2⟩, h2, q⟩ := (wm_ok lo).ev _ _ q
    obtain ⟨⟨o3, z, e3⟩, h3, q⟩ := (wm_ok hi).ev _ _ q
    cases y with
    | int i =>
      cases z with
      | int j =>
        obtain ⟨d, h4, q⟩ := ask_ok q
        exact ⟨_, by rw [h1, Option.bind_some, h2, Option.bind_some, h3, Option.bind_some]; dsimp only; rw [h4]; rfl, q⟩
      | _ => exact q.elim
    | _ => cases z <;> exact q.elim
  | .slR a => Rd.of fun P e q => by
    obtain ⟨p, h1, q⟩ := (wm_ok a).ev _ e q
    obtain ⟨d, h2, q⟩ := ask_ok q
    exact ⟨_, by rw [h1, Option.bind_some, h2]; rfl, q⟩
  | .call f es => Rd.of fun P e q => by
    obtain ⟨⟨as, e1⟩, h1, q⟩ := (wms_ok es).ar _ e q
    obtain ⟨vs, h2, h3, ⟨⟨o, d⟩, ps⟩, h4, h5, q⟩ := argsK_ok q
    exact ⟨_, by rw [h1, Option.bind_some]; dsimp only; rw [h2, Option.bind_some, if_pos h3, h4, Option.bind_some, h5], postsK_ok q⟩
  | .bi b a => Rd.of fun P e q => by
    obtain ⟨p, h1, d, h2, q⟩ := (wm_ok a).lk _ e q
    exact ⟨_, by rw [h1, Option.bind_some, h2]; rfl, q⟩
  | .b2 b a c => Rd.of fun P e q => by
    obtain ⟨p, h1, q⟩ := (wm_ok a).ev _ e q
    obtain ⟨p2, h2, d, h3, q⟩ := (wm_ok c).ev _ _ q
    exact ⟨_, by rw [h1, Option.bind_some, h2, Option.bind_some, h3]; rfl, q⟩
  | .isi t a => Rd.of fun P e q => by
    obtain ⟨p, h1, d, h2, q⟩ := (wm_ok a).ev _ e q
    exact ⟨_, by rw [h1, Option.bind_some, h2]; rfl, q⟩
  | .tupR a => Rd.of fun P e q => by
    obtain ⟨⟨o, x, e1⟩, h1, q⟩ := (wm_ok a).ev _ e q
    cases x with
    | int n => exact ⟨_, by rw [h1, Option.bind_some]; dsimp only; rw [if_pos q.1], q.2⟩
    | _ => exact q.elim
  | .lstR a => Rd.of fun P e q => by
    obtain ⟨⟨o, x, e1⟩, h1, q⟩ := (wm_ok a).ev _ e q
    cases x with
    | int n => exact ⟨_, by rw [h1, Option.bind_some]; dsimp only; rw [if_pos q.1], q.2⟩
    | _ => exact q.elim
  | .comp t it cs a => Rd.of fun P e q => by
    obtain ⟨⟨ds, e1⟩, h1, hn, q⟩ := wI_ok it _ e q
    obtain ⟨r, h2, q⟩ := wcomp_ok (f := fun x en => (putT t x en).bind fun e1 => ((sems Φ gv cs).t e1).bind fun b =>
          if b.1 then ((sem Φ gv a).ev b.2).map fun q => (some q.2.1, clearAt t.is q.2.2) else some (none, clearAt t.is b.2)) (fun x P e k0 => by
      obtain ⟨e1, k1, k2⟩ := putTK_ok k0
      obtain ⟨⟨b, e2⟩, k3, k4⟩ := (wms_ok cs).t _ e1 k2
      cases b with
      | true =>
        obtain ⟨p, k5, k6⟩ := (wm_ok a).ev _ _ k4
        exact ⟨_, by rw [k1, Option.bind_some, k3, Option.bind_some, if_pos rfl, k5]; rfl, clearK_ok k6⟩
      | false => exact ⟨_, by rw [k1, Option.bind_some, k3, Option.bind_some, if_neg Bool.false_ne_true], clearK_ok k4⟩) ds _ _ (clearK_ok q)
    exact ⟨_, by rw [h1, Option.bind_some, if_pos hn, h2]; rfl, backK_ok q⟩
  | .dget i b => Rd.of fun P e q => by
    obtain ⟨_, z, h0, q⟩ := lookK_ok q
    obtain ⟨p, h1, q⟩ := (wm_ok b).ev _ e q
    obtain ⟨_, x, h2, q⟩ := lookK_ok q
    obtain ⟨d, h3, q⟩ := ask_ok q
    exact ⟨_, by rw [h0, Option.bind_some, h1, Option.bind_some, h2, Option.bind_some, h3]; rfl, q⟩
  | .gget g b => Rd.of fun P e q => by
    obtain ⟨p, h1, q⟩ := (wm_ok b).ev _ e q
    obtain ⟨d, h2, q⟩ := ask_ok q
    exact ⟨_, by rw [h1, Option.bind_some, h2]; rfl, q⟩
  | .din neg a i => Rd.of fun P e q => by
    obtain ⟨p, h1, q⟩ := (wm_ok a).ev _ e q
    obtain ⟨_, x, h2, q⟩ := lookK_ok q
    obtain ⟨d, h3, q⟩ := ask_ok q
    exact ⟨_, by rw [h1, Option.bind_some, h2, Option.bind_some, h3]; rfl, by cases neg <;> exact q⟩
  | .dinG neg a g ms => Rd.of fun P e q => by
    obtain ⟨p, h1, q⟩ := (wm_ok a).ev _ e q
    obtain ⟨d, h3, q⟩ := ask_ok q
    exact ⟨_, by rw [h1, Option.bind_some, h3]; rfl, by cases neg <;> exact q⟩
  | .dlit ks es => Rd.of fun P e q => by
    obtain ⟨p, h1, h2, q⟩ := (wms_ok es).ev _ e q
    exact ⟨_, by rw [h1, Option.bind_some, if_pos h2], q⟩
  | .sortW a ks ss => Rd.of fun P e q => by
    obtain ⟨⟨o, x, e1⟩, h1, q⟩ := (wm_ok a).ev _ e q
    cases x with
    | dic l vs => exact ⟨_, by rw [h1, Option.bind_some]; dsimp only; rw [if_pos q.1], q.2⟩
    | _ => exact q.elim
  | .getE d k x => Rd.of fun P e q => by
    obtain ⟨⟨o, a, e1⟩, h1, q⟩ := (wm_ok d).ev _ e q
    obtain ⟨⟨o2, b, e2⟩, h2, q⟩ := (wm_ok k).ev _ _ q
    obtain ⟨⟨o3, c, e3⟩, h3, q⟩ := (wm_ok x).ev _ _ q
    cases a with
    | dic ks vs =>
      obtain ⟨y, h4, q⟩ := q
      exact ⟨_, by rw [h1, Option.bind_some, h2, Option.bind_some, h3, Option.bind_some]; dsimp only; rw [h4], q⟩
    | _ => exact q.elim
  | .dgetE d k => Rd.of fun P e q => by
    obtain ⟨p, h1, q⟩ := (wm_ok d).ev _ e q
    obtain ⟨p2, h2, q⟩ := (wm_ok k).ev _ _ q
    obtain ⟨v, h3, q⟩ := ask_ok q
    exact ⟨_, by rw [h1, Option.bind_some, h2, Option.bind_some, h3]; rfl, q⟩
  | .eqE neg i => Rd.of fun P e q => by
    obtain ⟨_, x, h2, d, h3, q⟩ := lookK_ok q
    exact ⟨_, by rw [h2, Option.bind_some]; cases neg <;> (dsimp only at h3 ⊢; simp only [if_true, Bool.false_eq_true, if_false]; rw [h3]; rfl), q⟩
  | .maxD a c => Rd.of fun P e q => by
    obtain ⟨⟨o, x, e1⟩, h1, q⟩ := (wm_ok a).ev _ e q
    obtain ⟨⟨o2, y, e2⟩, h2, q⟩ := (wm_ok c).ev _ _ q
    cases x with
    | lst xs =>
      cases y with
      | int d =>
        obtain ⟨ns, h3, q⟩ := q
        exact ⟨_, by rw [h1, Option.bind_some, h2, Option.bind_some]; dsimp only; rw [h3]; rfl, q⟩
      | _ => exact q.elim
    | _ => cases y <;> exact q.elim
  | .sset a => Rd.of fun P e q => by
    obtain ⟨⟨o, x, e1⟩, h1, q⟩ := (wm_ok a).ev _ e q
    cases x with
    | lst xs =>
      obtain ⟨ns, h2, h3, q⟩ := q
      exact ⟨_, by rw [h1, Option.bind_some]; dsimp only; rw [h2, Option.bind_some, if_pos h3], q⟩
    | _ => exact q.elim
  | .app i a => Rd.of fun P e q => by
    obtain ⟨_, z, h0, hz, q⟩ := lookK_ok q
    obtain ⟨p, h1, q⟩ := (wm_ok a).ev _ e q
    obtain ⟨f, d, h2, q⟩ := ownK_ok q
    cases d with
    | lst xs => exact ⟨_, by rw [h0, Option.bind_some, if_pos hz, Option.bind_some, h1, Option.bind_some, h2]; dsimp only; rw [if_pos q.1], setK_ok q.2⟩
    | _ => exact q.elim
  | .ext i a => Rd.of fun P e q => by
    obtain ⟨_, z, h0, hz, q⟩ := lookK_ok q
    obtain ⟨⟨o, y, e1⟩, h1, q⟩ := (wm_ok a).ev _ e q
    obtain ⟨f, d, h2, q⟩ := ownK_ok q
    cases d with
    | lst xs =>
      cases y with
      | lst ys => exact ⟨_, by rw [h0, Option.bind_some, if_pos hz, Option.bind_some, h1, Option.bind_some]; dsimp only; rw [h2]; dsimp only; rw [if_pos q.1], setK_ok q.2⟩
      | _ => exact q.elim
    | _ => cases y <;> exact q.elim
  | .popAt i a => Rd.of fun P e q => by
    obtain ⟨_, z, h0, hz, q⟩ := lookK_ok q
    obtain ⟨⟨o, y, e1⟩, h1, q⟩ := (wm_ok a).ev _ e q
    obtain ⟨f, d, h2, q⟩ := ownK_ok q
    cases d with
    | lst xs =>
      cases y with
      | int k =>
        obtain ⟨h3, x, h4, q⟩ := q
        exact ⟨_, by rw [h0, Option.bind_some, if_pos hz, Option.bind_some, h1, Option.bind_some]; dsimp only; rw [h2]; dsimp only; rw [if_pos h3, h4]; rfl, setK_ok q⟩
      | _ => exact q.elim
    | _ => cases y <;> exact q.elim
  | .pop i => Rd.of fun P e q => by
    obtain ⟨f, d, h2, q⟩ := ownK_ok q
    cases d with
    | lst xs =>
      obtain ⟨x, h3, q⟩ := q
      exact ⟨_, by rw [h2]; dsimp only; rw [h3]; rfl, setK_ok q⟩
    | _ => exact q.elim
  | .clear i => Rd.of fun P e q => by
    obtain ⟨f, d, h2, q⟩ := ownK_ok q
    cases d with
    | lst xs => exact ⟨_, by rw [h2], setK_ok q⟩
    | _ => exact q.elim
theorem wms_ok : ∀ a : IEs, Rds (sems Φ gv a) (wms Φ gv a)
  | .nil => ⟨fun P e q => ⟨_, rfl, q⟩, fun P e q => ⟨_, rfl, q⟩, fun P e q => ⟨_, rfl, q⟩⟩
  | .cons a r => {
      ev := fun P e q => by
        obtain ⟨p, h1, q⟩ := (wm_ok a).ev _ e q
        obtain ⟨p2, h2, q⟩ := (wms_ok r).ev _ _ q
        exact ⟨_, by show ((sem Φ gv a).ev e).bind _ = _; rw [h1, Option.bind_some, h2]; rfl, q⟩
      ar := fun P e q => by
        obtain ⟨p, h1, q⟩ := (wm_ok a).ar _ e q
        obtain ⟨p2, h2, q⟩ := (wms_ok r).ar _ _ q
        exact ⟨_, by show ((sem Φ gv a).ar e).bind _ = _; rw [h1, Option.bind_some, h2]; rfl, q⟩
      t := fun P e q => by
        obtain ⟨⟨b, e1⟩, h1, q⟩ := (wm_ok a).t _ e q
        cases b with
        | true =>
          obtain ⟨p2, h2, q⟩ := (wms_ok r).t _ _ q
          exact ⟨p2, by show ((sem Φ gv a).t e).bind _ = _; rw [h1, Option.bind_some, if_pos rfl, h2], q⟩
        | false => exact ⟨_, by show ((sem Φ gv a).t e).bind _ = _; rw [h1, Option.bind_some, if_neg Bool.false_ne_true], q⟩ }
theorem wI_ok : ∀ (a : IT) P e, wI Φ gv a P e → ∃ r, semI Φ gv a e = some r ∧ P r.1 r.2
  | .seq a, P, e, q => by
    obtain ⟨⟨o, x, e1⟩, h1, q⟩ := (wm_ok a).ev _ e q
    cases x with
    | lst xs => exact ⟨(xs, e1), by show ((sem Φ gv a).ev e).bind _ = _; rw [h1]; rfl, q⟩
    | tup xs => exact ⟨(xs, e1), by show ((sem Φ gv a).ev e).bind _ = _; rw [h1]; rfl, q⟩
    | _ => exact q.elim
  | .rng1 a, P, e, q => by
    obtain ⟨⟨o, x, e1⟩, h1, q⟩ := (wm_ok a).ev _ e q
    cases x with
    | int n => exact ⟨_, by show ((sem Φ gv a).ev e).bind _ = _; rw [h1, Option.bind_some]; dsimp only; rw [if_pos q.1], q.2⟩
    | _ => exact q.elim
  | .rng2 a b, P, e, q => by
    obtain ⟨⟨o, x, e1⟩, h1, q⟩ := (wm_ok a).ev _ e q
    obtain ⟨⟨o2, y, e2⟩, h2, q⟩ := (wm_ok b).ev _ _ q
    cases x with
    | int n =>
      cases y with
      | int m => exact ⟨_, by show ((sem Φ gv a).ev e).bind _ = _; rw [h1, Option.bind_some, h2, Option.bind_some]; dsimp only; rw [if_pos q.1], q.2⟩
      | _ => exact q.elim
    | _ => cases y <;> exact q.elim
end
theorem wPut_ok {i : Nat} {k : IE} {x : D} {P : Env → Prop} {e : Env} (q : wPut Φ gv i k x P e) : ∃ e2, putI Φ gv i k x e = some e2 ∧ P e2 := by
  obtain ⟨_, z, h2, q⟩ := lookK_ok q
  obtain ⟨⟨o, y, e1⟩, h3, q⟩ := (wm_ok k).ev _ _ q
  obtain ⟨f, d, h4, q⟩ := ownK_ok q
  cases d with
  | dic ks vs =>
    obtain ⟨w, h5, h6, q⟩ := q
    obtain ⟨⟨k2, v2⟩, h7, q⟩ := ask_ok q
    have h7 := Option.some.inj h7
    refine ⟨_, ?_, setK_ok q⟩
    unfold putI
    rw [h2, Option.bind_some, h3, Option.bind_some]
    dsimp only
    rw [h4]
    dsimp only
    rw [h5, Option.bind_some, if_pos h6, h7]
  | _ => exact q.elim
theorem wC_ok {f : Nat} {es : IEs} {P : XO → Env → Prop} {e : Env} (q : wC Φ gv f es P e) : ∃ r, semC Φ gv f es e = some r ∧ P r.1 r.2 := by
  obtain ⟨⟨as, e1⟩, h1, q⟩ := (wms_ok es).ar _ e q
  obtain ⟨vs, h2, h3, ⟨⟨o, d⟩, ps⟩, h4, q⟩ := argsK_ok q
  have eq : semC Φ gv f es e = some (match isX (o, d) with | some x => (.inr x, posts as ps e1) | none => (.inl (o, d), posts as ps e1)) := by
    unfold semC
    rw [h1, Option.bind_some]
    dsimp only
    rw [h2, Option.bind_some, if_pos h3, h4]
    rfl
  refine ⟨_, eq, ?_⟩
  dsimp only at q
  cases hx : isX (o, d) with
  | none =>
    rw [hx] at q
    exact postsK_ok q
  | some x =>
    rw [hx] at q
    exact postsK_ok q
theorem wX_ok : ∀ {x : IX} {P : XO → Env → Prop} {e : Env}, wX Φ gv x P e → ∃ r, semX Φ gv x e = some r ∧ P r.1 r.2
  | .call f es, P, e, q => wC_ok q
  | .pre a f es, P, e, q => by
    obtain ⟨⟨o, d, e1⟩, h1, q⟩ := (wm_ok a).ev _ e q
    obtain ⟨⟨z, e2⟩, h2, q⟩ := wC_ok q
    have eq : semX Φ gv (.pre a f es) e = ((sem Φ gv a).ev e).bind fun p => (semC Φ gv f es p.2.2).map fun q => match q.1 with
      | .inl r => (.inl (false, .tup [p.2.1, r.2]), q.2)
      | .inr x => (.inr x, q.2) := rfl
    rw [eq, h1, Option.bind_some]
    dsimp only
    rw [h2]
    cases z with
    | inl r => exact ⟨_, rfl, q⟩
    | inr r => exact ⟨_, rfl, q⟩
mutual
theorem wS_ok : ∀ (s : IS) P e, wS Φ gv wf s P e → ∃ r, ex Φ gv wf s e = some r ∧ P r.1 r.2
  | .asgX i x, P, e, q => by
    obtain ⟨⟨z, e1⟩, h1, q⟩ := wX_ok q
    cases z with
    | inl r =>
      obtain ⟨e2, h2, q⟩ := putK_ok q
      exact ⟨(e2, .nx), by show (semX Φ gv x e).bind _ = _; rw [h1, Option.bind_some]; dsimp only; rw [h2]; rfl, q⟩
    | inr r => exact ⟨(e1, .ex r.1 r.2.1 r.2.2), by show (semX Φ gv x e).bind _ = _; rw [h1]; rfl, q⟩
  | .retX x, P, e, q => by
    obtain ⟨⟨z, e1⟩, h1, q⟩ := wX_ok q
    cases z with
    | inl r => exact ⟨(e1, .rt r.1 r.2), by show (semX Φ gv x e).map _ = _; rw [h1]; rfl, q⟩
    | inr r => exact ⟨(e1, .ex r.1 r.2.1 r.2.2), by show (semX Φ gv x e).map _ = _; rw [h1]; rfl, q⟩
  | .exprX x, P, e, q => by
    obtain ⟨⟨z, e1⟩, h1, q⟩ := wX_ok q
    cases z with
    | inl r => exact ⟨(e1, .nx), by show (semX Φ gv x e).map _ = _; rw [h1]; rfl, q⟩
    | inr r => exact ⟨(e1, .ex r.1 r.2.1 r.2.2), by show (semX Φ gv x e).map _ = _; rw [h1]; rfl, q⟩
  | .raise k f a, P, e, q => by
    obtain ⟨p, h1, q⟩ := (wm_ok a).ev _ e q
    exact ⟨(p.2.2, .ex k f p.2.1), by show ((sem Φ gv a).ev e).map _ = _; rw [h1]; rfl, q⟩
  | .tryA b c i xs h, P, e, q => by
    obtain ⟨⟨e1, fl⟩, h1, q⟩ := wSs_ok b _ _ q
    have eq : ex Φ gv wf (.tryA b c i xs h) e = (exs Φ gv wf b e).bind fun q => match q.2 with
      | .ex k f d => if (xs.contains (k, f) && unset q.1 i) = true then (if c = k ∨ c = 0 then (hs k f d h q.1).map fun e1 => (e1, .nx) else some (q.1, .ex k f d)) else none
      | fl => some (q.1, fl) := rfl
    rw [eq, h1, Option.bind_some]
    cases fl with
    | ex k f d =>
      obtain ⟨q1, q2, e2, q3, q⟩ := q
      dsimp only
      rw [if_pos q1, if_pos q2, q3]
      exact ⟨_, rfl, q⟩
    | nx => exact ⟨_, rfl, q⟩
    | rt o d => exact ⟨_, rfl, q⟩
    | bk => exact ⟨_, rfl, q⟩
    | ct => exact ⟨_, rfl, q⟩
  | .asgQ i j l a b c, P, e, q => by
    obtain ⟨p, h1, q⟩ := (wm_ok a).ev _ e q
    obtain ⟨p2, h2, q⟩ := (wm_ok b).ev _ _ q
    obtain ⟨p3, h3, q⟩ := (wm_ok c).ev _ _ q
    obtain ⟨e3, h4, q⟩ := putK_ok q
    obtain ⟨e4, h5, q⟩ := putK_ok q
    obtain ⟨e5, h6, q⟩ := putK_ok q
    exact ⟨(e5, .nx), by show ((sem Φ gv a).ev e).bind _ = _; rw [h1, Option.bind_some, h2, Option.bind_some, h3, Option.bind_some, h4, Option.bind_some, h5, Option.bind_some, h6]; rfl, q⟩
  | .asg i a, P, e, q => by
    obtain ⟨⟨o, d, e1⟩, h1, q⟩ := (wm_ok a).ev _ e q
    obtain ⟨e2, h2, q⟩ := putK_ok q
    exact ⟨(e2, .nx), by show ((sem Φ gv a).ev e).bind _ = _; rw [h1, Option.bind_some]; dsimp only; rw [h2]; rfl, q⟩
  | .asgT is a, P, e, q => by
    obtain ⟨⟨o, d, e1⟩, h1, q⟩ := (wm_ok a).ev _ e q
    cases d with
    | tup xs =>
      obtain ⟨e2, h2, q⟩ := putTsK_ok q
      exact ⟨(e2, .nx), by show ((sem Φ gv a).ev e).bind _ = _; rw [h1, Option.bind_some]; dsimp only; rw [h2]; rfl, q⟩
    | lst xs =>
      obtain ⟨e2, h2, q⟩ := putTsK_ok q
      exact ⟨(e2, .nx), by show ((sem Φ gv a).ev e).bind _ = _; rw [h1, Option.bind_some]; dsimp only; rw [h2]; rfl, q⟩
    | _ => exact q.elim
  | .asgP i j a b, P, e, q => by
    obtain ⟨p, h1, q⟩ := (wm_ok a).ev _ e q
    obtain ⟨p2, h2, q⟩ := (wm_ok b).ev _ _ q
    obtain ⟨e3, h3, q⟩ := putK_ok q
    obtain ⟨e4, h4, q⟩ := putK_ok q
    exact ⟨(e4, .nx), by show ((sem Φ gv a).ev e).bind _ = _; rw [h1, Option.bind_some, h2, Option.bind_some, h3, Option.bind_some, h4]; rfl, q⟩
  | .setI i k a, P, e, q => by
    obtain ⟨p, h1, q⟩ := (wm_ok a).ev _ e q
    obtain ⟨_, z, h2, q⟩ := lookK_ok q
    obtain ⟨⟨o, y, e2⟩, h3, q⟩ := (wm_ok k).ev _ _ q
    obtain ⟨f, d, h4, q⟩ := ownK_ok q
    cases d with
    | lst xs =>
      cases y with
      | int n => exact ⟨_, by show ((sem Φ gv a).ev e).bind _ = _; rw [h1, Option.bind_some, h2, Option.bind_some, h3, Option.bind_some]; dsimp only; rw [h4]; dsimp only; rw [if_pos q.1], setK_ok (k := fun e3 => P e3 .nx) q.2⟩
      | _ => exact q.elim
    | _ => cases y <;> exact q.elim
  | .dput i k a, P, e, q => by
    obtain ⟨p, h1, q⟩ := (wm_ok a).ev _ e q
    obtain ⟨_, z, h2, q⟩ := lookK_ok q
    obtain ⟨p2, h3, q⟩ := (wm_ok k).ev _ _ q
    obtain ⟨f, d, h4, q⟩ := ownK_ok q
    cases d with
    | dic ks vs =>
      obtain ⟨y, h5, h6, q⟩ := q
      obtain ⟨⟨k2, v2⟩, h7, q⟩ := ask_ok q
      have h7 := Option.some.inj h7
      exact ⟨_, by show ((sem Φ gv a).ev e).bind _ = _; rw [h1, Option.bind_some, h2, Option.bind_some, h3, Option.bind_some, h4]; dsimp only; rw [h5, Option.bind_some, if_pos h6, h7], setK_ok (k := fun e3 => P e3 .nx) q⟩
    | _ => exact q.elim
  | .dputP i k1 k2 a, P, e, q => by
    obtain ⟨⟨o, d, e1⟩, h1, q⟩ := (wm_ok a).ev _ e q
    have eq : ex Φ gv wf (.dputP i k1 k2 a) e = ((sem Φ gv a).ev e).bind fun p => match p.2.1 with
      | .tup [x, y] => (putI Φ gv i k1 x p.2.2).bind fun e1 => (putI Φ gv i k2 y e1).map fun e2 => (e2, .nx)
      | _ => none := rfl
    rw [eq, h1, Option.bind_some]
    try dsimp only at q ⊢
    split at q
    · obtain ⟨e2, h2, q⟩ := wPut_ok q
      obtain ⟨e3, h3, q⟩ := wPut_ok q
      try dsimp only
      rw [h2, Option.bind_some, h3]
      exact ⟨_, rfl, q⟩
    · exact q.elim
  | .expr a, P, e, q => by
    obtain ⟨p, h1, q⟩ := (wm_ok a).ev _ e q
    exact ⟨(p.2.2, .nx), by show ((sem Φ gv a).ev e).map _ = _; rw [h1]; rfl, q⟩
  | .ret a, P, e, q => by
    obtain ⟨p, h1, q⟩ := (wm_ok a).ev _ e q
    exact ⟨(p.2.2, .rt p.1 p.2.1), by show ((sem Φ gv a).ev e).map _ = _; rw [h1]; rfl, q⟩
  | .retV i, P, e, q => by
    obtain ⟨f, d, h, q⟩ := getK_ok q
    have er : ex Φ gv wf (.retV i) e = (match getC e i with | some (.own, d) => some (e.set i none, Flow.rt true d) | _ => (readV e i).map fun (p : D × Env) => (p.2, Flow.rt false p.1)) := rfl
    cases f with
    | own => exact ⟨(e.set i none, .rt true d), by rw [er, h], setK_ok (k := fun e' => P e' (.rt true d)) q⟩
    | fro =>
      refine ⟨(e, .rt false d), ?_, q⟩
      rw [er, show readV e i = some (d, e) by unfold readV; rw [h], h]
      rfl
    | lfro =>
      refine ⟨(e, .rt false d), ?_, q⟩
      rw [er, show readV e i = some (d, e) by unfold readV; rw [h], h]
      rfl
    | lent =>
      refine ⟨(e.set i (some (.lfro, d)), .rt false d), ?_, setK_ok (k := fun e' => P e' (.rt false d)) q⟩
      rw [er, show readV e i = some (d, e.set i (some (.lfro, d))) by unfold readV; rw [h]; rfl, h]
      rfl
  | .retN, P, e, q => ⟨_, rfl, q⟩
  | .pass, P, e, q => ⟨_, rfl, q⟩
  | .never, P, e, q => q.elim
  | .brk, P, e, q => ⟨_, rfl, q⟩
  | .cont, P, e, q => ⟨_, rfl, q⟩
  | .ite c t f, P, e, q => by
    obtain ⟨⟨b, e1⟩, h1, q⟩ := (wm_ok c).t _ e q
    cases b with
    | true =>
      obtain ⟨r, h2, q⟩ := wSs_ok t _ _ q
      exact ⟨r, by show ((sem Φ gv c).t e).bind _ = _; rw [h1, Option.bind_some, if_pos rfl, h2], q⟩
    | false =>
      obtain ⟨r, h2, q⟩ := wSs_ok f _ _ q
      exact ⟨r, by show ((sem Φ gv c).t e).bind _ = _; rw [h1, Option.bind_some, if_neg Bool.false_ne_true, h2], q⟩
  | .for_ t it b, P, e, q => by
    obtain ⟨⟨ds, e1⟩, h1, q⟩ := wI_ok it _ e q
    obtain ⟨r, h2, q⟩ := wfor_ok (f := fun x en => (putT t x en).bind fun e1 => exs Φ gv wf b e1) (fun x P e k0 => by
      obtain ⟨e1, k1, k2⟩ := putTK_ok k0
      obtain ⟨r, k3, k4⟩ := wSs_ok b _ e1 k2
      exact ⟨r, by rw [k1, Option.bind_some, k3], k4⟩) ds P e1 q
    exact ⟨r, by show (semI Φ gv it e).bind _ = _; rw [h1, Option.bind_some, h2], q⟩
  | .whl c b, P, e, q => wwhl_ok (fun P e q => (wm_ok c).t P e q) (fun P e q => wSs_ok b P e q) wf P e q
theorem wSs_ok : ∀ (s : ISs) P e, wSs Φ gv wf s P e → ∃ r, exs Φ gv wf s e = some r ∧ P r.1 r.2
  | .nil, P, e, q => ⟨(e, .nx), rfl, q⟩
  | .cons s r, P, e, q => by
    obtain ⟨⟨e1, fl⟩, h1, q⟩ := wS_ok s _ e q
    cases fl with
    | nx =>
      obtain ⟨p, h2, q⟩ := wSs_ok r _ _ q
      exact ⟨p, by show (ex Φ gv wf s e).bind _ = _; rw [h1, Option.bind_some]; exact h2, q⟩
    | rt o d => exact ⟨(e1, .rt o d), by show (ex Φ gv wf s e).bind _ = _; rw [h1]; rfl, q⟩
    | bk => exact ⟨(e1, .bk), by show (ex Φ gv wf s e).bind _ = _; rw [h1]; rfl, q⟩
    | ct => exact ⟨(e1, .ct), by show (ex Φ gv wf s e).bind _ = _; rw [h1]; rfl, q⟩
    | ex k f d => exact ⟨(e1, .ex k f d), by show (ex Φ gv wf s e).bind _ = _; rw [h1]; rfl, q⟩
end
/-- what is to hold where a body ends -/
def done (as : List (Bool × D)) (P : (Bool × D) × List (Bool × D) → Prop) (e : Env) : Flow → Prop
  | .rt o d => postK e as 0 fun ps => P ((o, d), ps)
  | .nx => postK e as 0 fun ps => P ((false, .non), ps)
  | .ex k f d => postK e as 0 fun ps => P (mkX k f d, ps)
  | _ => False
def dropS : Nat → ISs → ISs
  | 0, s => s
  | _ + 1, .nil => .nil
  | n + 1, .cons _ r => dropS n r
def takeS : Nat → ISs → ISs
  | 0, _ => .nil
  | _ + 1, .nil => .nil
  | n + 1, .cons s r => .cons s (takeS n r)
/-- a body runs to its end, and there P holds -/
def Ru (Φ : Phi) (gv : Nat → D) (wf : Nat) (s : ISs) (e : Env) (P : Env → Flow → Prop) : Prop := ∃ r, exs Φ gv wf s e = some r ∧ P r.1 r.2
theorem exs_split : ∀ (k : Nat) (s : ISs) (e : Env), exs Φ gv wf s e = (exs Φ gv wf (takeS k s) e).bind fun p => match p.2 with | .nx => exs Φ gv wf (dropS k s) p.1 | fl => some (p.1, fl)
  | 0, s, e => rfl
  | k + 1, .nil, e => rfl
  | k + 1, .cons s r, e => by
    show (ex Φ gv wf s e).bind _ = ((ex Φ gv wf s e).bind _).bind _
    cases h : ex Φ gv wf s e with
    | none => rfl
    | some p =>
      obtain ⟨e1, fl⟩ := p
      cases fl with
      | nx => exact exs_split k r e1
      | _ => rfl
theorem Ru.read (k : Nat) {s : ISs} {e : Env} {P : Env → Flow → Prop} (h : wSs Φ gv wf (takeS k s) (fun e fl => match fl with | .nx => Ru Φ gv wf (dropS k s) e P | fl => P e fl) e) : Ru Φ gv wf s e P := by
  obtain ⟨⟨e1, fl⟩, h1, q⟩ := wSs_ok _ _ _ h
  unfold Ru
  rw [exs_split k, h1, Option.bind_some]
  cases fl with
  | nx => exact q
  | rt o d => exact ⟨_, rfl, q⟩
  | bk => exact ⟨_, rfl, q⟩
  | ct => exact ⟨_, rfl, q⟩
  | ex a b c => exact ⟨_, rfl, q⟩
theorem Ru.run (k : Nat) {s : ISs} {e e2 : Env} {P : Env → Flow → Prop} (h : exs Φ gv wf (takeS k s) e = some (e2, .nx)) (q : Ru Φ gv wf (dropS k s) e2 P) : Ru Φ gv wf s e P := by
  unfold Ru
  rw [exs_split k, h, Option.bind_some]
  exact q
theorem Ru.fin {s : ISs} {e e2 : Env} {fl : Flow} {P : Env → Flow → Prop} (h : exs Φ gv wf s e = some (e2, fl)) (q : P e2 fl) : Ru Φ gv wf s e P := ⟨_, h, q⟩
/-- a call, from its body's run -/
theorem call_r {fns : Nat → Option Fn} {n f : Nat} {fn : Fn} {as : List (Bool × D)} {P : (Bool × D) × List (Bool × D) → Prop} (hf : fns f = some fn) (hl : as.length = fn.np)
    (h : Ru (callF fns gv wf n) gv wf fn.body (startEnv fn as) (done as P)) : ∃ r, callF fns gv wf (n + 1) f as = some r ∧ P r := by
  obtain ⟨⟨e, fl⟩, h1, q⟩ := h
  have eq : callF fns gv wf (n + 1) f as = runF (callF fns gv wf n) gv wf fn as := by
    show (match fns f with | some fn => runF (callF fns gv wf n) gv wf fn as | none => none) = _
    rw [hf]
  rw [eq]
  unfold runF
  rw [if_pos hl, h1]
  cases fl with
  | rt o d =>
    obtain ⟨ps, h2, q⟩ := postK_ok q
    exact ⟨((o, d), ps), by dsimp only; rw [h2]; rfl, q⟩
  | nx =>
    obtain ⟨ps, h2, q⟩ := postK_ok q
    exact ⟨((false, .non), ps), by dsimp only; rw [h2]; rfl, q⟩
  | bk => exact q.elim
  | ct => exact q.elim
  | ex a b c =>
    obtain ⟨ps, h2, q⟩ := postK_ok q
    exact ⟨(mkX a b c, ps), by dsimp only; rw [h2]; rfl, q⟩
/-- a call, from its body's reading -/
theorem call_w {fns : Nat → Option Fn} {n f : Nat} {fn : Fn} {as : List (Bool × D)} {P : (Bool × D) × List (Bool × D) → Prop} (hf : fns f = some fn) (hl : as.length = fn.np)
    (h : wSs (callF fns gv wf n) gv wf fn.body (done as P) (startEnv fn as)) : ∃ r, callF fns gv wf (n + 1) f as = some r ∧ P r := call_r hf hl (wSs_ok _ _ _ h)
end
end PD
namespace K59
open PD
def fns (f : Nat) : Option Fn := ff[f]?
def gv (g : Nat) : D := if g < 17 then gd.getD g .non else dd.getD (g - 17) .non
@[irreducible] def C (n : Nat) : Phi := callF fns gv 500 n
theorem call_c {n f : Nat} {fn : Fn} {as : List (Bool × D)} {P : (Bool × D) × List (Bool × D) → Prop} (hf : fns f = some fn) (hl : as.length = fn.np) (h : wSs (C n) gv 500 fn.body (done as P) (startEnv fn as)) : ∃ r, C (n + 1) f as = some r ∧ P r := by
  unfold C at h ⊢
  exact call_w hf hl h
local macro_rules | `(tactic| walk_at "su") => `(tactic| first
  | refine ⟨_, rfl, ?_⟩
  | refine ⟨rfl, ?_⟩
  | refine ⟨⟨Nat.le_of_ble_eq_true rfl, rfl⟩, ?_⟩
  | refine ⟨⟨by decide, by decide⟩, ?_⟩
  | refine ⟨⟨by decide, by simp; done⟩, ?_⟩
  | refine ⟨by decide, ?_⟩
  | refine ⟨_, _, rfl, ?_⟩
  | refine ⟨_, _, _, rfl, ?_⟩)
local macro_rules | `(tactic| walk_at "s1") => `(tactic| first
  | refine ask rfl ?_
  | walk_at "su")
local macro_rules | `(tactic| walk_at "st") => `(tactic| repeat walk_at "s1")
local macro_rules | `(tactic| walk_at "sv") => `(tactic| repeat walk_at "su")
def feed (xs : List Int) (c r k : Int) : D := .lst [.lst (xs.map D.int), .int c, .int r, .int k]
def FeedOk (B : Nat) (fd : D) : Prop := ∃ xs c r k, fd = feed xs c r k ∧ k.natAbs ≤ B
theorem pick (xs : List Int) (c : Int) (h : 0 < xs.length) : ∃ z, idxD (.lst (xs.map D.int)) (.int (c.fmod ((xs.map D.int).length : Nat))) = some (.int z) := by
  rw [List.length_map]
  have h1 : (0 : Int) < (xs.length : Int) := by omega
  have a := Int.fmod_nonneg_of_pos c h1
  have b := Int.fmod_lt_of_pos c h1
  generalize hm : c.fmod (xs.length : Int) = m at *
  have hl : m.toNat < xs.length := by omega
  refine ⟨xs[m.toNat], ?_⟩
  show at_ (xs.map D.int) m = _
  unfold at_
  rw [if_pos a, List.getElem?_map, List.getElem?_eq_getElem hl]
  rfl
theorem take_ok {n B : Nat} {fd : D} {m : Int} (h : FeedOk B fd) (hB : B < 1000000) (hm : 0 < m) (hm2 : m < 1000000) :
    ∃ r, C (n + 1) 1 [(true, fd), (false, .int m)] = some r ∧ ∃ v fd', r = ((false, .int v), [(true, fd'), (false, .int m)]) ∧ 0 ≤ v ∧ v < m ∧ FeedOk (B + 1) fd' := by
  obtain ⟨xs, c, r, k, rfl, hk⟩ := h
  have m0 : m ≠ 0 := by omega
  have mA : m.natAbs < 1073741824 := by omega
  have md : ∀ x : Int, 0 ≤ x.fmod m ∧ x.fmod m < m := fun x => ⟨Int.fmod_nonneg_of_pos x hm, Int.fmod_lt_of_pos x hm⟩
  refine call_c (fn := f1) rfl rfl ?_
  walk_at "st"
  show (match decide (r > 0) with | true => _ | false => _)
  by_cases hr : r > 0
  · rw [decide_eq_true hr]
    walk_at "st"
    refine ⟨_, if_pos m0, ?_⟩
    walk_at "st"
    refine ⟨_, if_pos ⟨m0, mA⟩, ?_⟩
    walk_at "st"
    exact ⟨(md r).1, (md r).2, xs, c, r.fdiv m, k + 1, rfl, by omega⟩
  · rw [decide_eq_false hr]
    have rest : ∀ z : Int, wSs (C n) gv 500 (dropS 4 f1.body) (done [(true, feed xs c r k), (false, .int m)] fun q => ∃ v fd', q = ((false, .int v), [(true, fd'), (false, .int m)]) ∧ 0 ≤ v ∧ v < m ∧ FeedOk (B + 1) fd')
        [some (.lent, feed xs c r (k + 1)), some (.fro, .int m), some (.fro, .int z), none, none] := by
      intro z
      walk_at "st"
      have tail : wSs (C n) gv 500 (dropS 6 f1.body) (done [(true, feed xs c r k), (false, .int m)] fun q => ∃ v fd', q = ((false, .int v), [(true, fd'), (false, .int m)]) ∧ 0 ≤ v ∧ v < m ∧ FeedOk (B + 1) fd')
        [some (.lent, feed xs (c + 1) r (k + 1)), some (.fro, .int m), some (.fro, .int z), none, none] := by
        have z1 := Int.fmod_nonneg_of_pos z (show (0 : Int) < 2147483629 by decide)
        have z2 := Int.fmod_lt_of_pos z (show (0 : Int) < 2147483629 by decide)
        walk_at "st"
        refine ⟨_, if_pos ⟨by decide, by decide, by omega⟩, ?_⟩
        walk_at "st"
        generalize hy : ((z.fmod 2147483629 + 48271 * (k + 1)) ^ Int.toNat 5) = y
        have y1 := Int.fmod_nonneg_of_pos y (show (0 : Int) < 2147483647 by decide)
        have y2 := Int.fmod_lt_of_pos y (show (0 : Int) < 2147483647 by decide)
        have y3 : (y.fmod 2147483647).fdiv 64 = (y.fmod 2147483647) / 64 := Int.fdiv_eq_ediv_of_nonneg _ (by decide)
        refine ⟨_, if_pos ⟨by decide, by decide, by omega⟩, ?_⟩
        refine ⟨_, if_pos (.inl ⟨by omega, by omega⟩), ?_⟩
        walk_at "st"
        refine ⟨_, if_pos m0, ?_⟩
        walk_at "st"
        exact ⟨(md _).1, (md _).2, xs, c + 1, r, k + 1, rfl, by omega⟩
      show (match decide ((10 : Int) ^ (Int.toNat 18) ≤ z) with | true => _ | false => _)
      by_cases hz : (10 : Int) ^ (Int.toNat 18) ≤ z
      · rw [decide_eq_true hz]
        walk_at "st"
        show (match decide (_ ≤ _) with | true => _ | false => _)
        by_cases hc : c + 1 ≤ ((xs.map D.int).length : Nat)
        · rw [decide_eq_true hc]
          walk_at "st"
          refine ⟨_, if_pos ⟨m0, mA⟩, ?_⟩
          walk_at "st"
          refine ⟨_, if_pos m0, ?_⟩
          walk_at "st"
          exact ⟨(md _).1, (md _).2, xs, c + 1, z.fdiv m, k + 1, rfl, by omega⟩
        · rw [decide_eq_false hc]
          repeat (first | exact tail | walk_at "s1")
      · rw [decide_eq_false hz]
        repeat (first | exact tail | walk_at "s1")
    walk_at "st"
    show (match decide ((xs.map D.int).length > (0 : Int)) with | true => _ | false => _)
    by_cases hx : ((xs.map D.int).length : Int) > 0
    · rw [decide_eq_true hx]
      walk_at "st"
      refine ⟨_, if_pos (by omega), ?_⟩
      walk_at "st"
      obtain ⟨z, hz⟩ := pick xs c (by rw [List.length_map] at hx; omega)
      refine ⟨_, hz, ?_⟩
      repeat (first | exact rest z | walk_at "s1")
    · rw [decide_eq_false hx]
      repeat (first | exact rest 11 | walk_at "s1")
theorem call_rc {n f : Nat} {fn : Fn} {as : List (Bool × D)} {P : (Bool × D) × List (Bool × D) → Prop} (hf : fns f = some fn) (hl : as.length = fn.np) (h : Ru (C n) gv 500 fn.body (startEnv fn as) (done as P)) : ∃ r, C (n + 1) f as = some r ∧ P r := by
  unfold C at h ⊢
  exact call_r hf hl h
/-- a check of the law: true, and the feed goes on -/
def Tr (B : Nat) (as : List (Bool × D)) (r : (Bool × D) × List (Bool × D)) : Prop := ∃ fd', r = ((false, .bl true), (true, fd') :: as) ∧ FeedOk B fd'
mutual
theorem same_eq : ∀ (a b : D), D.same a b = true → a = b
  | .non, b, h => by cases b <;> first | rfl | cases h
  | .bl a, b, h => by cases b <;> first | exact congrArg D.bl (eq_of_beq h) | cases h
  | .int a, b, h => by cases b <;> first | exact congrArg D.int (eq_of_beq h) | cases h
  | .w a, b, h => by cases b <;> first | exact congrArg D.w (eq_of_beq h) | cases h
  | .rp a, b, h => by
    cases b with
    | rp c => exact congrArg D.rp (same_eq a c h)
    | _ => cases h
  | .tup a, b, h => by
    cases b with
    | tup c => exact congrArg D.tup (sames_eq a c h)
    | _ => cases h
  | .lst a, b, h => by
    cases b with
    | lst c => exact congrArg D.lst (sames_eq a c h)
    | _ => cases h
  | .scr a, b, h => by cases b <;> cases h
  | .dic k a, b, h => by
    cases b with
    | dic l c =>
      have h : (decide (k = l) && D.sames a c) = true := h
      rw [Bool.and_eq_true] at h
      rw [of_decide_eq_true h.1, sames_eq a c h.2]
    | _ => cases h
theorem sames_eq : ∀ (a b : List D), D.sames a b = true → a = b
  | [], b, h => by cases b <;> first | rfl | cases h
  | x :: r, b, h => by
    cases b with
    | nil => cases h
    | cons y s =>
      have h : (D.same x y && D.sames r s) = true := h
      rw [Bool.and_eq_true] at h
      rw [same_eq x y h.1, sames_eq r s h.2]
end
def sameA : List (Bool × D) → List (Bool × D) → Bool
  | [], [] => true
  | (b, x) :: r, (c, y) :: s => (b == c) && D.same x y && sameA r s
  | _, _ => false
theorem sameA_eq : ∀ (a b : List (Bool × D)), sameA a b = true → a = b
  | [], [], _ => rfl
  | [], _ :: _, h => nomatch h
  | _ :: _, [], h => nomatch h
  | (b, x) :: r, (c, y) :: s, h => by
    have h : ((b == c) && D.same x y && sameA r s) = true := h
    rw [Bool.and_eq_true, Bool.and_eq_true] at h
    rw [eq_of_beq h.1.1, same_eq x y h.1.2, sameA_eq r s h.2]
/-- a call with known arguments answers d -/
def okC (n f : Nat) (as : List (Bool × D)) (d : D) : Bool := match C n f as with
  | some ((false, x), ps) => D.same x d && sameA ps as
  | _ => false
theorem okC_eq {n f : Nat} {as : List (Bool × D)} (d : D) (h : okC n f as d = true) : C n f as = some ((false, d), as) := by
  unfold okC at h
  split at h
  · rename_i x ps e
    rw [Bool.and_eq_true] at h
    rw [e, same_eq x d h.1, sameA_eq ps as h.2]
  · cases h
theorem v3 {v : Int} (h0 : 0 ≤ v) (h1 : v < 3) : v = 0 ∨ v = 1 ∨ v = 2 := by omega
theorem v6 {v : Int} (h0 : 0 ≤ v) (h1 : v < 6) : v = 0 ∨ v = 1 ∨ v = 2 ∨ v = 3 ∨ v = 4 ∨ v = 5 := by omega
theorem rep_c {xs : List D} (h : (D.pl 500 (.tup xs) && D.small (.tup xs) && decide (D.wt (.tup xs) ≤ 90000)) = true) : biD .repr (.tup xs) = some (false, .rp (.tup xs)) := by
  show (if (D.pl 500 (.tup xs) && D.small (.tup xs) && decide (D.wt (.tup xs) ≤ 90000)) = true then some (false, D.rp (.tup xs)) else none) = _
  rw [if_pos h]
abbrev fr (d : D) : Bool × D := (false, d)
def pt (x : D) : D := .tup [.w 22, x]
def ho (x : D) : D := .tup [.w 29, x]
def nest (a : D → D) : Nat → D → D
  | 0, b => b
  | n + 1, b => a (nest a n b)
def zs (k : Nat) : List D := (List.replicate k [D.int 0]).flatten
def stpK (k : Nat) : D := .tup [.w 30, .tup (zs k), .bl true, .tup []]
def abtK (k : Nat) : D := .tup [.tup [.w 30, .tup (zs k), .bl false, .tup []]]
def kndK (k : Nat) : D := nest (fun x => .tup [.w 22, x]) k (.tup [.w 26])
def dueK (k : Nat) : D := nest (fun x => .tup [.w 22, x]) k (.tup [.w 21, .tup [.w 25], .tup [.w 26]])
def sK (k : Nat) (v : Int) : D := nest (fun x => .tup [.w 22, .int v, x]) k (.tup [.w 26, .tup [.int v]])
def tK (k : Nat) (v : Int) : D := nest (fun x => .tup [.w 22, .int v, x]) k (.tup [.w 21, .int 1, .tup [.w 26, .tup [.int v]]])
mutual
theorem same_refl : ∀ (d : D) (k : Nat), D.pl k d = true → D.same d d = true
  | .non, _, _ => rfl
  | .bl b, _, _ => beq_self_eq_true b
  | .int i, _, _ => beq_self_eq_true i
  | .w k, _, _ => beq_self_eq_true k
  | .tup xs, 0, h => nomatch h
  | .tup xs, k + 1, h => sames_refl xs k h
  | .lst xs, 0, h => nomatch h
  | .lst xs, k + 1, h => sames_refl xs k h
  | .rp d, k, h => by cases k <;> cases h
  | .scr d, k, h => by cases k <;> cases h
  | .dic l d, k, h => by cases k <;> cases h
theorem sames_refl : ∀ (l : List D) (k : Nat), D.pls k l = true → D.sames l l = true
  | [], _, _ => rfl
  | x :: r, k, h => by
    have e : D.pls k (x :: r) = (D.pl k x && D.pls k r) := by cases k <;> rfl
    rw [e, Bool.and_eq_true] at h
    show (D.same x x && D.sames r r) = true
    rw [same_refl x k h.1, sames_refl r k h.2]
    rfl
end
theorem ne_rep {d : D} (h : D.pl 500 d = true) : cmpD .ne (.rp d) (.rp d) = some false := by
  have e : eqTest (.rp d) (.rp d) = some true := by
    unfold eqTest
    show (if D.same d d then some true else none) = _
    rw [same_refl d 500 h]
    rfl
  show (eqTest (.rp d) (.rp d)).map (!·) = _
  rw [e]
  rfl
theorem eq_rep {d : D} (h : D.pl 500 d = true) : cmpD .eq (.rp d) (.rp d) = some true := by
  show (if D.same d d then some true else none) = _
  rw [same_refl d 500 h]
  rfl
theorem inner2 (n : Nat) {a b : D} {w : Nat} (hw : w = 17 ∨ w = 21) : C (n + 1) 20 [fr (.int 0), fr (.tup [.w w, a, b])] = some ((true, .lst [a, b]), [fr (.int 0), fr (.tup [.w w, a, b])]) := by
  obtain ⟨r, h, rfl⟩ : ∃ r, C (n + 1) 20 [fr (.int 0), fr (.tup [.w w, a, b])] = some r ∧ r = ((true, .lst [a, b]), [fr (.int 0), fr (.tup [.w w, a, b])]) := by
    rcases hw with rfl | rfl
    · refine call_c (fn := f20) rfl rfl ?_
      walk_at "st"
      rfl
    · refine call_c (fn := f20) rfl rfl ?_
      walk_at "st"
      rfl
  exact h
def mx (i j : Int) : Int := if j > i then j else i
def Me (n : Nat) (x : D) (c d : Int) : Prop := C n 19 [fr (.int 0), fr x] = some (fr (.tup [.int c, .int d, .int 0, .bl false, .bl false]), [fr (.int 0), fr x])
theorem meas2 {n : Nat} {a b : D} {ca da cb db c d : Int} {w : Nat} (hw : w = 17 ∨ w = 21) (A : Me (n + 1) a ca da) (B : Me (n + 1) b cb db) (hc : 1 + ca + cb = c) (hd : mx (mx 0 da) db + 1 = d) : Me (n + 2) (.tup [.w w, a, b]) c d := by
  subst hc hd
  unfold Me at A B ⊢
  obtain ⟨r, h, rfl⟩ : ∃ r, C (n + 2) 19 [fr (.int 0), fr (.tup [.w w, a, b])] = some r ∧ r = (fr (.tup [.int (1 + ca + cb), .int (mx (mx 0 da) db + 1), .int 0, .bl false, .bl false]), [fr (.int 0), fr (.tup [.w w, a, b])]) := by
    have I := inner2 n (a := a) (b := b) hw
    rcases hw with rfl | rfl
    all_goals
      refine call_c (fn := f19) rfl rfl ?_
      walk_at "st"
      refine ⟨_, I, rfl, ?_⟩
      walk_at "st"
      show wfor _ [a, b] _ _
      rw [wfor_c]
      walk_at "st"
      refine ⟨_, A, rfl, ?_⟩
      walk_at "st"
      show wfor _ [b] _ _
      rw [wfor_c]
      walk_at "st"
      refine ⟨_, B, rfl, ?_⟩
      walk_at "st"
      show wfor _ [] _ _
      rw [wfor_n]
      walk_at "st"
      rfl
  exact h
/-- what moved_by asks -/
structure Mv (n : Nat) (kind thing path : D) (pp oo : List D) (found m : D) : Prop where
  h13 : C n 13 [fr (.int 0), fr thing] = some (fr (.bl true), [fr (.int 0), fr thing])
  h22 : C n 22 [fr kind, fr path] = some (fr (.tup pp), [fr kind, fr path])
  h25 : C n 25 [fr (.tup []), fr thing, fr (.tup pp)] = some (fr (.tup oo), [fr (.tup []), fr thing, fr (.tup pp)])
  h24 : C n 24 [fr kind, fr path, fr (.tup oo)] = some (fr found, [fr kind, fr path, fr (.tup oo)])
  h19 : C n 19 [fr (.int 0), fr found] = some (fr m, [fr (.int 0), fr found])
theorem moved_yes {n : Nat} {kind path w b x found : D} {pp oo : List D} {c d h r : D} (M : Mv n kind (.tup [w, path, b, x]) path pp oo found (.tup [c, d, h, r, .bl false]))
    (h21 : C n 21 [fr (.tup [c, d, h, r, .bl false])] = some (fr (.bl true), [fr (.tup [c, d, h, r, .bl false])])) (h30 : C n 30 [fr (.tup []), fr found] = some (fr (.bl true), [fr (.tup []), fr found])) :
    C (n + 2) 2 [fr (.tup []), fr kind, fr (.tup [w, path, b, x])] = some (fr (.tup [.w 2, found]), [fr (.tup []), fr kind, fr (.tup [w, path, b, x])]) := by
  have mv : C (n + 1) 12 [fr (.tup []), fr kind, fr (.tup [w, path, b, x])] = some (fr found, [fr (.tup []), fr kind, fr (.tup [w, path, b, x])]) := by
    obtain ⟨r, h, rfl⟩ : ∃ r, C (n + 1) 12 [fr (.tup []), fr kind, fr (.tup [w, path, b, x])] = some r ∧ r = (fr found, [fr (.tup []), fr kind, fr (.tup [w, path, b, x])]) := by
      refine call_c (fn := f12) rfl rfl ?_
      walk_at "st"
      refine ⟨_, M.h13, rfl, ?_⟩
      walk_at "st"
      refine ⟨_, M.h22, rfl, ?_⟩
      walk_at "st"
      refine ⟨_, M.h25, rfl, ?_⟩
      walk_at "st"
      refine ⟨_, M.h24, rfl, ?_⟩
      walk_at "st"
      refine ⟨_, M.h19, rfl, ?_⟩
      walk_at "st"
      refine ⟨_, h21, rfl, ?_⟩
      walk_at "st"
      refine ⟨_, h30, rfl, ?_⟩
      walk_at "st"
      rfl
    exact h
  obtain ⟨r, h, rfl⟩ : ∃ r, C (n + 2) 2 [fr (.tup []), fr kind, fr (.tup [w, path, b, x])] = some r ∧ r = (fr (.tup [.w 2, found]), [fr (.tup []), fr kind, fr (.tup [w, path, b, x])]) := by
    refine call_c (fn := f2) rfl rfl ?_
    walk_at "st"
    refine ⟨_, mv, ?_⟩
    walk_at "st"
    rfl
  exact h
theorem moved_wide {n : Nat} {kind path w b x found m : D} {pp oo : List D} (M : Mv n kind (.tup [w, path, b, x]) path pp oo found m)
    (h21 : C n 21 [fr m] = some (fr (.bl false), [fr m])) :
    C (n + 2) 2 [fr (.tup []), fr kind, fr (.tup [w, path, b, x])] = some (fr (.tup [.w 15, .w 19]), [fr (.tup []), fr kind, fr (.tup [w, path, b, x])]) := by
  have mv : C (n + 1) 12 [fr (.tup []), fr kind, fr (.tup [w, path, b, x])] = some (mkX 3 4 (.w 19), [fr (.tup []), fr kind, fr (.tup [w, path, b, x])]) := by
    obtain ⟨r, h, rfl⟩ : ∃ r, C (n + 1) 12 [fr (.tup []), fr kind, fr (.tup [w, path, b, x])] = some r ∧ r = (mkX 3 4 (.w 19), [fr (.tup []), fr kind, fr (.tup [w, path, b, x])]) := by
      refine call_c (fn := f12) rfl rfl ?_
      walk_at "st"
      refine ⟨_, M.h13, rfl, ?_⟩
      walk_at "st"
      refine ⟨_, M.h22, rfl, ?_⟩
      walk_at "st"
      refine ⟨_, M.h25, rfl, ?_⟩
      walk_at "st"
      refine ⟨_, M.h24, rfl, ?_⟩
      walk_at "st"
      refine ⟨_, M.h19, rfl, ?_⟩
      walk_at "st"
      refine ⟨_, h21, rfl, ?_⟩
      walk_at "st"
      rfl
    exact h
  obtain ⟨r, h, rfl⟩ : ∃ r, C (n + 2) 2 [fr (.tup []), fr kind, fr (.tup [w, path, b, x])] = some r ∧ r = (fr (.tup [.w 15, .w 19]), [fr (.tup []), fr kind, fr (.tup [w, path, b, x])]) := by
    refine call_c (fn := f2) rfl rfl ?_
    walk_at "st"
    refine ⟨_, mv, ?_⟩
    walk_at "st"
    rfl
  exact h
def tw (x : D) : D := .tup [.w 17, x, x]
abbrev one : D := .tup [.w 18]
def T7 : D := nest tw 6 one
def dueT (p : D) : D := .tup [.w 21, .tup [.w 17, T7, T7], .tup [.w 17, T7, p]]
def kndT (p : D) : D := .tup [.w 17, T7, .tup [.w 21, T7, p]]
def stq : D := .tup [.w 20, .tup [], .bl false, .tup []]
theorem mT0 : Me 108 one 1 1 := okC_eq _ (by decide +kernel)
theorem mT1 : Me 109 (nest tw 1 one) 3 2 := meas2 (n := 107) (.inl rfl) mT0 mT0 rfl rfl
theorem mT2 : Me 110 (nest tw 2 one) 7 3 := meas2 (n := 108) (.inl rfl) mT1 mT1 rfl rfl
theorem mT3 : Me 111 (nest tw 3 one) 15 4 := meas2 (n := 109) (.inl rfl) mT2 mT2 rfl rfl
theorem mT4 : Me 112 (nest tw 4 one) 31 5 := meas2 (n := 110) (.inl rfl) mT3 mT3 rfl rfl
theorem mT5 : Me 113 (nest tw 5 one) 63 6 := meas2 (n := 111) (.inl rfl) mT4 mT4 rfl rfl
theorem mT6 : Me 114 T7 127 7 := meas2 (n := 112) (.inl rfl) mT5 mT5 rfl rfl
theorem mP15 : Me 114 (nest pt 15 one) 16 16 := okC_eq _ (by decide +kernel)
theorem mP16 : Me 114 (nest pt 16 one) 17 17 := okC_eq _ (by decide +kernel)
theorem mD15 : Me 116 (dueT (nest pt 15 one)) 400 18 := meas2 (n := 114) (.inr rfl) (meas2 (n := 113) (.inl rfl) mT6 mT6 (c := 255) (d := 8) rfl rfl) (meas2 (n := 113) (.inl rfl) mT6 mP15 (c := 144) (d := 17) rfl rfl) rfl rfl
theorem mD16 : Me 116 (dueT (nest pt 16 one)) 401 19 := meas2 (n := 114) (.inr rfl) (meas2 (n := 113) (.inl rfl) mT6 mT6 (c := 255) (d := 8) rfl rfl) (meas2 (n := 113) (.inl rfl) mT6 mP16 (c := 145) (d := 18) rfl rfl) rfl rfl
theorem mvT {p : D} {m : D} (h25 : C 116 25 [fr (.tup []), fr stq, fr (kndT p)] = some (fr (dueT p), [fr (.tup []), fr stq, fr (kndT p)])) (h22 : C 116 22 [fr (kndT p), fr (.tup [])] = some (fr (kndT p), [fr (kndT p), fr (.tup [])]))
    (h24 : C 116 24 [fr (kndT p), fr (.tup []), fr (dueT p)] = some (fr (dueT p), [fr (kndT p), fr (.tup []), fr (dueT p)])) (h19 : C 116 19 [fr (.int 0), fr (dueT p)] = some (fr m, [fr (.int 0), fr (dueT p)])) :
    Mv 116 (kndT p) stq (.tup []) [.w 17, T7, .tup [.w 21, T7, p]] [.w 21, .tup [.w 17, T7, T7], .tup [.w 17, T7, p]] (dueT p) m := ⟨okC_eq _ (by decide +kernel), h22, h25, h24, h19⟩
theorem r15 : okC 116 30 [fr (.tup []), fr (dueT (nest pt 15 one))] (.bl true) = true := by decide +kernel
theorem told15 : C 118 2 [fr (.tup []), fr (kndT (nest pt 15 one)), fr stq] = some (fr (.tup [.w 2, dueT (nest pt 15 one)]), [fr (.tup []), fr (kndT (nest pt 15 one)), fr stq]) :=
  moved_yes (mvT (okC_eq _ (by decide +kernel)) (okC_eq _ (by decide +kernel)) (okC_eq _ (by decide +kernel)) mD15) (okC_eq _ (by decide +kernel)) (okC_eq _ r15)
theorem told16 : C 118 2 [fr (.tup []), fr (kndT (nest pt 16 one)), fr stq] = some (fr (.tup [.w 15, .w 19]), [fr (.tup []), fr (kndT (nest pt 16 one)), fr stq]) :=
  moved_wide (mvT (okC_eq _ (by decide +kernel)) (okC_eq _ (by decide +kernel)) (okC_eq _ (by decide +kernel)) mD16) (okC_eq _ (by decide +kernel))
set_option maxHeartbeats 0 in
theorem f5_0 : C 119 5 [fr (.int 0)] = some (fr (.bl true), [fr (.int 0)]) := by
  obtain ⟨r, h, rfl⟩ : ∃ r, C 119 5 [fr (.int 0)] = some r ∧ r = (fr (.bl true), [fr (.int 0)]) := by
    refine call_c (n := 118) (fn := f5) rfl rfl ?_
    walk_at "st"
    refine ⟨_, okC_eq (nest tw 6 one) (by decide +kernel), rfl, ?_⟩
    walk_at "st"
    refine ⟨_, okC_eq (nest pt 15 one) (by decide +kernel), rfl, ?_⟩
    walk_at "st"
    refine ⟨_, told15, rfl, ?_⟩
    refine ⟨_, rep_c (by decide +kernel), ?_⟩
    walk_at "sv"
    rfl
  exact h
set_option maxHeartbeats 0 in
theorem f5_1 : C 119 5 [fr (.int 1)] = some (fr (.bl true), [fr (.int 1)]) := by
  obtain ⟨r, h, rfl⟩ : ∃ r, C 119 5 [fr (.int 1)] = some r ∧ r = (fr (.bl true), [fr (.int 1)]) := by
    refine call_c (n := 118) (fn := f5) rfl rfl ?_
    walk_at "st"
    refine ⟨_, okC_eq (nest tw 6 one) (by decide +kernel), rfl, ?_⟩
    walk_at "st"
    refine ⟨_, okC_eq (nest pt 16 one) (by decide +kernel), rfl, ?_⟩
    walk_at "st"
    refine ⟨_, told16, rfl, ?_⟩
    walk_at "st"
    rfl
  exact h
theorem f5_ok {m : Int} (hm : m = 0 ∨ m = 1) : C 119 5 [(false, .int m)] = some ((false, .bl true), [(false, .int m)]) := by
  rcases hm with rfl | rfl
  · exact f5_0
  · exact f5_1
set_option maxHeartbeats 0 in
theorem f6_ok {B : Nat} {fd : D} {m : Int} (h : FeedOk B fd) (hB : B < 1000000) (hm : m = 0 ∨ m = 1) : ∃ r, C 119 6 [(true, fd), (false, .int m)] = some r ∧ Tr (B + 1) [(false, .int m)] r := by
  refine call_rc (fn := f6) rfl rfl (Ru.read 100 ?_)
  walk_at "st"
  obtain ⟨r, h, v, fd', rfl, h0, h1, ok⟩ := take_ok (n := 117) (m := 3) h hB (by decide) (by decide)
  refine ⟨_, h, rfl, ?_⟩
  walk_at "st"
  rcases v3 h0 h1 with rfl | rfl | rfl
  · rcases hm with rfl | rfl
    · walk_at "st"
      refine ⟨_, okC_eq (nest pt 38 (.tup [.w 26])) (by decide +kernel), rfl, ?_⟩
      walk_at "st"
      refine ⟨_, okC_eq (.tup [.w 2, (.tup [.w 21, (.tup [.w 25]), (nest pt 38 (.tup [.w 26]))])]) (by decide +kernel), rfl, ?_⟩
      walk_at "st"
      refine ⟨_, okC_eq (.tup [.w 2, (.tup [.w 21, (.tup [.w 26]), (.tup [.w 27, (.tup [.w 26]), (.tup [.w 17, (.tup [.w 25]), (.tup [.w 29, (.tup [.w 26])])])])])]) (by decide +kernel), rfl, ?_⟩
      walk_at "st"
      refine ⟨_, okC_eq (.tup [.w 15, .w 24]) (by decide +kernel), rfl, ?_⟩
      walk_at "st"
      exact ok
    · walk_at "st"
      refine ⟨_, okC_eq (nest pt 39 (.tup [.w 26])) (by decide +kernel), rfl, ?_⟩
      walk_at "st"
      refine ⟨_, okC_eq (.tup [.w 15, .w 19]) (by decide +kernel), rfl, ?_⟩
      walk_at "st"
      refine ⟨_, okC_eq (.tup [.w 2, (.tup [.w 21, (.tup [.w 26]), (.tup [.w 27, (.tup [.w 26]), (.tup [.w 17, (.tup [.w 25]), (.tup [.w 29, (.tup [.w 26])])])])])]) (by decide +kernel), rfl, ?_⟩
      walk_at "st"
      refine ⟨_, okC_eq (.tup [.w 15, .w 24]) (by decide +kernel), rfl, ?_⟩
      walk_at "st"
      exact ok
  · rcases hm with rfl | rfl
    · walk_at "st"
      refine ⟨_, okC_eq (nest pt 38 (.tup [.w 18])) (by decide +kernel), rfl, ?_⟩
      walk_at "st"
      refine ⟨_, okC_eq (.tup [.w 2, (.tup [.w 21, (.tup [.w 25]), (nest pt 38 (.tup [.w 18]))])]) (by decide +kernel), rfl, ?_⟩
      walk_at "st"
      refine ⟨_, okC_eq (.tup [.w 2, (.tup [.w 21, (.tup [.w 18]), (.tup [.w 27, (.tup [.w 26]), (.tup [.w 17, (.tup [.w 25]), (.tup [.w 29, (.tup [.w 18])])])])])]) (by decide +kernel), rfl, ?_⟩
      walk_at "st"
      refine ⟨_, okC_eq (.tup [.w 15, .w 24]) (by decide +kernel), rfl, ?_⟩
      walk_at "st"
      exact ok
    · walk_at "st"
      refine ⟨_, okC_eq (nest pt 39 (.tup [.w 18])) (by decide +kernel), rfl, ?_⟩
      walk_at "st"
      refine ⟨_, okC_eq (.tup [.w 15, .w 19]) (by decide +kernel), rfl, ?_⟩
      walk_at "st"
      refine ⟨_, okC_eq (.tup [.w 2, (.tup [.w 21, (.tup [.w 18]), (.tup [.w 27, (.tup [.w 26]), (.tup [.w 17, (.tup [.w 25]), (.tup [.w 29, (.tup [.w 18])])])])])]) (by decide +kernel), rfl, ?_⟩
      walk_at "st"
      refine ⟨_, okC_eq (.tup [.w 15, .w 24]) (by decide +kernel), rfl, ?_⟩
      walk_at "st"
      exact ok
  · rcases hm with rfl | rfl
    · walk_at "st"
      refine ⟨_, okC_eq (nest pt 38 (.tup [.w 31])) (by decide +kernel), rfl, ?_⟩
      walk_at "st"
      refine ⟨_, okC_eq (.tup [.w 2, (.tup [.w 21, (.tup [.w 25]), (nest pt 38 (.tup [.w 31]))])]) (by decide +kernel), rfl, ?_⟩
      walk_at "st"
      refine ⟨_, okC_eq (.tup [.w 2, (.tup [.w 21, (.tup [.w 31]), (.tup [.w 27, (.tup [.w 26]), (.tup [.w 17, (.tup [.w 25]), (.tup [.w 29, (.tup [.w 31])])])])])]) (by decide +kernel), rfl, ?_⟩
      walk_at "st"
      refine ⟨_, okC_eq (.tup [.w 15, .w 24]) (by decide +kernel), rfl, ?_⟩
      walk_at "st"
      exact ok
    · walk_at "st"
      refine ⟨_, okC_eq (nest pt 39 (.tup [.w 31])) (by decide +kernel), rfl, ?_⟩
      walk_at "st"
      refine ⟨_, okC_eq (.tup [.w 15, .w 19]) (by decide +kernel), rfl, ?_⟩
      walk_at "st"
      refine ⟨_, okC_eq (.tup [.w 2, (.tup [.w 21, (.tup [.w 31]), (.tup [.w 27, (.tup [.w 26]), (.tup [.w 17, (.tup [.w 25]), (.tup [.w 29, (.tup [.w 31])])])])])]) (by decide +kernel), rfl, ?_⟩
      walk_at "st"
      refine ⟨_, okC_eq (.tup [.w 15, .w 24]) (by decide +kernel), rfl, ?_⟩
      walk_at "st"
      exact ok
set_option maxHeartbeats 0 in
theorem f7_ok {B : Nat} {fd : D} {m : Int} (h : FeedOk B fd) (hB : B < 1000000) (hm : m = 0 ∨ m = 1) : ∃ r, C 119 7 [(true, fd), (false, .int m)] = some r ∧ Tr (B + 1) [(false, .int m)] r := by
  refine call_rc (fn := f7) rfl rfl (Ru.read 100 ?_)
  walk_at "st"
  obtain ⟨r, h, v, fd', rfl, h0, h1, ok⟩ := take_ok (n := 117) (m := 3) h hB (by decide) (by decide)
  refine ⟨_, h, rfl, ?_⟩
  walk_at "st"
  rcases v3 h0 h1 with rfl | rfl | rfl
  · rcases hm with rfl | rfl
    · walk_at "st"
      refine ⟨_, okC_eq (nest ho 2 (.tup [.w 22, (.tup [.w 26])])) (by decide +kernel), rfl, ?_⟩
      walk_at "st"
      refine ⟨_, okC_eq (.tup [.w 2, (nest ho 2 (.tup [.w 17, (.tup [.w 18]), (.tup [.w 29, (.tup [.w 26])])]))]) (by decide +kernel), rfl, ?_⟩
      walk_at "st"
      refine ⟨_, okC_eq (nest ho 2 (.tup [.w 17, (.tup [.w 18]), (.tup [.w 29, (.tup [.w 26])])])) (by decide +kernel), rfl, ?_⟩
      walk_at "st"
      exact ok
    · walk_at "st"
      refine ⟨_, okC_eq (nest ho 3 (.tup [.w 22, (.tup [.w 26])])) (by decide +kernel), rfl, ?_⟩
      walk_at "st"
      refine ⟨_, okC_eq (.tup [.w 15, .w 19]) (by decide +kernel), rfl, ?_⟩
      walk_at "st"
      refine ⟨_, okC_eq (nest ho 3 (.tup [.w 17, (.tup [.w 18]), (.tup [.w 29, (.tup [.w 26])])])) (by decide +kernel), rfl, ?_⟩
      walk_at "st"
      exact ok
  · rcases hm with rfl | rfl
    · walk_at "st"
      refine ⟨_, okC_eq (nest ho 2 (.tup [.w 22, (.tup [.w 31])])) (by decide +kernel), rfl, ?_⟩
      walk_at "st"
      refine ⟨_, okC_eq (.tup [.w 2, (nest ho 2 (.tup [.w 17, (.tup [.w 18]), (.tup [.w 29, (.tup [.w 31])])]))]) (by decide +kernel), rfl, ?_⟩
      walk_at "st"
      refine ⟨_, okC_eq (nest ho 2 (.tup [.w 17, (.tup [.w 18]), (.tup [.w 29, (.tup [.w 31])])])) (by decide +kernel), rfl, ?_⟩
      walk_at "st"
      exact ok
    · walk_at "st"
      refine ⟨_, okC_eq (nest ho 3 (.tup [.w 22, (.tup [.w 31])])) (by decide +kernel), rfl, ?_⟩
      walk_at "st"
      refine ⟨_, okC_eq (.tup [.w 15, .w 19]) (by decide +kernel), rfl, ?_⟩
      walk_at "st"
      refine ⟨_, okC_eq (nest ho 3 (.tup [.w 17, (.tup [.w 18]), (.tup [.w 29, (.tup [.w 31])])])) (by decide +kernel), rfl, ?_⟩
      walk_at "st"
      exact ok
  · rcases hm with rfl | rfl
    · walk_at "st"
      refine ⟨_, okC_eq (nest ho 2 (.tup [.w 22, (.tup [.w 17, (.tup [.w 18]), (.tup [.w 26])])])) (by decide +kernel), rfl, ?_⟩
      walk_at "st"
      refine ⟨_, okC_eq (.tup [.w 2, (nest ho 2 (.tup [.w 17, (.tup [.w 18]), (.tup [.w 29, (.tup [.w 17, (.tup [.w 18]), (.tup [.w 26])])])]))]) (by decide +kernel), rfl, ?_⟩
      walk_at "st"
      refine ⟨_, okC_eq (nest ho 2 (.tup [.w 17, (.tup [.w 18]), (.tup [.w 29, (.tup [.w 17, (.tup [.w 18]), (.tup [.w 26])])])])) (by decide +kernel), rfl, ?_⟩
      walk_at "st"
      exact ok
    · walk_at "st"
      refine ⟨_, okC_eq (nest ho 3 (.tup [.w 22, (.tup [.w 17, (.tup [.w 18]), (.tup [.w 26])])])) (by decide +kernel), rfl, ?_⟩
      walk_at "st"
      refine ⟨_, okC_eq (.tup [.w 15, .w 19]) (by decide +kernel), rfl, ?_⟩
      walk_at "st"
      refine ⟨_, okC_eq (nest ho 3 (.tup [.w 17, (.tup [.w 18]), (.tup [.w 29, (.tup [.w 17, (.tup [.w 18]), (.tup [.w 26])])])])) (by decide +kernel), rfl, ?_⟩
      walk_at "st"
      exact ok
set_option maxHeartbeats 0 in
theorem f8_ok {B : Nat} {fd : D} (h : FeedOk B fd) (hB : B < 1000000) : ∃ r, C 119 8 [(true, fd)] = some r ∧ Tr (B + 1) [] r := by
  refine call_rc (fn := f8) rfl rfl (Ru.read 100 ?_)
  walk_at "st"
  obtain ⟨r, h, v, fd', rfl, h0, h1, ok⟩ := take_ok (n := 117) (m := 3) h hB (by decide) (by decide)
  refine ⟨_, h, rfl, ?_⟩
  walk_at "st"
  rcases v3 h0 h1 with rfl | rfl | rfl
  · walk_at "st"
    refine ⟨_, okC_eq (.tup [.w 15, .w 24]) (by decide +kernel), rfl, ?_⟩
    walk_at "st"
    refine ⟨_, okC_eq (.tup [.w 2, (.tup [.w 17, (.tup [.w 32, .int 1]), (.tup [.w 29, (.tup [.w 17, (.tup [.w 18]), (.tup [.w 26])])])])]) (by decide +kernel), rfl, ?_⟩
    walk_at "st"
    refine ⟨_, okC_eq (.tup [.w 15, .w 33]) (by decide +kernel), rfl, ?_⟩
    walk_at "st"
    exact ok
  · walk_at "st"
    refine ⟨_, okC_eq (.tup [.w 15, .w 24]) (by decide +kernel), rfl, ?_⟩
    walk_at "st"
    refine ⟨_, okC_eq (.tup [.w 2, (.tup [.w 17, (.tup [.w 32, .int 1]), (.tup [.w 29, (.tup [.w 17, (.tup [.w 18]), (.tup [.w 18])])])])]) (by decide +kernel), rfl, ?_⟩
    walk_at "st"
    refine ⟨_, okC_eq (.tup [.w 15, .w 33]) (by decide +kernel), rfl, ?_⟩
    walk_at "st"
    exact ok
  · walk_at "st"
    refine ⟨_, okC_eq (.tup [.w 15, .w 24]) (by decide +kernel), rfl, ?_⟩
    walk_at "st"
    refine ⟨_, okC_eq (.tup [.w 2, (.tup [.w 17, (.tup [.w 32, .int 1]), (.tup [.w 29, (.tup [.w 17, (.tup [.w 18]), (.tup [.w 31])])])])]) (by decide +kernel), rfl, ?_⟩
    walk_at "st"
    refine ⟨_, okC_eq (.tup [.w 15, .w 33]) (by decide +kernel), rfl, ?_⟩
    walk_at "st"
    exact ok
def szd (x : D) : D := .tup [.w 36, x, .int 0, .int 20]
theorem loop9 {fd b g y5 y6 y7 y8 z : D} {P : Env → Flow → Prop} : ∀ (ds : List D) (j : Nat) (c : Cell), (∀ d, c = some d → ∃ z, d = (.fro, z)) → (∀ c' : Cell, P [some (.lent, fd), some (.fro, b), some (.fro, g), some (.fro, nest szd (j + ds.length) z), c', some (.fro, y5), some (.fro, y6), some (.fro, y7), some (.fro, y8)] .nx) →
    wfor (fun x Q en => putTK (.one 4) x en fun en1 => wSs (C 118) gv 500 (match dropS 4 f9.body with | .cons (.for_ _ _ b) _ => b | _ => .nil) Q en1) ds P [some (.lent, fd), some (.fro, b), some (.fro, g), some (.fro, nest szd j z), c, some (.fro, y5), some (.fro, y6), some (.fro, y7), some (.fro, y8)]
  | [], j, c, hc, h => by
    rw [wfor_n]
    exact h c
  | x :: ds, j, c, hc, h => by
    rw [wfor_c]
    have ih := loop9 ds (j + 1) (some (.fro, x)) (fun d e => ⟨x, (Option.some.inj e).symm⟩) (P := P) (fd := fd) (b := b) (g := g) (y5 := y5) (y6 := y6) (y7 := y7) (y8 := y8) (z := z) (fun c' => by
      have := h c'
      rw [List.length_cons, show j + (ds.length + 1) = j + 1 + ds.length by omega] at this
      exact this)
    cases c with
    | none => exact ih
    | some d =>
      obtain ⟨z, rfl⟩ := hc d rfl
      exact ih
set_option maxHeartbeats 0 in
theorem f9_ok {B : Nat} {fd : D} (h : FeedOk B fd) (hB : B < 1000000) : ∃ r, C 119 9 [(true, fd)] = some r ∧ Tr (B + 1) [] r := by
  refine call_rc (fn := f9) rfl rfl (Ru.read 100 ?_)
  walk_at "st"
  obtain ⟨r, h, v, fd', rfl, h0, h1, ok⟩ := take_ok (n := 117) (m := 6) h hB (by decide) (by decide)
  refine ⟨_, h, rfl, ?_⟩
  walk_at "st"
  rcases v6 h0 h1 with rfl | rfl | rfl | rfl | rfl | rfl
  · walk_at "st"
    show wfor _ [(.tup [.w 38, (.tup [.w 26])]), (.tup [.w 35, (.tup [.w 34])]), (.tup [.w 37, (.tup [.w 25])])] _ _
    rw [wfor_c]
    walk_at "st"
    refine ⟨_, okC_eq (.tup [.w 15, .w 24]) (by decide +kernel), rfl, ?_⟩
    walk_at "st"
    show wfor _ [(.tup [.w 35, (.tup [.w 34])]), (.tup [.w 37, (.tup [.w 25])])] _ _
    rw [wfor_c]
    walk_at "st"
    refine ⟨_, okC_eq (.tup [.w 15, .w 24]) (by decide +kernel), rfl, ?_⟩
    walk_at "st"
    show wfor _ [(.tup [.w 37, (.tup [.w 25])])] _ _
    rw [wfor_c]
    walk_at "st"
    refine ⟨_, okC_eq (.tup [.w 15, .w 24]) (by decide +kernel), rfl, ?_⟩
    walk_at "st"
    show wfor _ [] _ _
    rw [wfor_n]
    walk_at "st"
    show wfor _ [.int 0, .int 1, .int 2, .int 3, .int 4, .int 5, .int 6, .int 7, .int 8, .int 9, .int 10, .int 11, .int 12, .int 13, .int 14, .int 15, .int 16, .int 17, .int 18, .int 19, .int 20, .int 21, .int 22, .int 23, .int 24, .int 25, .int 26, .int 27, .int 28, .int 29, .int 30, .int 31, .int 32, .int 33, .int 34, .int 35, .int 36, .int 37] _ _
    refine loop9 _ 0 none (fun _ h => nomatch h) fun c' => ?_
    walk_at "st"
    refine ⟨_, okC_eq (.tup [.w 15, .w 19]) (by decide +kernel), rfl, ?_⟩
    walk_at "st"
    exact ok
  · walk_at "st"
    show wfor _ [(.tup [.w 38, (.tup [.w 31])]), (.tup [.w 35, (.tup [.w 34])]), (.tup [.w 37, (.tup [.w 25])])] _ _
    rw [wfor_c]
    walk_at "st"
    refine ⟨_, okC_eq (.tup [.w 15, .w 24]) (by decide +kernel), rfl, ?_⟩
    walk_at "st"
    show wfor _ [(.tup [.w 35, (.tup [.w 34])]), (.tup [.w 37, (.tup [.w 25])])] _ _
    rw [wfor_c]
    walk_at "st"
    refine ⟨_, okC_eq (.tup [.w 15, .w 24]) (by decide +kernel), rfl, ?_⟩
    walk_at "st"
    show wfor _ [(.tup [.w 37, (.tup [.w 25])])] _ _
    rw [wfor_c]
    walk_at "st"
    refine ⟨_, okC_eq (.tup [.w 15, .w 24]) (by decide +kernel), rfl, ?_⟩
    walk_at "st"
    show wfor _ [] _ _
    rw [wfor_n]
    walk_at "st"
    show wfor _ [.int 0, .int 1, .int 2, .int 3, .int 4, .int 5, .int 6, .int 7, .int 8, .int 9, .int 10, .int 11, .int 12, .int 13, .int 14, .int 15, .int 16, .int 17, .int 18, .int 19, .int 20, .int 21, .int 22, .int 23, .int 24, .int 25, .int 26, .int 27, .int 28, .int 29, .int 30, .int 31, .int 32, .int 33, .int 34, .int 35, .int 36, .int 37] _ _
    refine loop9 _ 0 none (fun _ h => nomatch h) fun c' => ?_
    walk_at "st"
    refine ⟨_, okC_eq (.tup [.w 15, .w 19]) (by decide +kernel), rfl, ?_⟩
    walk_at "st"
    exact ok
  · walk_at "st"
    show wfor _ [(.tup [.w 38, (.tup [.w 34])]), (.tup [.w 35, (.tup [.w 34])]), (.tup [.w 37, (.tup [.w 25])])] _ _
    rw [wfor_c]
    walk_at "st"
    refine ⟨_, okC_eq (.tup [.w 15, .w 24]) (by decide +kernel), rfl, ?_⟩
    walk_at "st"
    show wfor _ [(.tup [.w 35, (.tup [.w 34])]), (.tup [.w 37, (.tup [.w 25])])] _ _
    rw [wfor_c]
    walk_at "st"
    refine ⟨_, okC_eq (.tup [.w 15, .w 24]) (by decide +kernel), rfl, ?_⟩
    walk_at "st"
    show wfor _ [(.tup [.w 37, (.tup [.w 25])])] _ _
    rw [wfor_c]
    walk_at "st"
    refine ⟨_, okC_eq (.tup [.w 15, .w 24]) (by decide +kernel), rfl, ?_⟩
    walk_at "st"
    show wfor _ [] _ _
    rw [wfor_n]
    walk_at "st"
    show wfor _ [.int 0, .int 1, .int 2, .int 3, .int 4, .int 5, .int 6, .int 7, .int 8, .int 9, .int 10, .int 11, .int 12, .int 13, .int 14, .int 15, .int 16, .int 17, .int 18, .int 19, .int 20, .int 21, .int 22, .int 23, .int 24, .int 25, .int 26, .int 27, .int 28, .int 29, .int 30, .int 31, .int 32, .int 33, .int 34, .int 35, .int 36, .int 37] _ _
    refine loop9 _ 0 none (fun _ h => nomatch h) fun c' => ?_
    walk_at "st"
    refine ⟨_, okC_eq (.tup [.w 15, .w 19]) (by decide +kernel), rfl, ?_⟩
    walk_at "st"
    exact ok
  · walk_at "st"
    show wfor _ [(.tup [.w 38, (.tup [.w 22, (.tup [.w 26])])]), (.tup [.w 35, (.tup [.w 34])]), (.tup [.w 37, (.tup [.w 25])])] _ _
    rw [wfor_c]
    walk_at "st"
    refine ⟨_, okC_eq (.tup [.w 2, (.tup [.w 27, (.tup [.w 18]), (.tup [.w 22, (.tup [.w 26])])])]) (by decide +kernel), rfl, ?_⟩
    walk_at "st"
    show wfor _ [(.tup [.w 35, (.tup [.w 34])]), (.tup [.w 37, (.tup [.w 25])])] _ _
    rw [wfor_c]
    walk_at "st"
    refine ⟨_, okC_eq (.tup [.w 2, (.tup [.w 27, (.tup [.w 34]), (.tup [.w 22, (.tup [.w 26])])])]) (by decide +kernel), rfl, ?_⟩
    walk_at "st"
    show wfor _ [(.tup [.w 37, (.tup [.w 25])])] _ _
    rw [wfor_c]
    walk_at "st"
    refine ⟨_, okC_eq (.tup [.w 2, (.tup [.w 27, (.tup [.w 25]), (.tup [.w 22, (.tup [.w 26])])])]) (by decide +kernel), rfl, ?_⟩
    walk_at "st"
    show wfor _ [] _ _
    rw [wfor_n]
    walk_at "st"
    show wfor _ [.int 0, .int 1, .int 2, .int 3, .int 4, .int 5, .int 6, .int 7, .int 8, .int 9, .int 10, .int 11, .int 12, .int 13, .int 14, .int 15, .int 16, .int 17, .int 18, .int 19, .int 20, .int 21, .int 22, .int 23, .int 24, .int 25, .int 26, .int 27, .int 28, .int 29, .int 30, .int 31, .int 32, .int 33, .int 34, .int 35, .int 36, .int 37] _ _
    refine loop9 _ 0 none (fun _ h => nomatch h) fun c' => ?_
    walk_at "st"
    refine ⟨_, okC_eq (.tup [.w 15, .w 19]) (by decide +kernel), rfl, ?_⟩
    walk_at "st"
    exact ok
  · walk_at "st"
    show wfor _ [(.tup [.w 38, (.tup [.w 18])]), (.tup [.w 35, (.tup [.w 34])]), (.tup [.w 37, (.tup [.w 25])])] _ _
    rw [wfor_c]
    walk_at "st"
    refine ⟨_, okC_eq (.tup [.w 2, (.tup [.w 27, (.tup [.w 18]), (.tup [.w 18])])]) (by decide +kernel), rfl, ?_⟩
    walk_at "st"
    show wfor _ [(.tup [.w 35, (.tup [.w 34])]), (.tup [.w 37, (.tup [.w 25])])] _ _
    rw [wfor_c]
    walk_at "st"
    refine ⟨_, okC_eq (.tup [.w 2, (.tup [.w 27, (.tup [.w 34]), (.tup [.w 18])])]) (by decide +kernel), rfl, ?_⟩
    walk_at "st"
    show wfor _ [(.tup [.w 37, (.tup [.w 25])])] _ _
    rw [wfor_c]
    walk_at "st"
    refine ⟨_, okC_eq (.tup [.w 2, (.tup [.w 27, (.tup [.w 25]), (.tup [.w 18])])]) (by decide +kernel), rfl, ?_⟩
    walk_at "st"
    show wfor _ [] _ _
    rw [wfor_n]
    walk_at "st"
    show wfor _ [.int 0, .int 1, .int 2, .int 3, .int 4, .int 5, .int 6, .int 7, .int 8, .int 9, .int 10, .int 11, .int 12, .int 13, .int 14, .int 15, .int 16, .int 17, .int 18, .int 19, .int 20, .int 21, .int 22, .int 23, .int 24, .int 25, .int 26, .int 27, .int 28, .int 29, .int 30, .int 31, .int 32, .int 33, .int 34, .int 35, .int 36, .int 37] _ _
    refine loop9 _ 0 none (fun _ h => nomatch h) fun c' => ?_
    walk_at "st"
    refine ⟨_, okC_eq (.tup [.w 15, .w 19]) (by decide +kernel), rfl, ?_⟩
    walk_at "st"
    exact ok
  · walk_at "st"
    show wfor _ [(.tup [.w 38, (.tup [.w 29, (.tup [.w 26])])]), (.tup [.w 35, (.tup [.w 34])]), (.tup [.w 37, (.tup [.w 25])])] _ _
    rw [wfor_c]
    walk_at "st"
    refine ⟨_, okC_eq (.tup [.w 15, .w 24]) (by decide +kernel), rfl, ?_⟩
    walk_at "st"
    show wfor _ [(.tup [.w 35, (.tup [.w 34])]), (.tup [.w 37, (.tup [.w 25])])] _ _
    rw [wfor_c]
    walk_at "st"
    refine ⟨_, okC_eq (.tup [.w 15, .w 24]) (by decide +kernel), rfl, ?_⟩
    walk_at "st"
    show wfor _ [(.tup [.w 37, (.tup [.w 25])])] _ _
    rw [wfor_c]
    walk_at "st"
    refine ⟨_, okC_eq (.tup [.w 15, .w 24]) (by decide +kernel), rfl, ?_⟩
    walk_at "st"
    show wfor _ [] _ _
    rw [wfor_n]
    walk_at "st"
    show wfor _ [.int 0, .int 1, .int 2, .int 3, .int 4, .int 5, .int 6, .int 7, .int 8, .int 9, .int 10, .int 11, .int 12, .int 13, .int 14, .int 15, .int 16, .int 17, .int 18, .int 19, .int 20, .int 21, .int 22, .int 23, .int 24, .int 25, .int 26, .int 27, .int 28, .int 29, .int 30, .int 31, .int 32, .int 33, .int 34, .int 35, .int 36, .int 37] _ _
    refine loop9 _ 0 none (fun _ h => nomatch h) fun c' => ?_
    walk_at "st"
    refine ⟨_, okC_eq (.tup [.w 15, .w 19]) (by decide +kernel), rfl, ?_⟩
    walk_at "st"
    exact ok
/-! What repr can tell. -/
section
structure Rp (j m : Nat) (d : D) : Prop where
  pl : ∀ k, j ≤ k → D.pl k d = true
  sm : D.small d = true
  wt : D.wt d ≤ m
structure Rps (j m : Nat) (l : List D) : Prop where
  pl : ∀ k, j ≤ k → D.pls k l = true
  sm : D.smalls l = true
  wt : D.wts l ≤ m
theorem Rp.mono {j m j' m' : Nat} {d : D} (h : Rp j m d) (hj : j ≤ j') (hm : m ≤ m') : Rp j' m' d := ⟨fun k hk => h.pl k (Nat.le_trans hj hk), h.sm, Nat.le_trans h.wt hm⟩
theorem rps_nil {j : Nat} : Rps j 0 [] := ⟨fun k _ => by cases k <;> rfl, rfl, Nat.le_refl _⟩
theorem rps_cons {j m1 m2 : Nat} {d : D} {l : List D} (h : Rp j m1 d) (r : Rps j m2 l) : Rps j (m1 + 1 + m2) (d :: l) where
  pl := fun k hk => by
    have e : D.pls k (d :: l) = (D.pl k d && D.pls k l) := by cases k <;> rfl
    rw [e, h.pl k hk, r.pl k hk]
    rfl
  sm := by
    show (D.small d && D.smalls l) = true
    rw [h.sm, r.sm]
    rfl
  wt := by
    show D.wt d + 1 + D.wts l ≤ _
    have := h.wt
    have := r.wt
    omega
theorem rp_tup {j m : Nat} {l : List D} (h : Rps j m l) : Rp (j + 1) m (.tup l) where
  pl := fun k hk => by
    cases k with
    | zero => omega
    | succ k => exact h.pl k (by omega)
  sm := h.sm
  wt := h.wt
theorem rp_w (i j : Nat) : Rp j 30 (.w i) := ⟨fun k _ => by cases k <;> rfl, rfl, Nat.le_refl _⟩
theorem rp_int {i : Int} (j : Nat) (h : i.natAbs < 10000000) : Rp j 168 (.int i) := ⟨fun k _ => by cases k <;> rfl, decide_eq_true (Nat.lt_trans h (by decide)), Nat.le_refl _⟩
theorem rps_ints (j : Nat) : ∀ l : List Int, (∀ x ∈ l, x.natAbs < 10000000) → Rps j (169 * l.length) (l.map D.int)
  | [], _ => rps_nil
  | x :: r, h => by
    have := rps_cons (rp_int j (h x List.mem_cons_self)) (rps_ints j r fun y hy => h y (List.mem_cons_of_mem _ hy))
    rw [List.map_cons, List.length_cons]
    exact ⟨this.pl, this.sm, by have := this.wt; omega⟩
/-- a word and parts -/
theorem rp2 {i j m1 : Nat} {a : D} (ha : Rp j m1 a) : Rp (j + 1) (32 + m1) (.tup [.w i, a]) := (rp_tup (rps_cons (rp_w i j) (rps_cons ha rps_nil))).mono (Nat.le_refl _) (by omega)
theorem rp3 {i j m1 m2 : Nat} {a b : D} (ha : Rp j m1 a) (hb : Rp j m2 b) : Rp (j + 1) (33 + m1 + m2) (.tup [.w i, a, b]) := (rp_tup (rps_cons (rp_w i j) (rps_cons ha (rps_cons hb rps_nil)))).mono (Nat.le_refl _) (by omega)
theorem rp1 (i j : Nat) : Rp (j + 1) 31 (.tup [.w i]) := rp_tup (rps_cons (rp_w i j) rps_nil)
end
theorem rep_of {d : D} (h : Rp 400 90000 d) (t : ∃ xs, d = .tup xs) : biD .repr d = some (false, .rp d) := by
  obtain ⟨xs, rfl⟩ := t
  show (if D.pl 500 (.tup xs) && D.small (.tup xs) && decide (D.wt (.tup xs) ≤ 90000) then some (false, D.rp (.tup xs)) else none) = _
  rw [h.pl 500 (by decide), h.sm, decide_eq_true h.wt]
  rfl
theorem nest_tup {a : D → D} (ha : ∀ x, ∃ xs, a x = .tup xs) {b : D} (hb : ∃ xs, b = .tup xs) : ∀ k, ∃ xs, nest a k b = .tup xs
  | 0 => hb
  | k + 1 => ha _
theorem nest_rp {a : D → D} {c : Nat} (ha : ∀ j m x, Rp j m x → Rp (j + 1) (c + m) (a x)) {b : D} {m : Nat} (hb : Rp 5 m b) : ∀ k, Rp (k + 5) (c * k + m) (nest a k b)
  | 0 => hb.mono (by omega) (by omega)
  | k + 1 => (ha _ _ _ (nest_rp ha hb k)).mono (by omega) (by rw [Nat.mul_add]; omega)
theorem rp_bl (b : Bool) (j : Nat) : Rp j 0 (.bl b) := ⟨fun k _ => by cases k <;> rfl, rfl, Nat.le_refl _⟩
theorem zs_rp : ∀ k, Rps 0 (169 * k) (zs k)
  | 0 => rps_nil
  | k + 1 => by
    have h := rps_cons (rp_int (i := 0) 0 (by decide)) (zs_rp k)
    have e : zs (k + 1) = D.int 0 :: zs k := rfl
    rw [e]
    exact ⟨h.pl, h.sm, by have := h.wt; omega⟩
section
variable {k : Nat} {v : Int}
theorem stp_rp {b : Bool} : Rp 2 (200 + 169 * k) (.tup [.w 30, .tup (zs k), .bl b, .tup []]) :=
  (rp_tup (rps_cons (rp_w 30 1) (rps_cons (rp_tup (zs_rp k)) (rps_cons (rp_bl b 1) (rps_cons (rp_tup rps_nil |>.mono (Nat.le_refl _) (Nat.le_refl _)) rps_nil))))).mono (Nat.le_refl _) (by omega)
theorem abt_rp (hk : k ≤ 60) : Rp 400 90000 (abtK k) := (rp_tup (rps_cons (stp_rp (b := false)) rps_nil)).mono (by decide) (by omega)
theorem knd_rp (hk : k ≤ 60) : Rp 300 80000 (kndK k) := (nest_rp (c := 32) (fun j m x h => rp2 h) ((rp1 26 0).mono (by decide) (Nat.le_refl _)) k).mono (by omega) (by omega)
theorem due_rp (hk : k ≤ 60) : Rp 300 80000 (dueK k) := (nest_rp (c := 32) (fun j m x h => rp2 h) ((rp3 (rp1 25 0) (rp1 26 0)).mono (by decide) (Nat.le_refl _)) k).mono (by omega) (by omega)
theorem told_rp {d : D} (h : Rp 300 80000 d) : Rp 400 90000 (.tup [.w 2, d]) := (rp2 h).mono (by decide) (by decide)
theorem set_rp (hv : v.natAbs < 1000) : Rp 2 300 (.tup [.w 26, .tup [.int v]]) := (rp2 (rp_tup (rps_cons (rp_int 0 (Nat.lt_trans hv (by decide))) rps_nil))).mono (by decide) (by decide)
theorem s_rp (hk : k ≤ 60) (hv : v.natAbs < 1000) : Rp 400 90000 (sK k v) := (nest_rp (c := 201) (fun j m x h => (rp3 (rp_int j (Nat.lt_trans hv (by decide))) h).mono (Nat.le_refl _) (by omega)) ((set_rp hv).mono (by decide) (Nat.le_refl _)) k).mono (by omega) (by omega)
theorem t_rp (hk : k ≤ 60) (hv : v.natAbs < 1000) : Rp 400 90000 (tK k v) := (nest_rp (c := 201) (fun j m x h => (rp3 (rp_int j (Nat.lt_trans hv (by decide))) h).mono (Nat.le_refl _) (by omega)) ((rp3 (rp_int 2 (i := 1) (by decide)) (set_rp hv)).mono (by decide) (Nat.le_refl _)) k).mono (by omega) (by omega)
theorem s_tup : ∃ xs, sK k v = .tup xs := nest_tup (fun x => ⟨_, rfl⟩) ⟨_, rfl⟩ k
theorem t_tup : ∃ xs, tK k v = .tup xs := nest_tup (fun x => ⟨_, rfl⟩) ⟨_, rfl⟩ k
end
theorem slc63 (ns : List Int) : slD none (some 63) (.scr ns) = some (.lst ((cut ns none (some 63)).map D.int)) := by
  unfold slD
  rfl
theorem feed0 (n : Nat) (ns : List Int) : C (n + 1) 0 [(false, .scr ns)] = some ((true, feed (cut ns none (some 63)) 0 0 0), [(false, .scr ns)]) := by
  obtain ⟨r, h, rfl⟩ : ∃ r, C (n + 1) 0 [(false, .scr ns)] = some r ∧ r = ((true, feed (cut ns none (some 63)) 0 0 0), [(false, .scr ns)]) := by
    refine call_c (fn := f0) rfl rfl ?_
    refine ask (slc63 ns) ?_
    walk_at "st"
    rfl
  exact h
theorem f10_end {k : Nat} {v : Int} {fd fd0 : D} {B : Nat} (hk : k ≤ 60) (hv : v.natAbs < 1000) (ok : FeedOk B fd)
    (h1 : C 118 2 [fr (.tup []), fr (kndK k), fr (stpK k)] = some (fr (.tup [.w 2, dueK k]), [fr (.tup []), fr (kndK k), fr (stpK k)]))
    (h2 : C 118 40 [fr (.tup []), fr (kndK k), fr (.tup [stpK k]), fr (sK k v)] = some (fr (tK k v), [fr (.tup []), fr (kndK k), fr (.tup [stpK k]), fr (sK k v)]))
    (h3 : C 118 45 [fr (.tup []), fr (kndK k), fr (.tup [stpK k])] = some (fr (abtK k), [fr (.tup []), fr (kndK k), fr (.tup [stpK k])]))
    (h4 : C 118 40 [fr (.tup []), fr (dueK k), fr (abtK k), fr (tK k v)] = some (fr (sK k v), [fr (.tup []), fr (dueK k), fr (abtK k), fr (tK k v)])) {z : D} :
    Ru (C 118) gv 500 (dropS 6 f10.body) [some (.lent, fd), some (.fro, .int k), some (.fro, .int v), some (.fro, stpK k), some (.fro, dueK k), some (.fro, z), none, some (.fro, kndK k), some (.fro, sK k v), some (.fro, tK k v)] (done [(true, fd0)] (Tr B [])) := by
  have R1 := rep_of (told_rp (due_rp hk)) ⟨_, rfl⟩
  have N1 := ne_rep ((told_rp (due_rp hk)).pl 500 (by decide))
  have R2 := rep_of (t_rp hk hv) t_tup
  have N2 := ne_rep ((t_rp hk hv).pl 500 (by decide))
  have R3 := rep_of (abt_rp hk) ⟨_, rfl⟩
  have N3 := eq_rep ((abt_rp hk).pl 500 (by decide))
  have R4 := rep_of (s_rp hk hv) s_tup
  have N4 := eq_rep ((s_rp hk hv).pl 500 (by decide))
  generalize kndK k = kn at *
  generalize dueK k = du at *
  generalize sK k v = s at *
  generalize tK k v = t at *
  refine Ru.read 3 ?_
  walk_at "st"
  refine ⟨_, h1, rfl, ?_⟩
  walk_at "st"
  refine ⟨_, R1, ?_⟩
  walk_at "st"
  refine ⟨_, R1, ?_⟩
  walk_at "st"
  refine ⟨_, N1, ?_⟩
  walk_at "st"
  refine ⟨_, h2, rfl, ?_⟩
  walk_at "st"
  refine ⟨_, R2, ?_⟩
  walk_at "st"
  refine ⟨_, R2, ?_⟩
  walk_at "st"
  refine ⟨_, N2, ?_⟩
  walk_at "st"
  refine ⟨_, h3, rfl, ?_⟩
  walk_at "st"
  refine ⟨_, R3, ?_⟩
  walk_at "st"
  refine ⟨_, R3, ?_⟩
  walk_at "st"
  refine ⟨_, N3, ?_⟩
  walk_at "st"
  refine ⟨_, h4, rfl, ?_⟩
  walk_at "st"
  refine ⟨_, R4, ?_⟩
  walk_at "st"
  refine ⟨_, R4, ?_⟩
  walk_at "st"
  refine ⟨_, N4, ?_⟩
  walk_at "st"
  exact ok
theorem len_nz {x : D} {r : List D} : cmpD .eq (.int (((x :: r).length : Nat) : Int)) (.int 0) = some false := by
  show (if (D.pl 500 (.int 0) && D.pl 500 (.int 0)) then some ((((x :: r).length : Nat) : Int) == 0) else none) = _
  have e : ((((x :: r).length : Nat) : Int) == 0) = false := by
    rw [beq_eq_false_iff_ne, List.length_cons]
    omega
  rw [e]
  rfl
theorem fld_top {x : D} {l : List D} : slD (some 1) none (.tup (x :: l)) = some (.tup l) := by
  simp [slD, cut, clipI, List.take_of_length_le]
def ps (v : Int) (x : D) : D := .tup [.w 22, .int v, x]
def stp0 (p : List D) (b : Bool) : D := .tup [.w 30, .tup p, .bl b, .tup []]
theorem sum_b (n : Nat) (s : D) : C (n + 1) 43 [fr (.w 30), fr (.bl true), fr s] = some (fr (.tup [.w 21, .int 1, s]), [fr (.w 30), fr (.bl true), fr s]) := by
  obtain ⟨r, h, rfl⟩ : ∃ r, C (n + 1) 43 [fr (.w 30), fr (.bl true), fr s] = some r ∧ r = (fr (.tup [.w 21, .int 1, s]), [fr (.w 30), fr (.bl true), fr s]) := by
    refine call_c (fn := f43) rfl rfl ?_
    walk_at "st"
    rfl
  exact h
theorem sum_f (n : Nat) (s : D) : C (n + 1) 43 [fr (.w 30), fr (.bl false), fr (.tup [.w 21, .int 1, s])] = some (fr s, [fr (.w 30), fr (.bl false), fr (.tup [.w 21, .int 1, s])]) := by
  obtain ⟨r, h, rfl⟩ : ∃ r, C (n + 1) 43 [fr (.w 30), fr (.bl false), fr (.tup [.w 21, .int 1, s])] = some r ∧ r = (fr s, [fr (.w 30), fr (.bl false), fr (.tup [.w 21, .int 1, s])]) := by
    refine call_c (fn := f43) rfl rfl ?_
    walk_at "st"
    rfl
  exact h
/-- what a part leads to -/
def LedP (n : Nat) (st s s' : D) : Prop := C n 42 [fr st, fr s] = some (fr s', [fr st, fr s])
def LedA (n : Nat) (x : D) (p : List D) (st s s' : D) : Prop := C n 41 [fr x, fr (.tup p), fr st, fr s] = some (fr s', [fr x, fr (.tup p), fr st, fr s])
theorem part_b (n : Nat) (p : List D) (s : D) : LedP (n + 2) (stp0 p true) s (.tup [.w 21, .int 1, s]) := by
  obtain ⟨r, h, rfl⟩ : ∃ r, C (n + 2) 42 [fr (stp0 p true), fr s] = some r ∧ r = (fr (.tup [.w 21, .int 1, s]), [fr (stp0 p true), fr s]) := by
    refine call_c (fn := f42) rfl rfl ?_
    walk_at "st"
    refine ⟨_, sum_b n s, rfl, ?_⟩
    walk_at "st"
    rfl
  exact h
theorem part_f (n : Nat) (p : List D) (s : D) : LedP (n + 2) (stp0 p false) (.tup [.w 21, .int 1, s]) s := by
  obtain ⟨r, h, rfl⟩ : ∃ r, C (n + 2) 42 [fr (stp0 p false), fr (.tup [.w 21, .int 1, s])] = some r ∧ r = (fr s, [fr (stp0 p false), fr (.tup [.w 21, .int 1, s])]) := by
    refine call_c (fn := f42) rfl rfl ?_
    walk_at "st"
    refine ⟨_, sum_f n s, rfl, ?_⟩
    walk_at "st"
    rfl
  exact h
theorem led_0 {n : Nat} {x st s s' : D} (h : LedP n st s s') : LedA (n + 1) x [] st s s' := by
  obtain ⟨r, h, rfl⟩ : ∃ r, C (n + 1) 41 [fr x, fr (.tup []), fr st, fr s] = some r ∧ r = (fr s', [fr x, fr (.tup []), fr st, fr s]) := by
    refine call_c (fn := f41) rfl rfl ?_
    walk_at "st"
    refine ⟨_, h, rfl, ?_⟩
    walk_at "st"
    rfl
  exact h
theorem led_1 {n : Nat} {x st s s' : D} {p : List D} {v : Int} (h : LedA n x p st s s') : LedA (n + 1) (pt x) (.int 0 :: p) st (ps v s) (ps v s') := by
  obtain ⟨r, h, rfl⟩ : ∃ r, C (n + 1) 41 [fr (pt x), fr (.tup (.int 0 :: p)), fr st, fr (ps v s)] = some r ∧ r = (fr (ps v s'), [fr (pt x), fr (.tup (.int 0 :: p)), fr st, fr (ps v s)]) := by
    refine call_c (fn := f41) rfl rfl ?_
    refine ⟨_, rfl, ?_⟩
    refine ⟨_, len_nz, ?_⟩
    walk_at "sv"
    refine ask fld_top ?_
    walk_at "sv"
    refine ⟨_, h, rfl, ?_⟩
    walk_at "sv"
    rfl
  exact h
theorem led_k {n : Nat} {x st s s' : D} {v : Int} (h : LedA n x [] st s s') : ∀ k, LedA (n + k) (nest pt k x) (zs k) st (nest (ps v) k s) (nest (ps v) k s')
  | 0 => h
  | k + 1 => led_1 (led_k h k)
theorem led_by_ok {n : Nat} {kn st s s' x : D} {p e : List D} {b : Bool} {w : Nat} (hs : st = .tup [.w w, .tup p, .bl b, .tup e]) (h : LedA n kn p st s s') (g : C n 44 [fr (.tup []), fr kn, fr st] = some (fr x, [fr (.tup []), fr kn, fr st])) :
    C (n + 1) 40 [fr (.tup []), fr kn, fr (.tup [st]), fr s] = some (fr s', [fr (.tup []), fr kn, fr (.tup [st]), fr s]) := by
  subst hs
  obtain ⟨r, h, rfl⟩ : ∃ r, C (n + 1) 40 [fr (.tup []), fr kn, fr (.tup [.tup [.w w, .tup p, .bl b, .tup e]]), fr s] = some r ∧ r = (fr s', [fr (.tup []), fr kn, fr (.tup [.tup [.w w, .tup p, .bl b, .tup e]]), fr s]) := by
    refine call_c (fn := f40) rfl rfl ?_
    walk_at "st"
    show wfor _ [.tup [.w w, .tup p, .bl b, .tup e]] _ _
    rw [wfor_c]
    walk_at "st"
    refine ⟨_, h, rfl, ?_⟩
    walk_at "st"
    refine ⟨_, g, rfl, ?_⟩
    show wfor _ [] _ _
    rw [wfor_n]
    walk_at "st"
    rfl
  exact h
theorem loop10 {v : Int} {fd : D} {P : Env → Flow → Prop} {a st : D} : ∀ (ds : List D) (j : Nat) (z : D), (∀ z', P [some (.lent, fd), some (.fro, a), some (.fro, .int v), some (.fro, st), some (.fro, dueK (j + ds.length)), some (.fro, z'), none, some (.fro, kndK (j + ds.length)), some (.fro, sK (j + ds.length) v), some (.fro, tK (j + ds.length) v)] .nx) →
    wfor (fun x Q en => putTK (.one 5) x en fun en1 => wSs (C 118) gv 500 (match dropS 5 f10.body with | .cons (.for_ _ _ b) _ => b | _ => .nil) Q en1) ds P [some (.lent, fd), some (.fro, a), some (.fro, .int v), some (.fro, st), some (.fro, dueK j), some (.fro, z), none, some (.fro, kndK j), some (.fro, sK j v), some (.fro, tK j v)]
  | [], j, z, h => by
    rw [wfor_n]
    exact h z
  | x :: ds, j, z, h => by
    rw [wfor_c]
    have ih := loop10 ds (j + 1) x (P := P) (fd := fd) (v := v) (a := a) (st := st) (fun z' => by
      have := h z'
      rw [List.length_cons, show j + (ds.length + 1) = j + 1 + ds.length by omega] at this
      exact this)
    exact ih
theorem loop10s {v : Int} {fd : D} {P : Env → Flow → Prop} {a st : D} {x : D} {ds : List D} (h : ∀ z', P [some (.lent, fd), some (.fro, a), some (.fro, .int v), some (.fro, st), some (.fro, dueK (1 + ds.length)), some (.fro, z'), none, some (.fro, kndK (1 + ds.length)), some (.fro, sK (1 + ds.length) v), some (.fro, tK (1 + ds.length) v)] .nx) :
    wfor (fun x Q en => putTK (.one 5) x en fun en1 => wSs (C 118) gv 500 (match dropS 5 f10.body with | .cons (.for_ _ _ b) _ => b | _ => .nil) Q en1) (x :: ds) P [some (.lent, fd), some (.fro, a), some (.fro, .int v), some (.fro, st), some (.fro, dueK 0), none, none, some (.fro, kndK 0), some (.fro, sK 0 v), some (.fro, tK 0 v)] := by
  rw [wfor_c]
  exact loop10 ds 1 x h
theorem upto_len : ∀ (n : Nat) (a : Int), (upto a n).length = n
  | 0, _ => rfl
  | n + 1, a => congrArg (· + 1) (upto_len n (a + 1))
set_option maxHeartbeats 0 in
theorem f10_mid {k n : Nat} {v : Int} {fd fd0 : D} {B : Nat} (hn : n + 3 + k = 117) (hk : k ≤ 60) (hk0 : 0 < k) (hv : v.natAbs < 1000) (ok : FeedOk B fd)
    (t1 : C 118 2 [fr (.tup []), fr (kndK k), fr (stpK k)] = some (fr (.tup [.w 2, dueK k]), [fr (.tup []), fr (kndK k), fr (stpK k)]))
    (t2 : C 117 44 [fr (.tup []), fr (kndK k), fr (stpK k)] = some (fr (dueK k), [fr (.tup []), fr (kndK k), fr (stpK k)]))
    (t3 : C 118 45 [fr (.tup []), fr (kndK k), fr (.tup [stpK k])] = some (fr (abtK k), [fr (.tup []), fr (kndK k), fr (.tup [stpK k])]))
    (t4 : C 117 44 [fr (.tup []), fr (dueK k), fr (stp0 (zs k) false)] = some (fr (kndK k), [fr (.tup []), fr (dueK k), fr (stp0 (zs k) false)])) :
    Ru (C 118) gv 500 (dropS 2 f10.body) [some (.lent, fd), some (.fro, .int k), some (.fro, .int v), none, none, none, none, none, none, none] (done [(true, fd0)] (Tr B [])) := by
  have b1 : LedA 117 (kndK k) (zs k) (stpK k) (sK k v) (tK k v) := by
    have := led_k (v := v) (led_0 (x := .tup [.w 26]) (part_b n (zs k) (.tup [.w 26, .tup [.int v]]))) k
    rw [show n + 2 + 1 + k = 117 by omega] at this
    exact this
  have b2 : LedA 117 (dueK k) (zs k) (stp0 (zs k) false) (tK k v) (sK k v) := by
    have := led_k (v := v) (led_0 (x := .tup [.w 21, .tup [.w 25], .tup [.w 26]]) (part_f n (zs k) (.tup [.w 26, .tup [.int v]]))) k
    rw [show n + 2 + 1 + k = 117 by omega] at this
    exact this
  have h2 := led_by_ok (b := true) (e := []) (w := 30) rfl b1 t2
  have h4 := led_by_ok (b := false) (e := []) (w := 30) rfl b2 t4
  obtain ⟨k, rfl⟩ : ∃ q, k = q + 1 := ⟨k - 1, by omega⟩
  refine Ru.read 4 ?_
  refine ⟨_, if_pos ⟨by omega, by omega, by decide⟩, ?_⟩
  refine ⟨⟨by omega, by omega⟩, ?_⟩
  refine loop10s (x := .int 0) (ds := (upto 1 k).map D.int) fun z => ?_
  have e : 1 + ((upto 1 k).map D.int).length = k + 1 := by
    rw [List.length_map, upto_len]
    omega
  rw [e]
  exact f10_end hk hv ok t1 h2 t3 h4
theorem c20_1 : okC 118 2 [fr (.tup []), fr (kndK 20), fr (stpK 20)] (.tup [.w 2, dueK 20]) = true := by decide +kernel
theorem c20_2 : okC 117 44 [fr (.tup []), fr (kndK 20), fr (stpK 20)] (dueK 20) = true := by decide +kernel
theorem c20_3 : okC 118 45 [fr (.tup []), fr (kndK 20), fr (.tup [stpK 20])] (abtK 20) = true := by decide +kernel
theorem c20_4 : okC 117 44 [fr (.tup []), fr (dueK 20), fr (stp0 (zs 20) false)] (kndK 20) = true := by decide +kernel
theorem c21_1 : okC 118 2 [fr (.tup []), fr (kndK 21), fr (stpK 21)] (.tup [.w 2, dueK 21]) = true := by decide +kernel
theorem c21_2 : okC 117 44 [fr (.tup []), fr (kndK 21), fr (stpK 21)] (dueK 21) = true := by decide +kernel
theorem c21_3 : okC 118 45 [fr (.tup []), fr (kndK 21), fr (.tup [stpK 21])] (abtK 21) = true := by decide +kernel
theorem c21_4 : okC 117 44 [fr (.tup []), fr (dueK 21), fr (stp0 (zs 21) false)] (kndK 21) = true := by decide +kernel
theorem c22_1 : okC 118 2 [fr (.tup []), fr (kndK 22), fr (stpK 22)] (.tup [.w 2, dueK 22]) = true := by decide +kernel
theorem c22_2 : okC 117 44 [fr (.tup []), fr (kndK 22), fr (stpK 22)] (dueK 22) = true := by decide +kernel
theorem c22_3 : okC 118 45 [fr (.tup []), fr (kndK 22), fr (.tup [stpK 22])] (abtK 22) = true := by decide +kernel
theorem c22_4 : okC 117 44 [fr (.tup []), fr (dueK 22), fr (stp0 (zs 22) false)] (kndK 22) = true := by decide +kernel
theorem c23_1 : okC 118 2 [fr (.tup []), fr (kndK 23), fr (stpK 23)] (.tup [.w 2, dueK 23]) = true := by decide +kernel
theorem c23_2 : okC 117 44 [fr (.tup []), fr (kndK 23), fr (stpK 23)] (dueK 23) = true := by decide +kernel
theorem c23_3 : okC 118 45 [fr (.tup []), fr (kndK 23), fr (.tup [stpK 23])] (abtK 23) = true := by decide +kernel
theorem c23_4 : okC 117 44 [fr (.tup []), fr (dueK 23), fr (stp0 (zs 23) false)] (kndK 23) = true := by decide +kernel
theorem c24_1 : okC 118 2 [fr (.tup []), fr (kndK 24), fr (stpK 24)] (.tup [.w 2, dueK 24]) = true := by decide +kernel
theorem c24_2 : okC 117 44 [fr (.tup []), fr (kndK 24), fr (stpK 24)] (dueK 24) = true := by decide +kernel
theorem c24_3 : okC 118 45 [fr (.tup []), fr (kndK 24), fr (.tup [stpK 24])] (abtK 24) = true := by decide +kernel
theorem c24_4 : okC 117 44 [fr (.tup []), fr (dueK 24), fr (stp0 (zs 24) false)] (kndK 24) = true := by decide +kernel
theorem c25_1 : okC 118 2 [fr (.tup []), fr (kndK 25), fr (stpK 25)] (.tup [.w 2, dueK 25]) = true := by decide +kernel
theorem c25_2 : okC 117 44 [fr (.tup []), fr (kndK 25), fr (stpK 25)] (dueK 25) = true := by decide +kernel
theorem c25_3 : okC 118 45 [fr (.tup []), fr (kndK 25), fr (.tup [stpK 25])] (abtK 25) = true := by decide +kernel
theorem c25_4 : okC 117 44 [fr (.tup []), fr (dueK 25), fr (stp0 (zs 25) false)] (kndK 25) = true := by decide +kernel
theorem c26_1 : okC 118 2 [fr (.tup []), fr (kndK 26), fr (stpK 26)] (.tup [.w 2, dueK 26]) = true := by decide +kernel
theorem c26_2 : okC 117 44 [fr (.tup []), fr (kndK 26), fr (stpK 26)] (dueK 26) = true := by decide +kernel
theorem c26_3 : okC 118 45 [fr (.tup []), fr (kndK 26), fr (.tup [stpK 26])] (abtK 26) = true := by decide +kernel
theorem c26_4 : okC 117 44 [fr (.tup []), fr (dueK 26), fr (stp0 (zs 26) false)] (kndK 26) = true := by decide +kernel
theorem c27_1 : okC 118 2 [fr (.tup []), fr (kndK 27), fr (stpK 27)] (.tup [.w 2, dueK 27]) = true := by decide +kernel
theorem c27_2 : okC 117 44 [fr (.tup []), fr (kndK 27), fr (stpK 27)] (dueK 27) = true := by decide +kernel
theorem c27_3 : okC 118 45 [fr (.tup []), fr (kndK 27), fr (.tup [stpK 27])] (abtK 27) = true := by decide +kernel
theorem c27_4 : okC 117 44 [fr (.tup []), fr (dueK 27), fr (stp0 (zs 27) false)] (kndK 27) = true := by decide +kernel
theorem c28_1 : okC 118 2 [fr (.tup []), fr (kndK 28), fr (stpK 28)] (.tup [.w 2, dueK 28]) = true := by decide +kernel
theorem c28_2 : okC 117 44 [fr (.tup []), fr (kndK 28), fr (stpK 28)] (dueK 28) = true := by decide +kernel
theorem c28_3 : okC 118 45 [fr (.tup []), fr (kndK 28), fr (.tup [stpK 28])] (abtK 28) = true := by decide +kernel
theorem c28_4 : okC 117 44 [fr (.tup []), fr (dueK 28), fr (stp0 (zs 28) false)] (kndK 28) = true := by decide +kernel
theorem c29_1 : okC 118 2 [fr (.tup []), fr (kndK 29), fr (stpK 29)] (.tup [.w 2, dueK 29]) = true := by decide +kernel
theorem c29_2 : okC 117 44 [fr (.tup []), fr (kndK 29), fr (stpK 29)] (dueK 29) = true := by decide +kernel
theorem c29_3 : okC 118 45 [fr (.tup []), fr (kndK 29), fr (.tup [stpK 29])] (abtK 29) = true := by decide +kernel
theorem c29_4 : okC 117 44 [fr (.tup []), fr (dueK 29), fr (stp0 (zs 29) false)] (kndK 29) = true := by decide +kernel
theorem c30_1 : okC 118 2 [fr (.tup []), fr (kndK 30), fr (stpK 30)] (.tup [.w 2, dueK 30]) = true := by decide +kernel
theorem c30_2 : okC 117 44 [fr (.tup []), fr (kndK 30), fr (stpK 30)] (dueK 30) = true := by decide +kernel
theorem c30_3 : okC 118 45 [fr (.tup []), fr (kndK 30), fr (.tup [stpK 30])] (abtK 30) = true := by decide +kernel
theorem c30_4 : okC 117 44 [fr (.tup []), fr (dueK 30), fr (stp0 (zs 30) false)] (kndK 30) = true := by decide +kernel
theorem c31_1 : okC 118 2 [fr (.tup []), fr (kndK 31), fr (stpK 31)] (.tup [.w 2, dueK 31]) = true := by decide +kernel
theorem c31_2 : okC 117 44 [fr (.tup []), fr (kndK 31), fr (stpK 31)] (dueK 31) = true := by decide +kernel
theorem c31_3 : okC 118 45 [fr (.tup []), fr (kndK 31), fr (.tup [stpK 31])] (abtK 31) = true := by decide +kernel
theorem c31_4 : okC 117 44 [fr (.tup []), fr (dueK 31), fr (stp0 (zs 31) false)] (kndK 31) = true := by decide +kernel
theorem c32_1 : okC 118 2 [fr (.tup []), fr (kndK 32), fr (stpK 32)] (.tup [.w 2, dueK 32]) = true := by decide +kernel
theorem c32_2 : okC 117 44 [fr (.tup []), fr (kndK 32), fr (stpK 32)] (dueK 32) = true := by decide +kernel
theorem c32_3 : okC 118 45 [fr (.tup []), fr (kndK 32), fr (.tup [stpK 32])] (abtK 32) = true := by decide +kernel
theorem c32_4 : okC 117 44 [fr (.tup []), fr (dueK 32), fr (stp0 (zs 32) false)] (kndK 32) = true := by decide +kernel
theorem c33_1 : okC 118 2 [fr (.tup []), fr (kndK 33), fr (stpK 33)] (.tup [.w 2, dueK 33]) = true := by decide +kernel
theorem c33_2 : okC 117 44 [fr (.tup []), fr (kndK 33), fr (stpK 33)] (dueK 33) = true := by decide +kernel
theorem c33_3 : okC 118 45 [fr (.tup []), fr (kndK 33), fr (.tup [stpK 33])] (abtK 33) = true := by decide +kernel
theorem c33_4 : okC 117 44 [fr (.tup []), fr (dueK 33), fr (stp0 (zs 33) false)] (kndK 33) = true := by decide +kernel
theorem c34_1 : okC 118 2 [fr (.tup []), fr (kndK 34), fr (stpK 34)] (.tup [.w 2, dueK 34]) = true := by decide +kernel
theorem c34_2 : okC 117 44 [fr (.tup []), fr (kndK 34), fr (stpK 34)] (dueK 34) = true := by decide +kernel
theorem c34_3 : okC 118 45 [fr (.tup []), fr (kndK 34), fr (.tup [stpK 34])] (abtK 34) = true := by decide +kernel
theorem c34_4 : okC 117 44 [fr (.tup []), fr (dueK 34), fr (stp0 (zs 34) false)] (kndK 34) = true := by decide +kernel
theorem c35_1 : okC 118 2 [fr (.tup []), fr (kndK 35), fr (stpK 35)] (.tup [.w 2, dueK 35]) = true := by decide +kernel
theorem c35_2 : okC 117 44 [fr (.tup []), fr (kndK 35), fr (stpK 35)] (dueK 35) = true := by decide +kernel
theorem c35_3 : okC 118 45 [fr (.tup []), fr (kndK 35), fr (.tup [stpK 35])] (abtK 35) = true := by decide +kernel
theorem c35_4 : okC 117 44 [fr (.tup []), fr (dueK 35), fr (stp0 (zs 35) false)] (kndK 35) = true := by decide +kernel
theorem c36_1 : okC 118 2 [fr (.tup []), fr (kndK 36), fr (stpK 36)] (.tup [.w 2, dueK 36]) = true := by decide +kernel
theorem c36_2 : okC 117 44 [fr (.tup []), fr (kndK 36), fr (stpK 36)] (dueK 36) = true := by decide +kernel
theorem c36_3 : okC 118 45 [fr (.tup []), fr (kndK 36), fr (.tup [stpK 36])] (abtK 36) = true := by decide +kernel
theorem c36_4 : okC 117 44 [fr (.tup []), fr (dueK 36), fr (stp0 (zs 36) false)] (kndK 36) = true := by decide +kernel
theorem c37_1 : okC 118 2 [fr (.tup []), fr (kndK 37), fr (stpK 37)] (.tup [.w 2, dueK 37]) = true := by decide +kernel
theorem c37_2 : okC 117 44 [fr (.tup []), fr (kndK 37), fr (stpK 37)] (dueK 37) = true := by decide +kernel
theorem c37_3 : okC 118 45 [fr (.tup []), fr (kndK 37), fr (.tup [stpK 37])] (abtK 37) = true := by decide +kernel
theorem c37_4 : okC 117 44 [fr (.tup []), fr (dueK 37), fr (stp0 (zs 37) false)] (kndK 37) = true := by decide +kernel
theorem c38_1 : okC 118 2 [fr (.tup []), fr (kndK 38), fr (stpK 38)] (.tup [.w 2, dueK 38]) = true := by decide +kernel
theorem c38_2 : okC 117 44 [fr (.tup []), fr (kndK 38), fr (stpK 38)] (dueK 38) = true := by decide +kernel
theorem c38_3 : okC 118 45 [fr (.tup []), fr (kndK 38), fr (.tup [stpK 38])] (abtK 38) = true := by decide +kernel
theorem c38_4 : okC 117 44 [fr (.tup []), fr (dueK 38), fr (stp0 (zs 38) false)] (kndK 38) = true := by decide +kernel
theorem f10_ok {B : Nat} {fd : D} (h : FeedOk B fd) (hB : B < 900000) : ∃ r, C 119 10 [(true, fd)] = some r ∧ Tr (B + 1 + 1) [] r := by
  refine call_rc (fn := f10) rfl rfl (Ru.read 2 ?_)
  walk_at "st"
  obtain ⟨r, e, v1, fd1, rfl, h0, h1, ok1⟩ := take_ok (n := 117) (m := 19) h (by omega) (by decide) (by decide)
  refine ⟨_, e, rfl, ?_⟩
  walk_at "st"
  obtain ⟨r, e2, v, fd2, rfl, g0, g1, ok2⟩ := take_ok (n := 117) (m := 100) ok1 (by omega) (by decide) (by decide)
  refine ⟨_, e2, rfl, ?_⟩
  walk_at "st"
  have hv : v.natAbs < 1000 := by omega
  have hw : v1 = 0 ∨ v1 = 1 ∨ v1 = 2 ∨ v1 = 3 ∨ v1 = 4 ∨ v1 = 5 ∨ v1 = 6 ∨ v1 = 7 ∨ v1 = 8 ∨ v1 = 9 ∨ v1 = 10 ∨ v1 = 11 ∨ v1 = 12 ∨ v1 = 13 ∨ v1 = 14 ∨ v1 = 15 ∨ v1 = 16 ∨ v1 = 17 ∨ v1 = 18 := by omega
  rcases hw with rfl | rfl | rfl | rfl | rfl | rfl | rfl | rfl | rfl | rfl | rfl | rfl | rfl | rfl | rfl | rfl | rfl | rfl | rfl
  · exact f10_mid (k := 20) (n := 94) rfl (by decide) (by decide) hv ok2 (okC_eq _ c20_1) (okC_eq _ c20_2) (okC_eq _ c20_3) (okC_eq _ c20_4)
  · exact f10_mid (k := 21) (n := 93) rfl (by decide) (by decide) hv ok2 (okC_eq _ c21_1) (okC_eq _ c21_2) (okC_eq _ c21_3) (okC_eq _ c21_4)
  · exact f10_mid (k := 22) (n := 92) rfl (by decide) (by decide) hv ok2 (okC_eq _ c22_1) (okC_eq _ c22_2) (okC_eq _ c22_3) (okC_eq _ c22_4)
  · exact f10_mid (k := 23) (n := 91) rfl (by decide) (by decide) hv ok2 (okC_eq _ c23_1) (okC_eq _ c23_2) (okC_eq _ c23_3) (okC_eq _ c23_4)
  · exact f10_mid (k := 24) (n := 90) rfl (by decide) (by decide) hv ok2 (okC_eq _ c24_1) (okC_eq _ c24_2) (okC_eq _ c24_3) (okC_eq _ c24_4)
  · exact f10_mid (k := 25) (n := 89) rfl (by decide) (by decide) hv ok2 (okC_eq _ c25_1) (okC_eq _ c25_2) (okC_eq _ c25_3) (okC_eq _ c25_4)
  · exact f10_mid (k := 26) (n := 88) rfl (by decide) (by decide) hv ok2 (okC_eq _ c26_1) (okC_eq _ c26_2) (okC_eq _ c26_3) (okC_eq _ c26_4)
  · exact f10_mid (k := 27) (n := 87) rfl (by decide) (by decide) hv ok2 (okC_eq _ c27_1) (okC_eq _ c27_2) (okC_eq _ c27_3) (okC_eq _ c27_4)
  · exact f10_mid (k := 28) (n := 86) rfl (by decide) (by decide) hv ok2 (okC_eq _ c28_1) (okC_eq _ c28_2) (okC_eq _ c28_3) (okC_eq _ c28_4)
  · exact f10_mid (k := 29) (n := 85) rfl (by decide) (by decide) hv ok2 (okC_eq _ c29_1) (okC_eq _ c29_2) (okC_eq _ c29_3) (okC_eq _ c29_4)
  · exact f10_mid (k := 30) (n := 84) rfl (by decide) (by decide) hv ok2 (okC_eq _ c30_1) (okC_eq _ c30_2) (okC_eq _ c30_3) (okC_eq _ c30_4)
  · exact f10_mid (k := 31) (n := 83) rfl (by decide) (by decide) hv ok2 (okC_eq _ c31_1) (okC_eq _ c31_2) (okC_eq _ c31_3) (okC_eq _ c31_4)
  · exact f10_mid (k := 32) (n := 82) rfl (by decide) (by decide) hv ok2 (okC_eq _ c32_1) (okC_eq _ c32_2) (okC_eq _ c32_3) (okC_eq _ c32_4)
  · exact f10_mid (k := 33) (n := 81) rfl (by decide) (by decide) hv ok2 (okC_eq _ c33_1) (okC_eq _ c33_2) (okC_eq _ c33_3) (okC_eq _ c33_4)
  · exact f10_mid (k := 34) (n := 80) rfl (by decide) (by decide) hv ok2 (okC_eq _ c34_1) (okC_eq _ c34_2) (okC_eq _ c34_3) (okC_eq _ c34_4)
  · exact f10_mid (k := 35) (n := 79) rfl (by decide) (by decide) hv ok2 (okC_eq _ c35_1) (okC_eq _ c35_2) (okC_eq _ c35_3) (okC_eq _ c35_4)
  · exact f10_mid (k := 36) (n := 78) rfl (by decide) (by decide) hv ok2 (okC_eq _ c36_1) (okC_eq _ c36_2) (okC_eq _ c36_3) (okC_eq _ c36_4)
  · exact f10_mid (k := 37) (n := 77) rfl (by decide) (by decide) hv ok2 (okC_eq _ c37_1) (okC_eq _ c37_2) (okC_eq _ c37_3) (okC_eq _ c37_4)
  · exact f10_mid (k := 38) (n := 76) rfl (by decide) (by decide) hv ok2 (okC_eq _ c38_1) (okC_eq _ c38_2) (okC_eq _ c38_3) (okC_eq _ c38_4)
theorem FeedOk.le {A B : Nat} {fd : D} (h : FeedOk A fd) (l : A ≤ B) : FeedOk B fd := by
  obtain ⟨xs, c, r, k, e, hk⟩ := h
  exact ⟨xs, c, r, k, e, Nat.le_trans hk l⟩
def forB : ISs → ISs
  | .cons (.for_ _ _ b) _ => b
  | _ => .nil
theorem iter1 {B : Nat} {fd x : D} {ns : List Int} {Q : Env → Flow → Prop} (hf : FeedOk B fd) (hB : B < 800000)
    (k : ∀ (fd' y2 y3 y4 : D), FeedOk (B + 10) fd' → Q [some (.fro, .scr ns), some (.own, fd'), some (.fro, y2), some (.fro, y3), some (.fro, y4)] .nx) :
    putTK (.one 2) x [some (.fro, .scr ns), some (.own, fd), none, none, none] (fun en1 => wSs (C 119) gv 500 (forB (dropS 1 f11.body)) Q en1) := by
  walk_at "st"
  obtain ⟨r, e1, v, fd1, rfl, h0, h1, ok1⟩ := take_ok (n := 118) (m := 6) hf (by omega) (by decide) (by decide)
  refine ⟨_, e1, rfl, ?_⟩
  walk_at "st"
  obtain ⟨r, e2, m, fd2, rfl, g0, g1, ok2⟩ := take_ok (n := 118) (m := 2) ok1 (by omega) (by decide) (by decide)
  refine ⟨_, e2, rfl, ?_⟩
  have hm : m = 0 ∨ m = 1 := by omega
  rcases v6 h0 h1 with rfl | rfl | rfl | rfl | rfl | rfl
  · walk_at "st"
    refine ⟨_, f5_ok hm, rfl, ?_⟩
    walk_at "st"
    exact k _ _ _ _ (ok2.le (by omega))
  · walk_at "st"
    obtain ⟨r, e3, fd3, rfl, ok3⟩ := f6_ok ok2 (by omega) hm
    refine ⟨_, e3, rfl, ?_⟩
    walk_at "st"
    exact k _ _ _ _ (ok3.le (by omega))
  · walk_at "st"
    obtain ⟨r, e3, fd3, rfl, ok3⟩ := f7_ok ok2 (by omega) hm
    refine ⟨_, e3, rfl, ?_⟩
    walk_at "st"
    exact k _ _ _ _ (ok3.le (by omega))
  · walk_at "st"
    obtain ⟨r, e3, fd3, rfl, ok3⟩ := f8_ok ok2 (by omega)
    refine ⟨_, e3, rfl, ?_⟩
    walk_at "st"
    exact k _ _ _ _ (ok3.le (by omega))
  · walk_at "st"
    obtain ⟨r, e3, fd3, rfl, ok3⟩ := f9_ok ok2 (by omega)
    refine ⟨_, e3, rfl, ?_⟩
    walk_at "st"
    exact k _ _ _ _ (ok3.le (by omega))
  · walk_at "st"
    obtain ⟨r, e3, fd3, rfl, ok3⟩ := f10_ok ok2 (by omega)
    refine ⟨_, e3, rfl, ?_⟩
    walk_at "st"
    exact k _ _ _ _ (ok3.le (by omega))
theorem iter2 {B : Nat} {fd x : D} {ns : List Int} {a2 a3 a4 : D} {Q : Env → Flow → Prop} (hf : FeedOk B fd) (hB : B < 800000)
    (k : ∀ (fd' y2 y3 y4 : D), FeedOk (B + 10) fd' → Q [some (.fro, .scr ns), some (.own, fd'), some (.fro, y2), some (.fro, y3), some (.fro, y4)] .nx) :
    putTK (.one 2) x [some (.fro, .scr ns), some (.own, fd), some (.fro, a2), some (.fro, a3), some (.fro, a4)] (fun en1 => wSs (C 119) gv 500 (forB (dropS 1 f11.body)) Q en1) := by
  walk_at "st"
  obtain ⟨r, e1, v, fd1, rfl, h0, h1, ok1⟩ := take_ok (n := 118) (m := 6) hf (by omega) (by decide) (by decide)
  refine ⟨_, e1, rfl, ?_⟩
  walk_at "st"
  obtain ⟨r, e2, m, fd2, rfl, g0, g1, ok2⟩ := take_ok (n := 118) (m := 2) ok1 (by omega) (by decide) (by decide)
  refine ⟨_, e2, rfl, ?_⟩
  have hm : m = 0 ∨ m = 1 := by omega
  rcases v6 h0 h1 with rfl | rfl | rfl | rfl | rfl | rfl
  · walk_at "st"
    refine ⟨_, f5_ok hm, rfl, ?_⟩
    walk_at "st"
    exact k _ _ _ _ (ok2.le (by omega))
  · walk_at "st"
    obtain ⟨r, e3, fd3, rfl, ok3⟩ := f6_ok ok2 (by omega) hm
    refine ⟨_, e3, rfl, ?_⟩
    walk_at "st"
    exact k _ _ _ _ (ok3.le (by omega))
  · walk_at "st"
    obtain ⟨r, e3, fd3, rfl, ok3⟩ := f7_ok ok2 (by omega) hm
    refine ⟨_, e3, rfl, ?_⟩
    walk_at "st"
    exact k _ _ _ _ (ok3.le (by omega))
  · walk_at "st"
    obtain ⟨r, e3, fd3, rfl, ok3⟩ := f8_ok ok2 (by omega)
    refine ⟨_, e3, rfl, ?_⟩
    walk_at "st"
    exact k _ _ _ _ (ok3.le (by omega))
  · walk_at "st"
    obtain ⟨r, e3, fd3, rfl, ok3⟩ := f9_ok ok2 (by omega)
    refine ⟨_, e3, rfl, ?_⟩
    walk_at "st"
    exact k _ _ _ _ (ok3.le (by omega))
  · walk_at "st"
    obtain ⟨r, e3, fd3, rfl, ok3⟩ := f10_ok ok2 (by omega)
    refine ⟨_, e3, rfl, ?_⟩
    walk_at "st"
    exact k _ _ _ _ (ok3.le (by omega))
theorem law0 (ns : List Int) : ∃ ps, C 120 11 [(false, .scr ns)] = some ((false, .bl true), ps) := by
  obtain ⟨r, h, ps, rfl⟩ : ∃ r, C 120 11 [(false, .scr ns)] = some r ∧ ∃ ps, r = ((false, .bl true), ps) := by
    refine call_c (n := 119) (fn := f11) rfl rfl ?_
    walk_at "st"
    refine ⟨_, feed0 118 ns, rfl, ?_⟩
    walk_at "st"
    show wfor _ [.int 0, .int 1] _ _
    rw [wfor_c]
    refine iter1 ⟨_, _, _, _, rfl, Nat.le_refl 0⟩ (by decide) fun fd' y2 y3 y4 ok => ?_
    dsimp only
    rw [wfor_c]
    refine iter2 ok (by decide) fun fd' y2 y3 y4 ok => ?_
    dsimp only
    rw [wfor_n]
    walk_at "st"
    exact ⟨_, rfl⟩
  exact ⟨ps, h⟩
theorem law_ok (ns : List Int) (_ : ns.length ≤ 63) : ∃ ps, callF lw.fns lw.gv 500 (119 + 1) 11 [(false, .scr ns)] = some ((false, .bl true), ps) := by
  have h := law0 ns
  unfold C at h
  exact h
end K59
theorem PySem.Challenge.cw_kindmakes_k59_too_wide_or_not_right_holds : PySem.Challenge.rw_kindmakes_k59_too_wide_or_not_right.Holds :=
  K59.main K59.law_ok
#print axioms PySem.Challenge.cw_kindmakes_k59_too_wide_or_not_right_holds
